import PyProof.Rows.All
import HandS.ForMost
import HandS.ForExc
import HandS.Walk
import KE.KStateDown
import HandS.More
import HandS.Words
import HandS.WordsExc
import HandS.Defaults
import HandS.Exc
import HandS.ExcInit
import HandS.ExcIs
import HandS.ExcField
import HandS.Head0
import HandS.Head1
import HandS.Head2
import HandS.HeadEnd
import HandS.HeadHook1
import HandS.HeadHook2
import PySem.Challenge.RW_selfrights_k73_put_over
import KE.KDictKeyed
import KE.KDictPairs
import KE.KDictLaw
import KE.DataMinMax
import KE.SortData
import PyProof.ReprReads
import HandS.TupMul
import HandS.Deep
import HandS.TupAny
import HandS.IsInst
import HandS.Flow
import HandS.Rev
import HandS.Zip
import HandS.Conv
import HandS.SortKw
import HandS.ReCall
import KE.GoesEnum
import KE.KDictZip
import HandS.Comp
import HandS.CallSlots
import HandS.Ends
import PyProof.ReprRoads
import PyProof.CallFns
import HandS.ClsMeth
import HandS.TryOnly
import KE.KExcIs
set_option Elab.async false
set_option linter.all false
set_option maxRecDepth 100000
section
set_option Elab.async false
set_option linter.all false
set_option maxRecDepth 100000
namespace PX
open PySem PySem.Spec PyProof.Rows L2

/-! ### data -/
/-- data: what a value stands for -/
inductive D where
  | none | bool (b : Bool) | int (i : Int) | str (s : Str) | tup (l : List D) | lst (l : List D) | scr (l : List D)
  | dct (k : Bool) (l : List (D × D))
  | obj (c : Nat) (fs : List (Nat × D))
instance : Inhabited D := ⟨.none⟩

/-- plain data, no deeper than n -/
def D.ok : Nat → D → Bool
  | _, .none => true
  | _, .bool _ => true
  | _, .int _ => true
  | _, .str s => PyData.strOk s
  | 0, _ => false
  | n + 1, .tup l => l.all (D.ok n)
  | n + 1, .lst l => l.all (D.ok n)
  | n + 1, .scr l => l.all (D.ok n)
  | _, .dct _ _ => false
  | _, .obj _ _ => false
mutual
def D.py : D → PyData
  | .none => .none
  | .bool b => .bool b
  | .int i => .int i
  | .str s => .str s
  | .tup l => .tuple (D.pys l)
  | .lst l => .list (D.pys l)
  | .scr l => .list (D.pys l)
  | .dct _ _ => .none
  | .obj _ _ => .none
def D.pys : List D → List PyData
  | [] => []
  | d :: ds => D.py d :: D.pys ds
end
/-- Python's == -/
def D.eq (a b : D) : Bool := PyData.eqv a.py b.py
end PX

end

section
set_option Elab.async false
set_option linter.all false
set_option autoImplicit false
set_option maxRecDepth 100000
set_option maxHeartbeats 1000000
/-! what the head tells (its run stands at the beginning of a file, where Lean holds little) -/
namespace PX
open PySem PySem.Spec PyProof.Rows L2
/-! ### the head with one Bool more -/
/-- the addresses looked at -/
def asS (g : Addr → Option Obj) (n : Nat) : List Addr := He.asD g n ++ [cStatics]
def hookM (n : Nat) (fa : List He.Fa) (fn : List He.DefD) (ex : PySem.W.Frag → Bool) : PySem.W.Hook where
  α := He.AlD × Bool
  obs := fun s => (fun K => (He.obsD fa fn K, ex K)) (He.frG s.heap.get? (asS s.heap.get? n))
  val := fun _ => (He.valD fn, true)
  says := fun _ h => ∃ K : PySem.W.Frag, K.In h ∧ He.SaysD fa fn K ∧ ex K = true
  of := fun _ _ e => ⟨_, He.frG_in, congrArg Prod.fst e, congrArg Prod.snd e⟩
  keeps := fun _ _ _ ⟨K, hK, c⟩ k => ⟨K, PySem.W.Frag.In.keeps hK k, c⟩
def obM (n : Nat) (fa : List He.Fa) (fn : List He.DefD) (ex : PySem.W.Frag → Bool) (s : PySem.W.SharedT) : He.AlD × Bool := (fun K => (He.obsD fa fn K, ex K)) (He.frG (HandSHeadRun.getT s) (asS (HandSHeadRun.getT s) n))
theorem obM_eq {n : Nat} {fa : List He.Fa} {fn : List He.DefD} {ex : PySem.W.Frag → Bool} (s : PySem.W.SharedT) : obM n fa fn ex s = (hookM n fa fn ex).obs s.abs := by
  have e : HandSHeadRun.getT s = s.abs.heap.get? := funext (HandSHeadRun.getT_eq s)
  unfold obM
  rw [e] <;> rfl
mutual
def gB (K : PySem.W.Frag) : D → Value → Bool
  | .none, .none => true
  | .bool b, .bool c => b == c
  | .int i, .int j _ => decide (i = j)
  | .str s, .str z _ => decide (s = z)
  | .tup l, .ref a => (match K.lookup a with
    | some ⟨.type c, _, .seq its _, _⟩ => decide (c = "tuple") && decide (its.size ≤ sizeLine) && gBs K l its.toList
    | _ => false)
  | _, _ => false
def gBs (K : PySem.W.Frag) : List D → List Value → Bool
  | [], [] => true
  | d :: ds, u :: us => gB K d u && gBs K ds us
  | _, _ => false
end
def oexB (K : PySem.W.Frag) (C : Addr) : Bool := (match K.lookup C with
  | some ⟨.type "type", _, .cls cd, sl⟩ => (match cd.mro, sl.toList with
    | .ref C' :: bm, [_, _, _, _, some (.builtin n), _] => C' == C && n == "ValueError.__new__" && !cd.hasDel && cd.hasDict && PySem.HandSPX.refsVE bm
    | _, _ => false)
  | _ => false) && decide (PySem.W.findIn K (.ref C) "__setattr__" = some (some (.builtin "object.__setattr__"))) && decide (PySem.W.subIn K (.ref C) (.type "BaseException") = some true) && decide (PySem.W.typeIn K (.ref C) = some (.type "type")) && PySem.W.keepIn K (.ref C)
def excB (K : PySem.W.Frag) (R : Addr) (Cs : List (Addr × List Str)) : Bool :=
  Cs.all (fun p => oexB K p.1 && xfB K p.1 && decide (PySem.W.findIn K (.ref p.1) "__class__" = some (some (.builtin "object.__class__"))) && decide (PySem.W.mroIn K p.1 (.type "object") = some true) && p.2.all (fun f => decide (PySem.W.findIn K (.ref p.1) f = some none)) &&
    decide (PySem.W.kitOne K (.ref p.1) (.type "ValueError") = some true) && decide (PySem.W.exmOne K (.ref p.1) (.ref R) = some true)) &&
  (List.range Cs.length).all (fun i => (List.range Cs.length).all fun j => decide (PySem.W.kitOne K (.ref (Cs.getD i default).1) (.ref (Cs.getD j default).1) = some (i == j)) && decide (PySem.W.exmOne K (.ref (Cs.getD i default).1) (.ref (Cs.getD j default).1) = some (i == j))) &&
  decide (PySem.W.specialIn K (.builtin "object.__class__") "__get__" = some (some (.builtin "getset_descriptor.__get__"))) && decide (PySem.W.takesIn K (.builtin "object.__class__") = some true)
def baseB (K : PySem.W.Frag) (R : Addr) : Bool := PySem.W.readsIn K R (.type "type") && decide (PySem.W.specialIn K (.ref R) "__getattribute__" = some (some (.builtin "type.__getattribute__"))) && (match PySem.W.findCls K (.ref R) (.type "type") "__init__" with
  | some (.val (.builtin n)) => decide (n = "ValueError.__init__")
  | _ => false)
/-- the text's exceptions and globals -/
def exOf (xb : Str) (exs : List Str) (xfs : List (List Str)) (inits : List (Nat × He.DefD)) (gl : List Str) (gd : List D) (K : PySem.W.Frag) : Bool := excB K (He.ga K xb) ((exs.zip xfs).map fun p => (He.ga K p.1, p.2)) && baseB K (He.ga K xb) &&
  inits.all (fun e => decide (PySem.W.findIn K (.ref (He.ga K (exs.getD e.1 default))) "__init__" = some (some (.ref (He.fAd K e.2.at_)))) && decide (PySem.W.typeIn K (.ref (He.fAd K e.2.at_)) = some (.type "function"))) &&
  (gl.zip gd).all (fun p => match PySem.W.nsIn K mainGlobals p.1 with
    | some (some u) => gB K p.2 u
    | _ => false)
end PX

end

section
set_option Elab.async false
set_option linter.all false
set_option maxRecDepth 100000
set_option maxHeartbeats 0
namespace K73
open PySem PySem.Spec PyProof.Rows L2 PX
def top (i : Nat) : Stmt := PySem.Challenge.pw_selfrights_k73_put_over.main.body.getD i (.Pass ⟨0, 0, 0, 0⟩)
def d0 : He.DefD := ⟨("lays_below", none), "lays_below", "lays_below", defArgs (top 12), defBody (top 12), defScope (top 12), [], []⟩
def d1 : He.DefD := ⟨("pairs_met", none), "pairs_met", "pairs_met", defArgs (top 13), defBody (top 13), defScope (top 13), [], []⟩
def d2 : He.DefD := ⟨("put_over", none), "put_over", "put_over", defArgs (top 14), defBody (top 14), defScope (top 14), [], []⟩
def d3 : He.DefD := ⟨("lower_part", none), "lower_part", "lower_part", defArgs (top 15), defBody (top 15), defScope (top 15), [], []⟩
def d4 : He.DefD := ⟨("_law_feed", none), "_law_feed", "_law_feed", defArgs (top 17), defBody (top 17), defScope (top 17), [], []⟩
def d5 : He.DefD := ⟨("_law_take", none), "_law_take", "_law_take", defArgs (top 18), defBody (top 18), defScope (top 18), [], []⟩
def d6 : He.DefD := ⟨("_law_same", none), "_law_same", "_law_same", defArgs (top 19), defBody (top 19), defScope (top 19), [], []⟩
def d7 : He.DefD := ⟨("_law_term", none), "_law_term", "_law_term", defArgs (top 20), defBody (top 20), defScope (top 20), [], []⟩
def d8 : He.DefD := ⟨("_law_claim", none), "_law_claim", "_law_claim", defArgs (top 21), defBody (top 21), defScope (top 21), [], []⟩
def d9 : He.DefD := ⟨("_law_rule", none), "_law_rule", "_law_rule", defArgs (top 22), defBody (top 22), defScope (top 22), [], []⟩
def d10 : He.DefD := ⟨("_law_rules", none), "_law_rules", "_law_rules", defArgs (top 23), defBody (top 23), defScope (top 23), [], []⟩
def d11 : He.DefD := ⟨("_law_drawn", none), "_law_drawn", "_law_drawn", defArgs (top 24), defBody (top 24), defScope (top 24), [], []⟩
def d12 : He.DefD := ⟨("_law_upper", none), "_law_upper", "_law_upper", defArgs (top 25), defBody (top 25), defScope (top 25), [], []⟩
def d13 : He.DefD := ⟨("_law_told", none), "_law_told", "_law_told", defArgs (top 26), defBody (top 26), defScope (top 26), [], []⟩
def d14 : He.DefD := ⟨("_law_due", none), "_law_due", "_law_due", defArgs (top 27), defBody (top 27), defScope (top 27), [], []⟩
def d15 : He.DefD := ⟨("_law_wide", none), "_law_wide", "_law_wide", defArgs (top 28), defBody (top 28), defScope (top 28), [], []⟩
def d16 : He.DefD := ⟨("_law_others", none), "_law_others", "_law_others", defArgs (top 29), defBody (top 29), defScope (top 29), [], []⟩
def d17 : He.DefD := ⟨("_law_faulty", none), "_law_faulty", "_law_faulty", defArgs (top 30), defBody (top 30), defScope (top 30), [], []⟩
def d18 : He.DefD := ⟨("_law_several", none), "_law_several", "_law_several", defArgs (top 31), defBody (top 31), defScope (top 31), [], []⟩
def d19 : He.DefD := ⟨("law", none), "law", "law", defArgs (top 32), defBody (top 32), defScope (top 32), [], []⟩
def xd0 : He.DefD := ⟨("NoSystem", some ("__init__" : Str)), "__init__", "NoSystem.__init__", defArgs (inClass (top 2) 0), defBody (inClass (top 2) 0), defScope (inClass (top 2) 0), [], []⟩
def xd1 : He.DefD := ⟨("NoStep", some ("__init__" : Str)), "__init__", "NoStep.__init__", defArgs (inClass (top 3) 0), defBody (inClass (top 3) 0), defScope (inClass (top 3) 0), [], []⟩
def xd2 : He.DefD := ⟨("NoText", some ("__init__" : Str)), "__init__", "NoText.__init__", defArgs (inClass (top 4) 0), defBody (inClass (top 4) 0), defScope (inClass (top 4) 0), [], []⟩
def xd3 : He.DefD := ⟨("NoPaper", some ("__init__" : Str)), "__init__", "NoPaper.__init__", defArgs (inClass (top 5) 0), defBody (inClass (top 5) 0), defScope (inClass (top 5) 0), [], []⟩
def xd4 : He.DefD := ⟨("TooMany", some ("__init__" : Str)), "__init__", "TooMany.__init__", defArgs (inClass (top 6) 0), defBody (inClass (top 6) 0), defScope (inClass (top 6) 0), [], []⟩
def xd5 : He.DefD := ⟨("NoOver", some ("__init__" : Str)), "__init__", "NoOver.__init__", defArgs (inClass (top 7) 0), defBody (inClass (top 7) 0), defScope (inClass (top 7) 0), [], []⟩
def hfa : List He.Fa := [.glo ("lays_below" : Str), .glo ("pairs_met" : Str), .glo ("put_over" : Str), .glo ("lower_part" : Str), .glo ("_law_feed" : Str), .glo ("_law_take" : Str), .glo ("_law_same" : Str), .glo ("_law_term" : Str), .glo ("_law_claim" : Str), .glo ("_law_rule" : Str), .glo ("_law_rules" : Str), .glo ("_law_drawn" : Str), .glo ("_law_upper" : Str), .glo ("_law_told" : Str), .glo ("_law_due" : Str), .glo ("_law_wide" : Str), .glo ("_law_others" : Str), .glo ("_law_faulty" : Str), .glo ("_law_several" : Str), .glo ("law" : Str), .free (Str.ofString "len"), .free (Str.ofString "tuple"), .free (Str.ofString "list"), .free (Str.ofString "int"), .free (Str.ofString "bool"), .free (Str.ofString "str"), .free (Str.ofString "abs"), .free (Str.ofString "min"), .free (Str.ofString "max"), .free (Str.ofString "sum"), .free (Str.ofString "any"), .free (Str.ofString "all"), .free (Str.ofString "sorted"), .free (Str.ofString "isinstance"), .free (Str.ofString "repr"), .free (Str.ofString "range"), .free (Str.ofString "enumerate"), .free (Str.ofString "zip"), .free (Str.ofString "reversed"), .free (Str.ofString "dict"), .free (Str.ofString "ValueError"), .glo ("NoSystem" : Str), .glo ("NoStep" : Str), .glo ("NoText" : Str), .glo ("NoPaper" : Str), .glo ("TooMany" : Str), .glo ("NoOver" : Str), .glo ("NoRow" : Str), .glo ("RightError" : Str)]
def hfn : List He.DefD := [d0, d1, d2, d3, d4, d5, d6, d7, d8, d9, d10, d11, d12, d13, d14, d15, d16, d17, d18, d19, xd0, xd1, xd2, xd3, xd4, xd5]
def hgd : List D := [.int 4, .int 8]
def hex (K : PySem.W.Frag) : Bool := exOf ("RightError" : Str) ["NoSystem", "NoStep", "NoText", "NoPaper", "TooMany", "NoOver", "NoRow"] [["word", "at"], ["number"], ["row", "word"], ["word", "number"], ["word"], ["word"], []] [(0, xd0), (1, xd1), (2, xd2), (3, xd3), (4, xd4), (5, xd5)] ["MOST_KINDS", "MOST_RULES"] hgd K
def nm0 : List PySem.Str := ["RightError", "NoSystem", "NoStep", "NoText", "NoPaper", "TooMany", "NoOver", "NoRow", "MOST_KINDS", "MOST_RULES", "lays_below", "pairs_met", "put_over", "lower_part", "_law_feed", "_law_take", "_law_same", "_law_term", "_law_claim", "_law_rule", "_law_rules", "_law_drawn", "_law_upper", "_law_told", "_law_due", "_law_wide", "_law_others", "_law_faulty", "_law_several"]
def nms : List PySem.Str := nm0
abbrev R : PySem.W.OpenRow := PySem.W.OpenLaw.row PySem.Challenge.rw_selfrights_k73_put_over
abbrev hk : PySem.W.Hook := hookM 4 hfa hfn hex
def ob (s : PySem.W.SharedT) : He.AlD × Bool := obM 4 hfa hfn hex s
theorem ob_eq (s : PySem.W.SharedT) : ob s = hk.obs s.abs := obM_eq s
theorem run (w : World) : HandSHeadRun.RunEq R (PySem.W.view R.prog [32]) hk ob 6000 nms w := by
  intro os
  kernel_rfl
end K73

end

section
set_option Elab.async false
set_option linter.all false
set_option maxRecDepth 100000
namespace PX
open PySem PySem.Spec PyProof.Rows L2

/-! ### what stands for what -/
/-- the text's own things by number: classes, fields -/
structure Nm where
  K : PySem.W.Frag
  P : Program
  w : World
  cls : Nat → Addr
  fld : Nat → Str
  exc : Nat → Addr
  xfs : Nat → List Str

mutual
/-- a key of a dict as the library has it -/
def D.nk : D → NestedKey
  | .none => .none
  | .bool b => .num (if b then 1 else 0)
  | .int i => .num i
  | .str s => .text s
  | .tup l => .tup (D.nks l)
  | .lst _ => .none
  | .scr _ => .none
  | .dct _ _ => .none
  | .obj _ _ => .none
def D.nks : List D → List NestedKey
  | [] => []
  | d :: ds => D.nk d :: D.nks ds
end
/-- may be a key within a tuple -/
def D.kOk : Nat → D → Bool
  | _, .none => true
  | _, .int _ => true
  | _, .str _ => true
  | n + 1, .tup l => l.all (D.kOk n)
  | _, _ => false
/-- a tuple that may be a key -/
def D.kTup (d : D) : Bool := match d with
  | .tup _ => D.kOk 8 d
  | _ => false
/-- a dict with tuple keys at a -/
def dctO (P : Program) (w : World) (a : Addr) (ks : List (NestedKey × Addr)) (vs : List V) : HO :=
  .ext fun h => (a == sysModules) = false ∧ ks.length ≤ sizeLine ∧ ∃ us, Vals vs us ∧ ks.length = us.length ∧ ∃ o es ep, h.get? a = some o ∧ o.ExactDict ∧ o.data = .dict es ep ∧
    es.toList = ((ks.zip us).map fun p => (p.1.1, p.1.2, p.2)).map (entryOfKey (nestedKind P w)) ∧ (ks.map Prod.fst).Nodup
/-- a number or a text as a key -/
def D.key : D → Key
  | .int i => .inl i
  | .str s => .inr s
  | _ => .inl 0
def D.isKey : D → Bool
  | .int _ => true
  | .str _ => true
  | _ => false

/-- the script: handed in, or one of the module's own -/
def ScL (K : PySem.W.Frag) (H : Hp) (a : Addr) (xs : List V) : Prop := (∃ o, H a = some (.frz o (.lst xs))) ∨
  ∃ (o : Obj) (its : Array Value) (n : Nat), K.lookup a = some o ∧ o.cls = .type "list" ∧ o.dict = none ∧ o.data = .seq its n ∧ its.size ≤ sizeLine ∧ Vals xs its.toList
theorem ScL.sq {K : PySem.W.Frag} {H : Hp} {a : Addr} {xs : List V} (h : ScL K H a xs) : SqL K H a xs := by
  rcases h with h | h
  · exact .inl (.inr h)
  · exact .inr h
theorem ScL.keep {K : PySem.W.Frag} {H H' : Hp} {a : Addr} {xs : List V} (h : ScL K H a xs) (k2 : ∀ b o u, H b = some (.frz o u) → H' b = some (.frz o u)) : ScL K H' a xs := by
  rcases h with ⟨o, h⟩ | h
  · exact .inl ⟨o, k2 _ _ _ h⟩
  · exact .inr h
mutual
def Rep (N : Nm) (H : Hp) (W : Addr → Prop) : D → V → Prop
  | .none, v => v = .non
  | .bool b, v => v = .bl b
  | .int i, v => v = .int i
  | .str s, v => v = .str s
  | .tup l, v => ∃ a xs, v = .ref a ∧ SqT N.K H a xs ∧ Reps N H W l xs
  | .lst l, v => ∃ a xs, v = .ref a ∧ ¬ W a ∧ H a = some (.lst xs) ∧ Reps N H W l xs
  | .scr l, v => ∃ a xs, v = .ref a ∧ ScL N.K H a xs ∧ Reps N H W l xs
  | .dct true l, v => ∃ a ks vs, v = .ref a ∧ ¬ W a ∧ H a = some (dctO N.P N.w a ks vs) ∧ RepsV N H W l ks vs
  | .dct false l, v => ∃ a xs, v = .ref a ∧ ¬ W a ∧ H a = some (.dK xs) ∧ RepsK N H W l xs
  | .obj c fs, v => ∃ a dx gs, v = .ref a ∧ ¬ W a ∧ H a = some (.ins (N.cls c) dx gs) ∧ RepsF N H W fs gs
def Reps (N : Nm) (H : Hp) (W : Addr → Prop) : List D → List V → Prop
  | [], vs => vs = []
  | d :: ds, vs => ∃ x r, vs = x :: r ∧ Rep N H W d x ∧ Reps N H W ds r
/-- the keys and values of a dict with tuple keys -/
def RepsV (N : Nm) (H : Hp) (W : Addr → Prop) : List (D × D) → List (NestedKey × Addr) → List V → Prop
  | [], ks, vs => ks = [] ∧ vs = []
  | (k, d) :: ds, ks, vs => ∃ b kr x r, ks = (k.nk, b) :: kr ∧ vs = x :: r ∧ k.kTup = true ∧ Rep N H W k (.ref b) ∧ Rep N H W d x ∧ RepsV N H W ds kr r
/-- .. with numbers and texts as keys -/
def RepsK (N : Nm) (H : Hp) (W : Addr → Prop) : List (D × D) → List (Key × V) → Prop
  | [], xs => xs = []
  | (k, d) :: ds, xs => ∃ x r, xs = (k.key, x) :: r ∧ k.isKey = true ∧ Rep N H W d x ∧ RepsK N H W ds r
/-- an object's fields -/
def RepsF (N : Nm) (H : Hp) (W : Addr → Prop) : List (Nat × D) → List (Str × V) → Prop
  | [], gs => gs = []
  | (f, d) :: ds, gs => ∃ x r, gs = (N.fld f, x) :: r ∧ Rep N H W d x ∧ RepsF N H W ds r
end

/-- the world goes on: but for what stands in T all that was tracked is as it was -/
structure Ext (T : Addr → Prop) (H : Hp) (W : Addr → Prop) (H' : Hp) (W' : Addr → Prop) : Prop where
  keep : ∀ b o, H b = some o → ¬ T b → H' b = some o
  own : ∀ b, W' b → W b ∨ H b = none
  stay : ∀ b, W b → ¬ T b → W' b
  frz : ∀ b o u, H b = some (.frz o u) → H' b = some (.frz o u)
  tup : ∀ b xs, H b = some (.tup xs) → H' b = some (.tup xs)
  there : ∀ b, H' b = none → H b = none

section
variable {N : Nm} {H H' : Hp} {W W' : Addr → Prop}
theorem rd_keep {u : HO} {a : Addr} (h : Rd H a u) (k : ∀ o, H a = some o → H' a = some o) : Rd H' a u := by
  rcases h with h | ⟨o, h⟩
  · exact .inl (k _ h)
  · exact .inr ⟨o, k _ h⟩
theorem sqL_keep {K : PySem.W.Frag} {a : Addr} {xs : List V} (h : SqL K H a xs) (k : ∀ o, H a = some o → H' a = some o) : SqL K H' a xs := by
  rcases h with h | h
  · exact .inl (rd_keep h k)
  · exact .inr h
theorem sqT_keep {K : PySem.W.Frag} {a : Addr} {xs : List V} (h : SqT K H a xs) (k1 : ∀ b xs, H b = some (.tup xs) → H' b = some (.tup xs)) (k2 : ∀ b o u, H b = some (.frz o u) → H' b = some (.frz o u)) : SqT K H' a xs := by
  rcases h with (h | ⟨o, h⟩) | h
  · exact .inl (.inl (k1 _ _ h))
  · exact .inl (.inr ⟨o, k2 _ _ _ h⟩)
  · exact .inr h
end

mutual
theorem Rep.mono {N : Nm} {H H' : Hp} {W W' : Addr → Prop} (k : ∀ b o, H b = some o → ¬ W b → H' b = some o) (o : ∀ b, W' b → W b ∨ H b = none)
    (k1 : ∀ b xs, H b = some (.tup xs) → H' b = some (.tup xs)) (k2 : ∀ b o u, H b = some (.frz o u) → H' b = some (.frz o u)) : ∀ (d : D) (v : V), Rep N H W d v → Rep N H' W' d v
  | .none, v, h => h
  | .bool b, v, h => h
  | .int i, v, h => h
  | .str s, v, h => h
  | .tup l, v, h => by
    obtain ⟨a, xs, e, s, r⟩ := h
    exact ⟨a, xs, e, sqT_keep s k1 k2, Reps.mono k o k1 k2 l xs r⟩
  | .lst l, v, h => by
    obtain ⟨a, xs, e, nw, s, r⟩ := h
    refine ⟨a, xs, e, fun z => ?_, k _ _ s nw, Reps.mono k o k1 k2 l xs r⟩
    rcases o a z with z | z1
    · exact nw z
    · rw [z1] at s; cases s
  | .scr l, v, h => by
    obtain ⟨a, xs, e, s, r⟩ := h
    exact ⟨a, xs, e, s.keep k2, Reps.mono k o k1 k2 l xs r⟩
  | .dct true l, v, h => by
    obtain ⟨a, ks, vs, e, nw, s, r⟩ := h
    refine ⟨a, ks, vs, e, fun z => ?_, k _ _ s nw, RepsV.mono k o k1 k2 l ks vs r⟩
    rcases o a z with z | z1
    · exact nw z
    · rw [z1] at s; cases s
  | .dct false l, v, h => by
    obtain ⟨a, xs, e, nw, s, r⟩ := h
    refine ⟨a, xs, e, fun z => ?_, k _ _ s nw, RepsK.mono k o k1 k2 l xs r⟩
    rcases o a z with z | z1
    · exact nw z
    · rw [z1] at s; cases s
  | .obj c fs, v, h => by
    obtain ⟨a, dx, gs, e, nw, s, r⟩ := h
    refine ⟨a, dx, gs, e, fun z => ?_, k _ _ s nw, RepsF.mono k o k1 k2 fs gs r⟩
    rcases o a z with z | z1
    · exact nw z
    · rw [z1] at s; cases s
theorem Reps.mono {N : Nm} {H H' : Hp} {W W' : Addr → Prop} (k : ∀ b o, H b = some o → ¬ W b → H' b = some o) (o : ∀ b, W' b → W b ∨ H b = none)
    (k1 : ∀ b xs, H b = some (.tup xs) → H' b = some (.tup xs)) (k2 : ∀ b o u, H b = some (.frz o u) → H' b = some (.frz o u)) : ∀ (ds : List D) (vs : List V), Reps N H W ds vs → Reps N H' W' ds vs
  | [], vs, h => h
  | d :: ds, vs, h => by
    obtain ⟨x, r, e, h1, h2⟩ := h
    exact ⟨x, r, e, Rep.mono k o k1 k2 d x h1, Reps.mono k o k1 k2 ds r h2⟩
theorem RepsV.mono {N : Nm} {H H' : Hp} {W W' : Addr → Prop} (k : ∀ b o, H b = some o → ¬ W b → H' b = some o) (o : ∀ b, W' b → W b ∨ H b = none)
    (k1 : ∀ b xs, H b = some (.tup xs) → H' b = some (.tup xs)) (k2 : ∀ b o u, H b = some (.frz o u) → H' b = some (.frz o u)) : ∀ (ds : List (D × D)) (ks : List (NestedKey × Addr)) (vs : List V), RepsV N H W ds ks vs → RepsV N H' W' ds ks vs
  | [], ks, vs, h => h
  | (c, d) :: ds, ks, vs, h => by
    obtain ⟨b, kr, x, r, e, e2, h0, h1, h2, h3⟩ := h
    exact ⟨b, kr, x, r, e, e2, h0, Rep.mono k o k1 k2 c _ h1, Rep.mono k o k1 k2 d x h2, RepsV.mono k o k1 k2 ds kr r h3⟩
theorem RepsK.mono {N : Nm} {H H' : Hp} {W W' : Addr → Prop} (k : ∀ b o, H b = some o → ¬ W b → H' b = some o) (o : ∀ b, W' b → W b ∨ H b = none)
    (k1 : ∀ b xs, H b = some (.tup xs) → H' b = some (.tup xs)) (k2 : ∀ b o u, H b = some (.frz o u) → H' b = some (.frz o u)) : ∀ (ds : List (D × D)) (vs : List (Key × V)), RepsK N H W ds vs → RepsK N H' W' ds vs
  | [], vs, h => h
  | (_, d) :: ds, vs, h => by
    obtain ⟨x, r, e, h0, h1, h2⟩ := h
    exact ⟨x, r, e, h0, Rep.mono k o k1 k2 d x h1, RepsK.mono k o k1 k2 ds r h2⟩
theorem RepsF.mono {N : Nm} {H H' : Hp} {W W' : Addr → Prop} (k : ∀ b o, H b = some o → ¬ W b → H' b = some o) (o : ∀ b, W' b → W b ∨ H b = none)
    (k1 : ∀ b xs, H b = some (.tup xs) → H' b = some (.tup xs)) (k2 : ∀ b o u, H b = some (.frz o u) → H' b = some (.frz o u)) : ∀ (ds : List (Nat × D)) (vs : List (Str × V)), RepsF N H W ds vs → RepsF N H' W' ds vs
  | [], vs, h => h
  | (_, d) :: ds, vs, h => by
    obtain ⟨x, r, e, h1, h2⟩ := h
    exact ⟨x, r, e, Rep.mono k o k1 k2 d x h1, RepsF.mono k o k1 k2 ds r h2⟩
end
end PX

end

section
set_option Elab.async false
set_option linter.all false
set_option maxRecDepth 100000
namespace PX
open PySem

/-! ### the small language and its meaning -/
/-- a slot: nothing, a value, a list (dict, object) of one's own; par: a caller's -/
inductive Cell where
  | unset | val (d : D) | own (par : Bool) (d : D)
instance : Inhabited Cell := ⟨.unset⟩
abbrev Ev := List Cell
inductive Res (α : Type) where
  | ok (a : α) (ρ : Ev) | exc (c : Nat) (fs : List (Nat × D)) | bad
def Res.bind {α β : Type} (r : Res α) (f : α → Ev → Res β) : Res β := match r with
  | .ok a ρ => f a ρ
  | .exc c fs => .exc c fs
  | .bad => .bad
inductive CRes where
  | ok (d : D) (fr : Bool) (outs : List Cell) | exc (c : Nat) (fs : List (Nat × D)) | bad

inductive Op2 where
  | add | sub | mul | mod | fdiv | pow | shl | shr | band
inductive Cp where
  | eq | ne | lt | le | gt | ge | isN | notN | isin | notin
/-- kinds that isinstance asks -/
inductive Ty where
  | int | bool | str | tup | lst
/-- built-in functions -/
inductive BI where
  | len | tuple | list | int | bool | str | minD | maxD | min | max | sum | any | all | sorted | set | abs | repr | dict (k : Bool) | isi (tup : Bool) (t : List Ty)
  | lrng1 | lrng2 | trng1 | trng2 | lzip | lenset | sset
inductive BM where
  | get1 | get2 | index | join | split | isdigit | count
inductive MU where
  | append | extend | insert | pop | popi | clear
inductive Tg where
  | name (i : Nat) | tup (l : List Nat)
inductive E where
  | none | bool (b : Bool) | int (i : Int) | str (s : Str) | var (i : Nat) | glob (k : Nat)
  | bin (o : Op2) (a b : E) | neg (a : E) | not (a : E) | and (a b : E) | or (a b : E)
  | cmp (c : Cp) (a b : E) | cmp2 (c c' : Cp) (a b d : E) | ite (t a b : E)
  | nil | cons (a b : E) | tup (l : E) | lst (l : E)
  | idx (a i : E) | slice (a lo hi : E)
  | call (f : Nat) (l : E) | new (c f : Nat) (l : E) | meth (c f : Nat) (o l : E) | attr (o : E) (f : Nat)
  | bi (b : BI) (l : E) | bm (b : BM) (o l : E) | mut (m : MU) (i : Nat) (l : E)
  | comp (e : E) (t : Tg) (it c : E) (vs : List Nat)
  | dnew (k : Bool) | ddisp (k : Bool) (ks vs : E)
  | rng1 (a : E) | rng2 (a b : E) | rng3 (a b c : E) | enum (a : E) | zip (a b : E) | zipN (a b : E) | rev (a : E) | isq (a : E)
  | tval (a : E)
/-- what an except suite stores; fld: a field of the exception -/
inductive XE where
  | none | bool (b : Bool) | int (i : Int) | str (s : Str) | fld (k : Nat) | nil | cons (a b : XE) | tup (l : XE) | lst (l : XE)
/-- isinstance(e, C) | isinstance(e, (C, ..)), and isinstance(e, ValueError) behind it -/
structure XT where
  ks : List Nat
  tup : Bool
  ve : Bool
inductive S where
  | skip | seq (a b : S) | expr (e : E) | asg (o : Bool) (t : Tg) (e : E) | setI (i : Nat) (k v : E) | setA (i f : Nat) (v : E)
  | ret (e : E) | ite (t : E) (a b : S) | for (t : Tg) (it : E) (b : S) | while (t : E) (b : S) | raise (c : Nat) (l : E) | brk | cont | never
  | tryR (i : Nat) (a : E) (j : Option Nat) (cs : Option Nat) (nx : Nat) (h : List (Option XT × XE))
inductive Fl where
  | nx | bk | ct | ret (d : D) (fr : Bool)

/-- the most items of a list or tuple -/
def lim : Nat := 16777216
theorem lim_eq : lim = sizeLine := by decide
/-- the most turns of a while -/
def most : Nat := 1000000000

def zipD : List D → List D → List D
  | a :: r, b :: s => .tup [a, b] :: zipD r s
  | _, _ => []
/-! #### reckoning -/
def i64 (i : Int) : Bool := decide (-(2 ^ 64) < i) && decide (i < 2 ^ 64)
def bop : Op2 → D → D → Option D
  | .add, .int i, .int j => some (.int (i + j))
  | .add, .tup a, .tup b => if a.length ≤ lim ∧ b.length ≤ lim ∧ a.length + b.length ≤ lim then some (.tup (a ++ b)) else none
  | .add, .lst a, .lst b => if a.length + b.length ≤ lim then some (.lst (a ++ b)) else none
  | .sub, .int i, .int j => some (.int (i - j))
  | .mul, .int i, .int j => if i64 i || i64 j then some (.int (i * j)) else none
  | .mul, .lst a, .int j => if decide (-(2 ^ 63) ≤ j) && decide (j < 2 ^ 63) && decide (a.length * j.toNat ≤ lim) then some (.lst (List.replicate j.toNat a).flatten) else none
  | .mul, .tup a, .int j => if decide (-1000 ≤ j) && decide (j ≤ 1000) && decide (a.length ≤ 1000) then some (.tup (List.replicate j.toNat a).flatten) else none
  | .mod, .int i, .int j => if j = 0 then none else some (.int (i.fmod j))
  | .fdiv, .int i, .int j => if decide (j ≠ 0) && decide (j.natAbs < 1073741824) then some (.int (i.fdiv j)) else none
  | .pow, .int i, .int j => if decide (0 ≤ j) && decide (j ≤ 1000000) && decide (i.natAbs < 2 ^ 64) then some (.int (i ^ j.toNat)) else none
  | _, _, _ => none
def D.has (l : List D) (d : D) : Bool := l.any fun z => D.eq z d
def cpd : Cp → D → D → Option Bool
  | .eq, a, b => if a.ok 60 && b.ok 60 then some (D.eq a b) else none
  | .ne, a, b => if a.ok 60 && b.ok 60 then some (!D.eq a b) else none
  | .lt, .int i, .int j => some (decide (i < j))
  | .le, .int i, .int j => some (decide (i ≤ j))
  | .gt, .int i, .int j => some (decide (j < i))
  | .ge, .int i, .int j => some (decide (j ≤ i))
  | .isin, a, .lst l => if a.ok 60 && l.all (D.ok 60) then some (D.has l a) else none
  | .isin, a, .tup l => if a.ok 60 && l.all (D.ok 60) then some (D.has l a) else none
  | .notin, a, .lst l => if a.ok 60 && l.all (D.ok 60) then some (!D.has l a) else none
  | .notin, a, .tup l => if a.ok 60 && l.all (D.ok 60) then some (!D.has l a) else none
  | _, _, _ => none
def D.isInt : D → Bool
  | .int _ => true
  | _ => false
def D.isLst : D → Bool
  | .lst _ => true
  | _ => false
def D.isNone : D → Bool
  | .none => true
  | _ => false
def truth : D → Option Bool
  | .none => some false
  | .bool b => some b
  | .int i => some (i != 0)
  | .lst l => some (!l.isEmpty)
  | .tup l => some (!l.isEmpty)
  | _ => none
/-! #### dicts: k: the keys are tuples; else numbers and texts -/
def dkEq (k : Bool) (a b : D) : Bool := if k then decide (a.nk = b.nk) else decide (a.key = b.key)
def dkOk (k : Bool) (a : D) : Bool := if k then a.kTup else a.isKey
def dget (k : Bool) (l : List (D × D)) (a : D) : Option D := (l.find? fun p => dkEq k p.1 a).map (·.2)
def dput (k : Bool) (l : List (D × D)) (a v : D) : List (D × D) := if l.any (fun p => dkEq k p.1 a) then l.map fun p => if dkEq k p.1 a then (p.1, v) else p else l ++ [(a, v)]
def dmerge (k : Bool) (l m : List (D × D)) : List (D × D) := m.foldl (fun acc p => dput k acc p.1 p.2) l
def pairsOf : List D → Option (List (D × D))
  | [] => some []
  | .tup [a, b] :: r => (pairsOf r).map ((a, b) :: ·)
  | _ :: _ => none
/-- the place that an index names -/
def place (n : Nat) (i : Int) : Option Nat := L2.ixN n i
def at_ : D → Int → Option D
  | .lst l, i => (place l.length i).bind fun k => l[k]?
  | .tup l, i => (place l.length i).bind fun k => l[k]?
  | .scr l, i => (place l.length i).bind fun k => l[k]?
  | _, _ => none
/-- d[i] -/
def getIx : D → D → Option D
  | .dct true l, i => if i.kTup then dget true l i else none
  | d, .int k => at_ d k
  | _, _ => none
def cut {α : Type} (l : List α) (lo hi : Option Int) : List α := (l.drop (HT.sIx l.length 0 lo)).take (HT.sIx l.length l.length hi - HT.sIx l.length 0 lo)
def optI : D → Option (Option Int)
  | .none => some none
  | .int i => some (some i)
  | _ => none
def slc : D → D → D → Option (D × Bool)
  | .lst l, a, b => match optI a, optI b with
    | some x, some y => some (.lst (cut l x y), true)
    | _, _ => none
  | .tup l, a, b => match optI a, optI b with
    | some x, some y => some (.tup (cut l x y), false)
    | _, _ => none
  | .scr l, a, b => match optI a, optI b with
    | some x, some y => some (.lst (cut l x y), true)
    | _, _ => none
  | _, _, _ => none
def tyIs : Ty → D → Bool
  | .int, .int _ => true
  | .int, .bool _ => true
  | .bool, .bool _ => true
  | .str, .str _ => true
  | .tup, .tup _ => true
  | .lst, .lst _ => true
  | .lst, .scr _ => true
  | _, _ => false
/-- no dict, no object -/
def D.noObj : D → Bool
  | .dct _ _ => false
  | .obj _ _ => false
  | _ => true
def intsOf : List D → Option (List Int)
  | [] => some []
  | .int i :: r => (intsOf r).map (i :: ·)
  | _ :: _ => none
def bools : List D → Option (List Bool)
  | [] => some []
  | .bool b :: r => (bools r).map (b :: ·)
  | _ :: _ => none
def irange (lo hi : Int) : List D := (List.range (hi - lo).toNat).map fun k => .int (lo + (k : Nat))
def rOk (lo hi : Int) : Bool := decide (-(2 ^ 61) ≤ lo) && decide (hi ≤ 2 ^ 61) && decide (hi - lo ≤ (lim : Int)) && decide (lo ≤ 2 ^ 61) && decide (-(2 ^ 61) ≤ hi)
def seqOf : D → Option (List D)
  | .lst l => some l
  | .tup l => some l
  | .scr l => some l
  | _ => none
/-- the least, the greatest of some -/
def minI (n : Int) (l : List Int) : Int := l.foldl (fun a y => if y < a then y else a) n
def maxI (n : Int) (l : List Int) : Int := l.foldl (fun a y => if a < y then y else a) n
/-- data that may be sorted -/
def sortOk (l : List D) : Bool := l.all (D.ok 60) && l.all (fun a => l.all fun b => PySem.W.alike a.py b.py) && (l.all (fun d => match d with | .tup (_ :: _) => true | _ => false) || l.all (fun d => match d with | .tup _ => false | .none => false | _ => true))
def D.sort (l : List D) : List D := l.mergeSort (PySem.W.dataLe false D.py)
/-- a built-in's value; is it new -/
def biF : BI → List D → Option (D × Bool)
  | .len, [d] => (seqOf d).map fun l => (.int (l.length : Nat), false)
  | .tuple, [.lst l] => some (.tup l, false)
  | .tuple, [.tup l] => some (.tup l, false)
  | .list, [d] => (seqOf d).map fun l => (.lst l, true)
  | .int, [.int i] => some (.int i, false)
  | .int, [.bool b] => some (.int (if b then 1 else 0), false)
  | .abs, [.int i] => some (.int (if i < 0 then -i else i), false)
  | .min, [.int i, .int j] => some (.int (if j < i then j else i), false)
  | .max, [.int i, .int j] => some (.int (if j > i then j else i), false)
  | .min, [d] => (seqOf d).bind fun l => (intsOf l).bind fun ns => match ns with
    | [] => none
    | n :: ns => some (.int (minI n ns), false)
  | .max, [d] => (seqOf d).bind fun l => (intsOf l).bind fun ns => match ns with
    | [] => none
    | n :: ns => some (.int (maxI n ns), false)
  | .minD, [.lst l, .int z] => (intsOf l).bind fun ns => match ns with
    | [] => some (.int z, false)
    | n :: ns => some (.int (minI n ns), false)
  | .maxD, [.lst l, .int z] => (intsOf l).bind fun ns => match ns with
    | [] => some (.int z, false)
    | n :: ns => some (.int (maxI n ns), false)
  | .sum, [.lst l] => (intsOf l).map fun ns => (.int ns.sum, false)
  | .any, [.lst l] => (bools l).map fun b => (.bool (b.any id), false)
  | .all, [.lst l] => (bools l).map fun b => (.bool (b.all id), false)
  | .dict true, [.lst ps] => (pairsOf ps).bind fun m => if m.all (fun p => p.1.kTup) && decide (m.length ≤ lim) then some (.dct true (dmerge true [] m), true) else none
  | .sorted, [.lst l] => if sortOk l then some (.lst (D.sort l), true) else none
  | .repr, [d] => if d.ok 60 && d.py.showable && decide (d.py.shown.length ≤ lim) then some (.str d.py.shown, false) else none
  | .isi _ ts, [d] => if d.noObj then some (.bool (ts.any fun t => tyIs t d), false) else none
  | .lrng1, [.int i] => if rOk 0 i then some (.lst (irange 0 i), true) else none
  | .lrng2, [.int i, .int j] => if rOk i j then some (.lst (irange i j), true) else none
  | .trng1, [.int i] => if rOk 0 i then some (.tup (irange 0 i), false) else none
  | .lzip, [.tup l, .tup m] => some (.lst (zipD l m), true)
  | .trng2, [.int i, .int j] => if rOk i j then some (.tup (irange i j), false) else none
  | _, _ => none
def bmf : BM → D → List D → Option (D × Bool)
  | .index, .lst l, [d] => if d.ok 60 && l.all (D.ok 60) then (l.findIdx? fun z => D.eq z d).map fun k => (.int (k : Nat), false) else none
  | .get2, .dct true l, [i, x] => if i.kTup then some ((dget true l i).getD x, false) else none
  | _, _, _ => none
/-- the kind of thing whose method it is -/
def bmTy : BM → D → Bool
  | .index, .lst _ => true
  | .get2, .dct true _ => true
  | _, _ => false
/-- its arguments are kept -/
def bmKeep : BM → Bool
  | .get1 | .get2 => true
  | _ => false
/-- a change of a list of one's own: the value given, the list behind -/
def muf : MU → D → List D → Option (D × D)
  | .append, .lst l, [d] => if l.length < lim then some (.none, .lst (l ++ [d])) else none
  | .extend, .lst l, [.lst m] => if l.length + m.length ≤ lim then some (.none, .lst (l ++ m)) else none
  | .insert, .lst l, [.int i, d] => if l.length < lim ∧ 0 ≤ i ∧ i < 2 ^ 63 then some (.none, .lst (l.take i.toNat ++ d :: l.drop i.toNat)) else none
  | _, _, _ => none
/-- l[k] = v -/
def putI : D → D → D → Option D
  | .lst l, .int i, d => (place l.length i).map fun k => .lst (l.set k d)
  | _, _, _ => none

/-! #### the meaning -/
def rd (i : Nat) (ρ : Ev) : Res D := match ρ[i]? with
  | some (.val d) => .ok d ρ
  | some (.own _ d) => .ok d ρ
  | _ => .bad
/-- a slot is stored -/
def put (i : Nat) (c : Cell) (ρ : Ev) : Res Unit := match ρ[i]? with
  | some (.own true _) => .bad
  | some _ => .ok () (ρ.set i c)
  | none => .bad
def putAll : List Nat → List D → Ev → Res Unit
  | [], [], ρ => .ok () ρ
  | i :: is, d :: ds, ρ => (put i (.val d) ρ).bind fun _ ρ => putAll is ds ρ
  | _, _, _ => .bad
def bindT : Tg → D → Ev → Res Unit
  | .name i, d, ρ => put i (.val d) ρ
  | .tup l, .tup ds, ρ => putAll l ds ρ
  | _, _, _ => .bad
def wipe (ρ : Ev) : List Nat → Ev
  | [] => ρ
  | v :: vs => (wipe ρ vs).set v .unset
/-- the slots of a block's names as they were ahead of it -/
def back (ρ ρ' : Ev) : List Nat → Ev
  | [] => ρ'
  | v :: vs => (back ρ ρ' vs).set v (ρ.getD v .unset)
/-- nothing is in the slot -/
def isUns (i : Nat) (ρ : Ev) : Bool := match ρ[i]? with
  | some .unset => true
  | _ => false
abbrev Call := Nat → List Cell → CRes
/-- an argument: a value, or a slot whose list is lent -/
inductive Arg where
  | val (d : D) | slot (i : Nat)
def argCells (ρ : Ev) : List Arg → Option (List Cell)
  | [] => some []
  | .val d :: r => (argCells ρ r).map (.val d :: ·)
  | .slot i :: r => match ρ[i]? with
    | some (.own p d) => (argCells ρ r).map (.own true d :: ·)
    | _ => none
def slotsOf : List Arg → List Nat
  | [] => []
  | .val _ :: r => slotsOf r
  | .slot i :: r => i :: slotsOf r
/-- what was lent comes back -/
def giveBack : List Arg → List Cell → Ev → Option Ev
  | [], [], ρ => some ρ
  | .val _ :: r, _ :: cs, ρ => giveBack r cs ρ
  | .slot i :: r, .own _ d :: cs, ρ => match ρ[i]? with
    | some (.own p _) => giveBack r cs (ρ.set i (.own p d))
    | _ => none
  | _, _, _ => none
def nodupB : List Nat → Bool
  | [] => true
  | i :: r => !r.elem i && nodupB r
def doCall (C : Call) (f : Nat) (args : List Arg) (ρ : Ev) : Res (D × Bool) :=
  if nodupB (slotsOf args) then (match argCells ρ args with
    | some cells => (match C f cells with
      | .ok d fr outs => (match giveBack args outs ρ with
        | some ρ' => .ok (d, fr) ρ'
        | none => .bad)
      | .exc c fs => .exc c fs
      | .bad => .bad)
    | none => .bad)
  else .bad
def doNew (C : Call) (c f : Nat) (args : List Arg) (ρ : Ev) : Res (D × Bool) :=
  if nodupB (slotsOf args) then (match argCells ρ args with
    | some cells => (match C f (.own true (.obj c []) :: cells) with
      | .ok .none _ (.own _ o :: outs) => (match giveBack args outs ρ with
        | some ρ' => .ok (o, true) ρ'
        | none => .bad)
      | _ => .bad)
    | none => .bad)
  else .bad
/-- an object of that class -/
def isObj (c : Nat) (x : Arg) (ρ : Ev) : Bool := match x with
  | .val (.obj c' _) => c' == c
  | .slot i => (match ρ[i]? with
    | some (.own _ (.obj c' _)) => c' == c
    | _ => false)
  | _ => false
def lookF (f : Nat) : List (Nat × D) → Option D
  | [] => none
  | (g, d) :: r => if g = f then some d else lookF f r
def putF (f : Nat) (d : D) : List (Nat × D) → List (Nat × D)
  | [] => [(f, d)]
  | (g, e) :: r => if g = f then (f, d) :: r else (g, e) :: putF f d r
def ofO {α : Type} (o : Option α) (ρ : Ev) : Res α := match o with
  | some a => .ok a ρ
  | none => .bad
def compL (t : D → Ev → Res Bool) (f : D → Ev → Res D) : List D → Ev → Res (List D)
  | [], ρ => .ok [] ρ
  | d :: ds, ρ => (t d ρ).bind fun b ρ => if b then (f d ρ).bind fun y ρ => (compL t f ds ρ).bind fun r ρ => .ok (y :: r) ρ else compL t f ds ρ
/-- no exception leaves a block -/
def nox {α : Type} : Res α → Res α
  | .exc _ _ => .bad
  | r => r
/-- a slot's list is looked at, nothing is given away -/
def rdOr (a : E) (r : Ev → Res (D × Bool)) (ρ : Ev) : Res D := match a with
  | .var i => rd i ρ
  | _ => (r ρ).bind fun d ρ => .ok d.1 ρ
/-- two operands: a name's list is looked at behind the other's reckoning -/
def two (a b : E) (ra rb : Ev → Res (D × Bool)) (ρ : Ev) : Res (D × D) := match a with
  | .var i => (rd i ρ).bind fun _ ρ => (rdOr b rb ρ).bind fun y ρ => (rd i ρ).bind fun x ρ => .ok (x, y) ρ
  | _ => (ra ρ).bind fun x ρ => (rdOr b rb ρ).bind fun y ρ => .ok (x.1, y) ρ
/-- a thing that was looked at is looked at once more -/
def again (a : E) (d : D) (ρ : Ev) : Res D := match a with
  | .var i => rd i ρ
  | _ => .ok d ρ
/-- an argument of a def -/
def argOf (a : E) (r : Ev → Res (D × Bool)) (ρ : Ev) : Res Arg := match a with
  | .var i => (match ρ[i]? with
    | some (.val d) => .ok (.val d) ρ
    | some (.own _ _) => .ok (.slot i) ρ
    | _ => .bad)
  | _ => (r ρ).bind fun d ρ => .ok (.val d.1) ρ
/-- the slot that is hidden meanwhile -/
def hid (a : E) (ρ : Ev) : List Nat := match a with
  | .var i => (match ρ[i]? with
    | some (.own _ _) => [i]
    | _ => [])
  | _ => []
/-- what is walked: the items, and the slot that is hidden meanwhile -/
def seqR (a : E) (r : Ev → Res (D × Bool)) (ρ : Ev) : Res (List D × List Nat) := (rdOr a r ρ).bind fun d ρ => (ofO (seqOf d) ρ).bind fun l ρ => .ok (l, hid a ρ) ρ
def D.isTup : D → Bool
  | .tup _ => true
  | _ => false
def enumF : Nat → List D → List D
  | _, [] => []
  | k, d :: r => .tup [.int (k : Nat), d] :: enumF (k + 1) r
mutual
def XE.v (fs : List (Nat × D)) : XE → Option D
  | .none => some .none
  | .bool b => some (.bool b)
  | .int i => some (.int i)
  | .str s => some (.str s)
  | .fld k => lookF k fs
  | .tup l => (XE.vs fs l).map .tup
  | .lst l => (XE.vs fs l).map .lst
  | _ => (Option.none)
def XE.vs (fs : List (Nat × D)) : XE → Option (List D)
  | .nil => some []
  | .cons a b => (XE.v fs a).bind fun d => (XE.vs fs b).map (d :: ·)
  | _ => (Option.none)
end
def XT.on (c : Nat) : Option XT → Bool
  | none => true
  | some t => t.ks.elem c
/-- what an except suite leaves of one slot -/
def hVal (c : Nat) (fs : List (Nat × D)) : List (Option XT × XE) → D → Option D
  | [], d => some d
  | (t, e) :: r, d => if XT.on c t then (e.v fs).bind fun d => hVal c fs r d else hVal c fs r d
/-- not one's own -/
def nOwn : Cell → Bool
  | .own _ _ => false
  | _ => true
def catches (cs : Option Nat) (c : Nat) : Bool := match cs with
  | none => true
  | some k => c == k
/-- the slot of an except clause's name -/
def jOk (i n : Nat) (j : Option Nat) : Bool := match j with
  | none => true
  | some j => j != i && decide (j < n)
section
variable (C : Call) (G : Nat → D)
mutual
/-- a value, new or not -/
def ev : E → Ev → Res (D × Bool)
  | .none, ρ => .ok (.none, false) ρ
  | .bool b, ρ => .ok (.bool b, false) ρ
  | .int i, ρ => .ok (.int i, false) ρ
  | .str s, ρ => .ok (.str s, false) ρ
  | .glob k, ρ => .ok (G k, false) ρ
  | .var i, ρ => match ρ[i]? with
    | some (.val d) => .ok (d, false) ρ
    | some (.own false d) => .ok (d, false) (ρ.set i (.val d))
    | _ => .bad
  | .bin o a b, ρ => (two a b (ev a) (ev b) ρ).bind fun p ρ => (ofO (bop o p.1 p.2) ρ).bind fun d ρ => .ok (d, match d with | .lst _ => true | _ => false) ρ
  | .neg a, ρ => (rdOr a (ev a) ρ).bind fun d ρ => match d with
    | .int i => .ok (.int (-i), false) ρ
    | _ => .bad
  | .not a, ρ => (rdOr a (ev a) ρ).bind fun d ρ => (ofO (truth d) ρ).bind fun b ρ => .ok (.bool (!b), false) ρ
  | .and a b, ρ => (ev a ρ).bind fun d ρ => (ofO (truth d.1) ρ).bind fun t ρ => if t then (ev b ρ).bind fun d ρ => .ok (d.1, false) ρ else .ok (d.1, false) ρ
  | .or a b, ρ => (ev a ρ).bind fun d ρ => (ofO (truth d.1) ρ).bind fun t ρ => if t then .ok (d.1, false) ρ else (ev b ρ).bind fun d ρ => .ok (d.1, false) ρ
  | .cmp .isN a _, ρ => (rdOr a (ev a) ρ).bind fun d ρ => .ok (.bool d.isNone, false) ρ
  | .cmp .notN a _, ρ => (rdOr a (ev a) ρ).bind fun d ρ => .ok (.bool (!d.isNone), false) ρ
  | .cmp c a b, ρ => (two a b (ev a) (ev b) ρ).bind fun p ρ => (ofO (cpd c p.1 p.2) ρ).bind fun t ρ => .ok (.bool t, false) ρ
  | .cmp2 c c' a b d, ρ => (two a b (ev a) (ev b) ρ).bind fun p ρ => (ofO (cpd c p.1 p.2) ρ).bind fun t ρ => if t then if p.2.isInt then (rdOr d (ev d) ρ).bind fun z ρ => (ofO (cpd c' p.2 z) ρ).bind fun t ρ => .ok (.bool t, false) ρ else .bad else .ok (.bool false, false) ρ
  | .ite t a b, ρ => (evT t ρ).bind fun t ρ => if t then (ev a ρ).bind fun d ρ => .ok (d.1, false) ρ else (ev b ρ).bind fun d ρ => .ok (d.1, false) ρ
  | .tup l, ρ => (evs l ρ).bind fun ds ρ => .ok (.tup ds, false) ρ
  | .lst l, ρ => (evs l ρ).bind fun ds ρ => .ok (.lst ds, true) ρ
  | .idx a i, ρ => (two a i (ev a) (ev i) ρ).bind fun p ρ => (ofO (getIx p.1 p.2) ρ).bind fun d ρ => .ok (d, false) ρ
  | .slice a lo hi, ρ => (rdOr a (ev a) ρ).bind fun d ρ => (evO lo ρ).bind fun x ρ => (evO hi ρ).bind fun y ρ => (again a d ρ).bind fun d ρ => ofO (slc d x y) ρ
  | .call f l, ρ => (evA l ρ).bind fun args ρ => doCall C f args ρ
  | .new c f l, ρ => (evA l ρ).bind fun args ρ => doNew C c f args ρ
  | .meth c f o l, ρ => (argOf o (ev o) ρ).bind fun x ρ => if isObj c x ρ then (evA l ρ).bind fun args ρ => doCall C f (x :: args) ρ else .bad
  | .attr o f, ρ => (rdOr o (ev o) ρ).bind fun d ρ => match d with
    | .obj _ fs => (ofO (lookF f fs) ρ).bind fun d ρ => .ok (d, false) ρ
    | _ => .bad
  | .bi b l, ρ => (evRs l ρ).bind fun ds ρ => ofO (biF b ds) ρ
  | .bm b o l, ρ => (rdOr o (ev o) ρ).bind fun d ρ => if bmTy b d then (if bmKeep b then evs l ρ else evRs l ρ).bind fun ds ρ => (again o d ρ).bind fun d ρ => ofO (bmf b d ds) ρ else .bad
  | .mut m i l, ρ => (rd i ρ).bind fun d ρ => if d.isLst then (evs l ρ).bind fun ds ρ => match ρ[i]? with
    | some (.own p d) => (ofO (muf m d ds) ρ).bind fun r ρ => .ok (r.1, false) (ρ.set i (.own p r.2))
    | _ => .bad
    else .bad
  | .comp e t it c vs, ρ => (evI it ρ).bind fun q ρ₀ => if q.1.length ≤ lim then (nox (compL (fun d ρ => (bindT t d (wipe ρ vs)).bind fun _ ρ => evC c ρ) (fun _ ρ => (ev e ρ).bind fun y ρ => .ok y.1 ρ) q.1 (wipe ρ₀ q.2))).bind fun r ρ => .ok (.lst r, true) (back ρ₀ ρ (vs ++ q.2)) else .bad
  | _, _ => .bad
def evT : E → Ev → Res Bool
  | .and a b, ρ => (evT a ρ).bind fun t ρ => if t then evT b ρ else .ok false ρ
  | .or a b, ρ => (evT a ρ).bind fun t ρ => if t then .ok true ρ else evT b ρ
  | .not a, ρ => (evT a ρ).bind fun t ρ => .ok (!t) ρ
  | .cmp .isN a _, ρ => (rdOr a (ev a) ρ).bind fun d ρ => .ok d.isNone ρ
  | .cmp .notN a _, ρ => (rdOr a (ev a) ρ).bind fun d ρ => .ok (!d.isNone) ρ
  | .cmp c a b, ρ => (two a b (ev a) (ev b) ρ).bind fun p ρ => ofO (cpd c p.1 p.2) ρ
  | .cmp2 c c' a b d, ρ => (two a b (ev a) (ev b) ρ).bind fun p ρ => (ofO (cpd c p.1 p.2) ρ).bind fun t ρ => if t then if p.2.isInt then (rdOr d (ev d) ρ).bind fun z ρ => ofO (cpd c' p.2 z) ρ else .bad else .ok false ρ
  | .tval e, ρ => (rdOr e (ev e) ρ).bind fun d ρ => ofO (truth d) ρ
  | _, _ => .bad
def evs : E → Ev → Res (List D)
  | .nil, ρ => .ok [] ρ
  | .cons a b, ρ => (ev a ρ).bind fun d ρ => (evs b ρ).bind fun r ρ => .ok (d.1 :: r) ρ
  | _, _ => .bad
def evRs : E → Ev → Res (List D)
  | .nil, ρ => .ok [] ρ
  | .cons a b, ρ => (two a (.tup b) (ev a) (fun ρ => (evRs b ρ).bind fun r ρ => .ok (.tup r, false) ρ) ρ).bind fun p ρ => match p.2 with
    | .tup r => .ok (p.1 :: r) ρ
    | _ => .bad
  | _, _ => .bad
def evA : E → Ev → Res (List Arg)
  | .nil, ρ => .ok [] ρ
  | .cons a b, ρ => (argOf a (ev a) ρ).bind fun d ρ => (evA b ρ).bind fun r ρ => .ok (d :: r) ρ
  | _, _ => .bad
def evO : E → Ev → Res D
  | .nil, ρ => .ok .none ρ
  | .tval e, ρ => (rdOr e (ev e) ρ).bind fun d ρ => if d.isInt then .ok d ρ else .bad
  | _, _ => .bad
def evC : E → Ev → Res Bool
  | .nil, ρ => .ok true ρ
  | .cons a _, ρ => evT a ρ
  | _, _ => .bad
def evI : E → Ev → Res (List D × List Nat)
  | .isq e, ρ => seqR e (ev e) ρ
  | .rng1 a, ρ => (rdOr a (ev a) ρ).bind fun d ρ => match d with
    | .int i => if rOk 0 i then .ok (irange 0 i, []) ρ else .bad
    | _ => .bad
  | .rng2 a b, ρ => (two a b (ev a) (ev b) ρ).bind fun p ρ => match p.1, p.2 with
    | .int i, .int j => if rOk i j then .ok (irange i j, []) ρ else .bad
    | _, _ => .bad
  | .enum a, ρ => (seqR a (ev a) ρ).bind fun q ρ => .ok (enumF 0 q.1, q.2) ρ
  | .zip a b, ρ => (two a b (ev a) (ev b) ρ).bind fun p ρ => (ofO (seqOf p.1) ρ).bind fun l ρ => (ofO (seqOf p.2) ρ).bind fun m ρ => if p.1.isTup == p.2.isTup then .ok (zipD l m, hid a ρ ++ hid b ρ) ρ else .bad
  | .zipN a b, ρ => (two a b (ev a) (ev b) ρ).bind fun p ρ => match p.1, p.2 with
    | .tup l, .tup m => .ok (zipD l m, []) ρ
    | _, _ => .bad
  | .rng3 a b c, ρ => (two a b (ev a) (ev b) ρ).bind fun p ρ => (ev c ρ).bind fun d ρ => match p.1, p.2, d.1 with
    | .int i, .int j, .int (-1) => if rOk j i then .ok ((irange (j + 1) (i + 1)).reverse, []) ρ else .bad
    | _, _, _ => .bad
  | .rev a, ρ => (seqR a (ev a) ρ).bind fun q ρ => .ok (q.1.reverse, q.2) ρ
  | _, _ => .bad
end
/-- a for's turns -/
def forL (f : D → Ev → Res Fl) : List D → Ev → Res Fl
  | [], ρ => .ok .nx ρ
  | d :: ds, ρ => (f d ρ).bind fun r ρ => match r with
    | .nx => forL f ds ρ
    | .ct => forL f ds ρ
    | .bk => .ok .nx ρ
    | .ret d fr => .ok (.ret d fr) ρ
def whileL (t : Ev → Res Bool) (f : Ev → Res Fl) : Nat → Ev → Res Fl
  | 0, _ => .bad
  | n + 1, ρ => (t ρ).bind fun b ρ => if b then (f ρ).bind fun r ρ => match r with
    | .nx => whileL t f n ρ
    | .ct => whileL t f n ρ
    | .bk => .ok .nx ρ
    | .ret d fr => .ok (.ret d fr) ρ else .ok .nx ρ
def evS : S → Ev → Res Fl
  | .skip, ρ => .ok .nx ρ
  | .never, _ => .bad
  | .brk, ρ => .ok .bk ρ
  | .cont, ρ => .ok .ct ρ
  | .seq a b, ρ => (evS a ρ).bind fun r ρ => match r with
    | .nx => evS b ρ
    | .bk => .ok .bk ρ
    | .ct => .ok .ct ρ
    | .ret d fr => .ok (.ret d fr) ρ
  | .expr e, ρ => (ev C G e ρ).bind fun _ ρ => .ok .nx ρ
  | .asg o t e, ρ => (ev C G e ρ).bind fun p ρ => match t, o && p.2 with
    | .name i, true => (put i (.own false p.1) ρ).bind fun _ ρ => .ok .nx ρ
    | t, _ => (bindT t p.1 ρ).bind fun _ ρ => .ok .nx ρ
  | .setI i k v, ρ => (ev C G v ρ).bind fun x ρ => (rd i ρ).bind fun _ ρ => (rdOr k (ev C G k) ρ).bind fun y ρ => match ρ[i]? with
    | some (.own p d) => (ofO (putI d y x.1) ρ).bind fun d' ρ => .ok .nx (ρ.set i (.own p d'))
    | _ => .bad
  | .setA i f v, ρ => (ev C G v ρ).bind fun x ρ => match ρ[i]? with
    | some (.own p (.obj c fs)) => if fs.length < 100 then .ok .nx (ρ.set i (.own p (.obj c (putF f x.1 fs)))) else .bad
    | _ => .bad
  | .ret (.var i), ρ => match ρ[i]? with
    | some (.val d) => .ok (.ret d false) ρ
    | some (.own false d) => .ok (.ret d true) ρ
    | _ => .bad
  | .ret e, ρ => (ev C G e ρ).bind fun p ρ => .ok (.ret p.1 p.2) ρ
  | .ite t a b, ρ => (evT C G t ρ).bind fun t ρ => if t then evS a ρ else evS b ρ
  | .for t it b, ρ => (evI C G it ρ).bind fun q ρ₀ => (forL (fun d ρ => (bindT t d ρ).bind fun _ ρ => evS b ρ) q.1 (wipe ρ₀ q.2)).bind fun r ρ => if q.2.all (fun i => isUns i ρ) then .ok r (back ρ₀ ρ q.2) else .bad
  | .while t b, ρ => whileL (evT C G t) (evS b) most ρ
  | .raise c l, ρ => (evs C G l ρ).bind fun ds _ => .exc c ((List.range ds.length).zip ds)
  | .tryR i a j cs nx h, ρ => if ρ.all nOwn && jOk i ρ.length j then (match ρ[i]?, ev C G a ρ with
    | some (.val _), .ok p ρ => .ok (.ret p.1 false) ρ
    | some (.val d), .exc c fs => if c < nx then if catches cs c then (match hVal c fs h d with
      | some d => .ok (.ret d false) ρ
      | none => .bad) else .exc c fs else .bad
    | _, _ => .bad) else .bad
end
/-- a def: how many parameters, how many slots, its body -/
structure FD where
  np : Nat
  ns : Nat
  body : S
instance : Inhabited FD := ⟨⟨0, 0, .skip⟩⟩
def markC : Cell → Cell
  | .own _ d => .own true d
  | c => c
def runF (fd : FD) (C : Call) (G : Nat → D) (cells : List Cell) : CRes :=
  if cells.length = fd.np then (match evS C G fd.body (cells.map markC ++ List.replicate (fd.ns - fd.np) .unset) with
    | .ok (.ret d fr) ρ => .ok d fr (ρ.take fd.np)
    | .ok .nx ρ => .ok .none false (ρ.take fd.np)
    | .exc c fs => .exc c fs
    | _ => .bad)
  else .bad
/-- the text's defs, n calls deep -/
def callN (T : List FD) (G : Nat → D) : Nat → Call
  | 0 => fun _ _ => .bad
  | n + 1 => fun f cells => match T[f]? with
    | some fd => runF fd (callN T G n) G cells
    | none => .bad
end PX

end

section
set_option Elab.async false
set_option linter.all false
set_option autoImplicit false
set_option maxRecDepth 100000
namespace PX
open PySem PySem.Spec PyProof.Rows L2

/-- what may be looked at -/
def RR (N : Nm) (H : Hp) (W : Addr → Prop) : D → V → Prop
  | .lst l, v => ∃ a xs, v = .ref a ∧ H a = some (.lst xs) ∧ Reps N H W l xs
  | .dct true l, v => ∃ a ks vs, v = .ref a ∧ H a = some (dctO N.P N.w a ks vs) ∧ RepsV N H W l ks vs
  | .dct false l, v => ∃ a xs, v = .ref a ∧ H a = some (.dK xs) ∧ RepsK N H W l xs
  | .obj c fs, v => ∃ a dx gs, v = .ref a ∧ H a = some (.ins (N.cls c) dx gs) ∧ RepsF N H W fs gs
  | d, v => Rep N H W d v
theorem Rep.rr {N : Nm} {H : Hp} {W : Addr → Prop} : ∀ {d : D} {v : V}, Rep N H W d v → RR N H W d v
  | .none, _, h => h
  | .bool _, _, h => h
  | .int _, _, h => h
  | .str _, _, h => h
  | .tup _, _, h => h
  | .scr _, _, h => h
  | .lst _, _, ⟨a, xs, e, _, r, q⟩ => ⟨a, xs, e, r, q⟩
  | .dct true _, _, ⟨a, ks, xs, e, _, r, q⟩ => ⟨a, ks, xs, e, r, q⟩
  | .dct false _, _, ⟨a, xs, e, _, r, q⟩ => ⟨a, xs, e, r, q⟩
  | .obj _ _, _, ⟨a, dx, gs, e, _, r, q⟩ => ⟨a, dx, gs, e, r, q⟩
/-- a list, a dict, an object of one's own -/
def OwnR (N : Nm) (H : Hp) (W : Addr → Prop) (a : Addr) : D → Prop
  | .lst l => ∃ xs, H a = some (.lst xs) ∧ Reps N H W l xs
  | .dct true l => ∃ ks vs, H a = some (dctO N.P N.w a ks vs) ∧ RepsV N H W l ks vs
  | .dct false l => ∃ xs, H a = some (.dK xs) ∧ RepsK N H W l xs
  | .obj c fs => ∃ dx gs, H a = some (.ins (N.cls c) dx gs) ∧ RepsF N H W fs gs
  | _ => False
theorem OwnR.rr {N : Nm} {H : Hp} {W : Addr → Prop} {a : Addr} : ∀ {d : D}, OwnR N H W a d → RR N H W d (.ref a)
  | .lst _, ⟨xs, r, q⟩ => ⟨a, xs, rfl, r, q⟩
  | .dct true _, ⟨ks, vs, r, q⟩ => ⟨a, ks, vs, rfl, r, q⟩
  | .dct false _, ⟨vs, r, q⟩ => ⟨a, vs, rfl, r, q⟩
  | .obj _ _, ⟨dx, gs, r, q⟩ => ⟨a, dx, gs, rfl, r, q⟩
theorem OwnR.tracked {N : Nm} {H : Hp} {W : Addr → Prop} {a : Addr} : ∀ {d : D}, OwnR N H W a d → ∃ o, H a = some o ∧ Mut (some o)
  | .lst _, ⟨_, r, _⟩ => ⟨_, r, trivial⟩
  | .dct true _, ⟨_, _, r, _⟩ => ⟨_, r, trivial⟩
  | .dct false _, ⟨_, r, _⟩ => ⟨_, r, trivial⟩
  | .obj _ _, ⟨_, _, r, _⟩ => ⟨_, r, trivial⟩
theorem OwnR.rep {N : Nm} {H : Hp} {W : Addr → Prop} {a : Addr} (h : ¬ W a) : ∀ {d : D}, OwnR N H W a d → Rep N H W d (.ref a)
  | .lst _, ⟨xs, r, q⟩ => ⟨a, xs, rfl, h, r, q⟩
  | .dct true _, ⟨ks, vs, r, q⟩ => ⟨a, ks, vs, rfl, h, r, q⟩
  | .dct false _, ⟨vs, r, q⟩ => ⟨a, vs, rfl, h, r, q⟩
  | .obj _ _, ⟨dx, gs, r, q⟩ => ⟨a, dx, gs, rfl, h, r, q⟩

def SlotOk (N : Nm) (H : Hp) (W : Addr → Prop) (σ : L2.St) (i : Nat) : Cell → Prop
  | .unset => True
  | .val d => ∃ v, σ[i]? = some (some v) ∧ Rep N H W d v
  | .own _ d => ∃ a, σ[i]? = some (some (V.ref a)) ∧ W a ∧ OwnR N H W a d
/-- the places of a frame's own lists -/
def Own (ρ : Ev) (σ : L2.St) (a : Addr) : Prop := ∃ (i : Nat) (p : Bool) (d : D), ρ[i]? = some (Cell.own p d) ∧ σ[i]? = some (some (V.ref a))
structure RelS (N : Nm) (H : Hp) (W : Addr → Prop) (σ : L2.St) (ρ : Ev) : Prop where
  len : ρ.length = σ.length
  slot : ∀ (i : Nat) (c : Cell), ρ[i]? = some c → SlotOk N H W σ i c
  apart : ∀ (i j : Nat) (p q : Bool) (d e : D) (a : Addr), ρ[i]? = some (Cell.own p d) → ρ[j]? = some (Cell.own q e) → σ[i]? = some (some (V.ref a)) → σ[j]? = some (some (V.ref a)) → i = j
  tr : ∀ a, W a → ∃ o, H a = some o ∧ Mut (some o)

section
variable {N : Nm} {H H1 H2 : Hp} {W W1 W2 T T1 : Addr → Prop} {σ : L2.St} {ρ ρ1 ρ2 : Ev}
theorem RelS.own (r : RelS N H W σ ρ) {a : Addr} (h : Own ρ σ a) : W a := by
  obtain ⟨i, p, d, e, q⟩ := h
  obtain ⟨b, q2, w, _⟩ := r.slot i _ e
  rw [q] at q2
  cases q2
  exact w
theorem RelS.free (r : RelS N H W σ ρ) {a : Addr} (h : H a = none) : ¬ W a := fun w => by
  obtain ⟨o, e, _⟩ := r.tr a w
  rw [h] at e; cases e
theorem Ext.refl : Ext T H W H W := ⟨fun _ _ h _ => h, fun _ h => .inl h, fun _ h _ => h, fun _ _ _ h => h, fun _ _ h => h, fun _ h => h⟩
theorem upd_none {p : Addr} {o : HO} {b : Addr} (h : upd H p o b = none) : H b = none := by
  by_cases e : b = p
  · subst e; rw [upd_same] at h; cases h
  · rw [upd_ne e] at h; exact h
theorem Ext.trans (a : Ext T H W H1 W1) (b : Ext T1 H1 W1 H2 W2) (hT : ∀ x, T x → W x) (h1 : ∀ x, T1 x → T x ∨ H x = none) (ht : ∀ x, W x → ∃ o, H x = some o) : Ext T H W H2 W2 := by
  refine ⟨fun x o e n => ?_, fun x w => ?_, fun x w n => ?_, fun x o u e => b.frz _ _ _ (a.frz _ _ _ e), fun x xs e => b.tup _ _ (a.tup _ _ e), fun x e => a.there _ (b.there _ e)⟩
  · refine b.keep x o (a.keep x o e n) fun z => ?_
    rcases h1 x z with z | z
    · exact n z
    · rw [z] at e; cases e
  · rcases b.own x w with z | z
    · exact a.own x z
    · cases q : H x with
      | none => exact .inr rfl
      | some o =>
        refine .inl (hT x ?_)
        refine Classical.byContradiction fun n => ?_
        rw [a.keep x o q n] at z
        cases z
  · refine b.stay x (a.stay x w n) fun z => ?_
    rcases h1 x z with z | z
    · exact n z
    · obtain ⟨o, e⟩ := ht x w
      rw [z] at e; cases e
theorem Ext.rep (a : Ext T H W H1 W1) (hT : ∀ x, T x → W x) {d : D} {v : V} (h : Rep N H W d v) : Rep N H1 W1 d v :=
  Rep.mono (fun b o e n => a.keep b o e fun z => n (hT b z)) a.own a.tup a.frz d v h
theorem Ext.reps (a : Ext T H W H1 W1) (hT : ∀ x, T x → W x) {d : List D} {v : List V} (h : Reps N H W d v) : Reps N H1 W1 d v :=
  Reps.mono (fun b o e n => a.keep b o e fun z => n (hT b z)) a.own a.tup a.frz d v h
theorem Ext.repsV (a : Ext T H W H1 W1) (hT : ∀ x, T x → W x) {d : List (D × D)} {k : List (NestedKey × Addr)} {v : List V} (h : RepsV N H W d k v) : RepsV N H1 W1 d k v :=
  RepsV.mono (fun b o e n => a.keep b o e fun z => n (hT b z)) a.own a.tup a.frz d k v h
theorem Ext.repsK (a : Ext T H W H1 W1) (hT : ∀ x, T x → W x) {d : List (D × D)} {v : List (Key × V)} (h : RepsK N H W d v) : RepsK N H1 W1 d v :=
  RepsK.mono (fun b o e n => a.keep b o e fun z => n (hT b z)) a.own a.tup a.frz d v h
theorem Ext.repsF (a : Ext T H W H1 W1) (hT : ∀ x, T x → W x) {d : List (Nat × D)} {v : List (Str × V)} (h : RepsF N H W d v) : RepsF N H1 W1 d v :=
  RepsF.mono (fun b o e n => a.keep b o e fun z => n (hT b z)) a.own a.tup a.frz d v h
theorem Ext.ownR (a : Ext T H W H1 W1) (hT : ∀ x, T x → W x) {b : Addr} (nb : ¬ T b) : ∀ {d : D}, OwnR N H W b d → OwnR N H1 W1 b d
  | .lst _, ⟨xs, r, q⟩ => ⟨xs, a.keep _ _ r nb, a.reps hT q⟩
  | .dct true _, ⟨ks, vs, r, q⟩ => ⟨ks, vs, a.keep _ _ r nb, a.repsV hT q⟩
  | .dct false _, ⟨vs, r, q⟩ => ⟨vs, a.keep _ _ r nb, a.repsK hT q⟩
  | .obj _ _, ⟨dx, gs, r, q⟩ => ⟨dx, gs, a.keep _ _ r nb, a.repsF hT q⟩
/-- a new object is laid: not one's own -/
theorem Ext.new {p : Addr} {o : HO} (h : H p = none) : Ext T H W (upd H p o) W := by
  refine ⟨fun b u e _ => ?_, fun b w => .inl w, fun b w _ => w, fun b u x e => ?_, fun b xs e => ?_, fun _ e => upd_none e⟩
  all_goals
    rw [upd_ne (ne_of_none e h)]
    exact e
/-- .. one's own -/
theorem Ext.newO {p : Addr} {o : HO} (h : H p = none) : Ext T H W (upd H p o) (fun b => W b ∨ b = p) := by
  refine ⟨fun b u e _ => ?_, fun b w => ?_, fun b w _ => .inl w, fun b u x e => ?_, fun b xs e => ?_, fun _ e => upd_none e⟩
  · rw [upd_ne (ne_of_none e h)]; exact e
  · rcases w with w | rfl
    · exact .inl w
    · exact .inr h
  · rw [upd_ne (ne_of_none e h)]; exact e
  · rw [upd_ne (ne_of_none e h)]; exact e
/-- what stands in one's own list is changed -/
theorem Ext.write {p : Addr} {o u : HO} (h : H p = some u) (m : Mut (some u)) (t : T p) : Ext T H W (upd H p o) W := by
  refine ⟨fun b u e n => ?_, fun b w => .inl w, fun b w _ => w, fun b z x e => ?_, fun b xs e => ?_, fun _ e => upd_none e⟩
  · have : b ≠ p := fun z => n (z ▸ t)
    rw [upd_ne this]; exact e
  · have : b ≠ p := fun z => by subst z; rw [h] at e; cases e; exact m
    rw [upd_ne this]; exact e
  · have : b ≠ p := fun z => by subst z; rw [h] at e; cases e; exact m
    rw [upd_ne this]; exact e
/-- what was one's own is given away -/
theorem Ext.give {p : Addr} (hp : ¬ W p ∨ T p) : Ext T H W H1 W1 → Ext T H W H1 (fun b => W1 b ∧ b ≠ p) := fun a =>
  ⟨a.keep, fun b w => a.own b w.1, fun b w n => ⟨a.stay b w n, fun z => by
    subst z
    rcases hp with z | z
    · exact z w
    · exact n z⟩, a.frz, a.tup, a.there⟩

/-- a piece of an expression has been reckoned -/
structure Stp (N : Nm) (σ : L2.St) (ρ : Ev) (H : Hp) (W : Addr → Prop) (ρ1 : Ev) (H1 : Hp) (W1 : Addr → Prop) : Prop where
  rel : RelS N H1 W1 σ ρ1
  ext : Ext (Own ρ σ) H W H1 W1
  sub : ∀ a, Own ρ1 σ a → Own ρ σ a
  par : ∀ (i : Nat) (d : D), ρ[i]? = some (Cell.own true d) → ∃ d', ρ1[i]? = some (Cell.own true d')
  uns : ∀ (i : Nat), ρ1[i]? = some Cell.unset → ρ[i]? = some Cell.unset
theorem Stp.refl (r : RelS N H W σ ρ) : Stp N σ ρ H W ρ H W := ⟨r, .refl, fun _ h => h, fun _ d h => ⟨d, h⟩, fun _ h => h⟩
theorem Stp.trans (r : RelS N H W σ ρ) (a : Stp N σ ρ H W ρ1 H1 W1) (b : Stp N σ ρ1 H1 W1 ρ2 H2 W2) : Stp N σ ρ H W ρ2 H2 W2 :=
  ⟨b.rel, a.ext.trans b.ext (fun _ h => r.own h) (fun x h => .inl (a.sub x h)) (fun x w => let ⟨o, e, _⟩ := r.tr x w; ⟨o, e⟩), fun x h => a.sub x (b.sub x h), fun i d h => let ⟨_, h1⟩ := a.par i d h; b.par i _ h1, fun i h => a.uns i (b.uns i h)⟩
theorem Stp.rep (r : RelS N H W σ ρ) (a : Stp N σ ρ H W ρ1 H1 W1) {d : D} {v : V} (h : Rep N H W d v) : Rep N H1 W1 d v := a.ext.rep (fun _ h => r.own h) h
theorem Stp.reps (r : RelS N H W σ ρ) (a : Stp N σ ρ H W ρ1 H1 W1) {d : List D} {v : List V} (h : Reps N H W d v) : Reps N H1 W1 d v := a.ext.reps (fun _ h => r.own h) h
/-- the slots stand in a world that goes on -/
theorem RelS.ext (r : RelS N H W σ ρ) (a : Ext T H W H1 W1) (hT : ∀ x, T x → W x) (no : ∀ x, Own ρ σ x → ¬ T x) (ht : ∀ x, W1 x → ∃ o, H1 x = some o ∧ Mut (some o)) : RelS N H1 W1 σ ρ := by
  refine ⟨r.len, fun i c e => ?_, r.apart, ht⟩
  have s := r.slot i c e
  cases c with
  | unset => trivial
  | val d =>
    obtain ⟨v, e1, q⟩ := s
    exact ⟨v, e1, a.rep hT q⟩
  | own p d =>
    obtain ⟨b, e1, w, q⟩ := s
    have nb := no b ⟨i, p, d, e, e1⟩
    exact ⟨b, e1, a.stay b w nb, a.ownR hT nb q⟩
theorem RelS.new (r : RelS N H W σ ρ) {p : Addr} {o : HO} (h : H p = none) : Stp N σ ρ H W ρ (upd H p o) W := by
  refine ⟨r.ext (T := fun _ => False) (.new h) (fun _ z => z.elim) (fun _ _ z => z) fun x w => ?_, .new h, fun _ z => z, fun _ d h => ⟨d, h⟩, fun _ h => h⟩
  obtain ⟨u, e, m⟩ := r.tr x w
  exact ⟨u, by rw [upd_ne (ne_of_none e h)]; exact e, m⟩
theorem RelS.newO (r : RelS N H W σ ρ) {p : Addr} {o : HO} (h : H p = none) (m : Mut (some o)) : Stp N σ ρ H W ρ (upd H p o) (fun b => W b ∨ b = p) := by
  refine ⟨r.ext (T := fun _ => False) (.newO h) (fun _ z => z.elim) (fun _ _ z => z) fun x w => ?_, .newO h, fun _ z => z, fun _ d h => ⟨d, h⟩, fun _ h => h⟩
  rcases w with w | rfl
  · obtain ⟨u, e, m⟩ := r.tr x w
    exact ⟨u, by rw [upd_ne (ne_of_none e h)]; exact e, m⟩
  · exact ⟨o, upd_same, m⟩
/-- a value's standing: not new, or one's own, laid since H -/
def VR (N : Nm) (H H1 : Hp) (W1 : Addr → Prop) (d : D) (fr : Bool) (v : V) : Prop :=
  if fr = true then ∃ a, v = .ref a ∧ W1 a ∧ OwnR N H1 W1 a d ∧ H a = none else Rep N H1 W1 d v
/-- what is new is given away -/
theorem Stp.freeze (r : RelS N H W σ ρ) (s : Stp N σ ρ H W ρ1 H1 W1) {d : D} {fr : Bool} {v : V} (h : VR N H H1 W1 d fr v) : ∃ W2, Stp N σ ρ H W ρ1 H1 W2 ∧ Rep N H1 W2 d v := by
  cases fr with
  | false => exact ⟨W1, s, by simpa [VR] using h⟩
  | true =>
    have h' : ∃ a, v = .ref a ∧ W1 a ∧ OwnR N H1 W1 a d ∧ H a = none := by simpa [VR] using h
    obtain ⟨a, rfl, w, q, n⟩ := h'
    refine ⟨fun b => W1 b ∧ b ≠ a, ⟨⟨s.rel.len, fun i c e => ?_, s.rel.apart, fun x w => s.rel.tr x w.1⟩, s.ext.give (.inl (r.free n)), s.sub, s.par, s.uns⟩, ?_⟩
    · have m : ∀ {d v}, Rep N H1 W1 d v → Rep N H1 (fun b => W1 b ∧ b ≠ a) d v := fun {d v} => Rep.mono (fun _ _ e _ => e) (fun _ w => .inl w.1) (fun _ _ e => e) (fun _ _ _ e => e) d v
      have z := s.rel.slot i c e
      cases c with
      | unset => trivial
      | val d =>
        obtain ⟨v, e1, q⟩ := z
        exact ⟨v, e1, m q⟩
      | own p d =>
        obtain ⟨b, e1, w, q⟩ := z
        have hb : b ≠ a := fun z => by
          subst z
          obtain ⟨i, p, d, e3, e4⟩ := s.sub b ⟨i, p, d, e, e1⟩
          exact r.free n (r.own ⟨i, p, d, e3, e4⟩)
        refine ⟨b, e1, ⟨w, hb⟩, ?_⟩
        revert q
        cases d with
        | lst l => exact fun ⟨xs, r, q⟩ => ⟨xs, r, Reps.mono (fun _ _ e _ => e) (fun _ w => .inl w.1) (fun _ _ e => e) (fun _ _ _ e => e) _ _ q⟩
        | dct k l => cases k with
          | true => exact fun ⟨ks, xs, r, q⟩ => ⟨ks, xs, r, RepsV.mono (fun _ _ e _ => e) (fun _ w => .inl w.1) (fun _ _ e => e) (fun _ _ _ e => e) _ _ _ q⟩
          | false => exact fun ⟨xs, r, q⟩ => ⟨xs, r, RepsK.mono (fun _ _ e _ => e) (fun _ w => .inl w.1) (fun _ _ e => e) (fun _ _ _ e => e) _ _ q⟩
        | obj c fs => exact fun ⟨dx, gs, r, q⟩ => ⟨dx, gs, r, RepsF.mono (fun _ _ e _ => e) (fun _ w => .inl w.1) (fun _ _ e => e) (fun _ _ _ e => e) _ _ q⟩
        | _ => exact fun z => z
    · refine OwnR.rep (fun z => z.2 rfl) ?_
      revert q
      cases d with
      | lst l => exact fun ⟨xs, r, q⟩ => ⟨xs, r, Reps.mono (fun _ _ e _ => e) (fun _ w => .inl w.1) (fun _ _ e => e) (fun _ _ _ e => e) _ _ q⟩
      | dct k l => cases k with
        | true => exact fun ⟨ks, xs, r, q⟩ => ⟨ks, xs, r, RepsV.mono (fun _ _ e _ => e) (fun _ w => .inl w.1) (fun _ _ e => e) (fun _ _ _ e => e) _ _ _ q⟩
        | false => exact fun ⟨xs, r, q⟩ => ⟨xs, r, RepsK.mono (fun _ _ e _ => e) (fun _ w => .inl w.1) (fun _ _ e => e) (fun _ _ _ e => e) _ _ q⟩
      | obj c fs => exact fun ⟨dx, gs, r, q⟩ => ⟨dx, gs, r, RepsF.mono (fun _ _ e _ => e) (fun _ w => .inl w.1) (fun _ _ e => e) (fun _ _ _ e => e) _ _ q⟩
      | _ => exact fun z => z

/-- new objects alone -/
structure Nw (H : Hp) (W : Addr → Prop) (H1 : Hp) (W1 : Addr → Prop) : Prop where
  ext : Ext (fun _ => False) H W H1 W1
  tr : ∀ x, W1 x → ∃ o, H1 x = some o ∧ Mut (some o)
theorem Nw.refl (t : ∀ x, W x → ∃ o, H x = some o ∧ Mut (some o)) : Nw H W H W := ⟨.refl, t⟩
theorem Nw.new (t : ∀ x, W x → ∃ o, H x = some o ∧ Mut (some o)) {p : Addr} {o : HO} (h : H p = none) : Nw H W (upd H p o) W :=
  ⟨.new h, fun x w => let ⟨u, e, m⟩ := t x w; ⟨u, by rw [upd_ne (ne_of_none e h)]; exact e, m⟩⟩
theorem Nw.newO (t : ∀ x, W x → ∃ o, H x = some o ∧ Mut (some o)) {p : Addr} {o : HO} (h : H p = none) (m : Mut (some o)) : Nw H W (upd H p o) (fun b => W b ∨ b = p) :=
  ⟨.newO h, fun x w => by
    rcases w with w | rfl
    · obtain ⟨u, e, m⟩ := t x w
      exact ⟨u, by rw [upd_ne (ne_of_none e h)]; exact e, m⟩
    · exact ⟨o, upd_same, m⟩⟩
theorem Nw.rep (n : Nw H W H1 W1) {d : D} {v : V} (h : Rep N H W d v) : Rep N H1 W1 d v := n.ext.rep (fun _ z => z.elim) h
theorem Nw.reps (n : Nw H W H1 W1) {d : List D} {v : List V} (h : Reps N H W d v) : Reps N H1 W1 d v := n.ext.reps (fun _ z => z.elim) h
theorem Nw.trans (n : Nw H W H1 W1) (m : Nw H1 W1 H2 W2) (t : ∀ x, W x → ∃ o, H x = some o ∧ Mut (some o)) : Nw H W H2 W2 :=
  ⟨n.ext.trans m.ext (fun _ z => z.elim) (fun _ z => z.elim) fun x w => let ⟨o, e, _⟩ := t x w; ⟨o, e⟩, m.tr⟩
theorem Nw.stp (r : RelS N H W σ ρ) (n : Nw H W H1 W1) : Stp N σ ρ H W ρ H1 W1 :=
  ⟨r.ext n.ext (fun _ z => z.elim) (fun _ _ z => z) n.tr, ⟨fun b o e _ => n.ext.keep b o e fun z => z, n.ext.own, fun b w _ => n.ext.stay b w fun z => z, n.ext.frz, n.ext.tup, n.ext.there⟩, fun _ z => z, fun _ d h => ⟨d, h⟩, fun _ h => h⟩
theorem Reps.length : ∀ {ds : List D} {vs : List V}, Reps N H W ds vs → ds.length = vs.length
  | [], _, h => by
    have h' : _ = [] := h
    rw [h'] <;> rfl
  | _ :: ds, _, ⟨x, r, e, _, h⟩ => by rw [e, List.length_cons, List.length_cons, Reps.length h]
theorem Reps.append : ∀ {ds es : List D} {vs ws : List V}, Reps N H W ds vs → Reps N H W es ws → Reps N H W (ds ++ es) (vs ++ ws)
  | [], _, vs, _, h, g => by
    have h' : vs = [] := h
    rw [h']; exact g
  | _ :: ds, _, _, _, ⟨x, r, e, q, h⟩, g => by
    rw [e]
    exact ⟨x, _, rfl, q, Reps.append h g⟩
theorem Reps.get : ∀ {ds : List D} {vs : List V} {i : Nat} {d : D}, Reps N H W ds vs → ds[i]? = some d → ∃ v, vs[i]? = some v ∧ Rep N H W d v
  | [], _, _, _, _, e => by simp at e
  | _ :: ds, _, 0, d, ⟨x, r, e, q, h⟩, e2 => by
    rw [e]
    simp at e2
    subst e2
    exact ⟨x, rfl, q⟩
  | _ :: ds, _, i + 1, d, ⟨x, r, e, q, h⟩, e2 => by
    rw [e]
    obtain ⟨v, e3, q3⟩ := Reps.get (i := i) h (by simpa using e2)
    exact ⟨v, by simpa using e3, q3⟩
theorem Reps.take : ∀ {ds : List D} {vs : List V} (n : Nat), Reps N H W ds vs → Reps N H W (ds.take n) (vs.take n)
  | [], _, n, h => by
    have h' : _ = [] := h
    rw [h']
    simp [Reps]
  | _ :: ds, _, 0, _ => by simp [Reps]
  | _ :: ds, _, n + 1, ⟨x, r, e, q, h⟩ => by
    rw [e]
    exact ⟨x, _, rfl, q, Reps.take n h⟩
theorem Reps.drop : ∀ {ds : List D} {vs : List V} (n : Nat), Reps N H W ds vs → Reps N H W (ds.drop n) (vs.drop n)
  | [], _, n, h => by
    have h' : _ = [] := h
    rw [h']
    simp [Reps]
  | _ :: ds, _, 0, h => h
  | _ :: ds, _, n + 1, ⟨x, r, e, q, h⟩ => by
    rw [e]
    exact Reps.drop n h
theorem Reps.set {d : D} {v : V} (q : Rep N H W d v) : ∀ {ds : List D} {vs : List V} (n : Nat), Reps N H W ds vs → Reps N H W (ds.set n d) (vs.set n v)
  | [], _, n, h => by
    have h' : _ = [] := h
    rw [h']
    simp [Reps]
  | _ :: ds, _, 0, ⟨x, r, e, _, h⟩ => by
    rw [e]
    exact ⟨v, _, rfl, q, h⟩
  | _ :: ds, _, n + 1, ⟨x, r, e, q2, h⟩ => by
    rw [e]
    exact ⟨x, _, rfl, q2, Reps.set q n h⟩
theorem Reps.rep (k : Nat) {ds : List D} {vs : List V} (h : Reps N H W ds vs) : Reps N H W (List.replicate k ds).flatten (List.replicate k vs).flatten := by
  induction k with
  | zero => simp [Reps]
  | succ k ih => rw [List.replicate_succ, List.replicate_succ, List.flatten_cons, List.flatten_cons]; exact Reps.append h ih
end
end PX

end

section
set_option Elab.async false
set_option linter.all false
set_option maxRecDepth 100000
namespace PX
open PySem PySem.Spec PyProof.Rows L2
theorem tuple_mul1 (l : Addr) (items : Array Value) (n : Nat) (dd : Option Addr) (sl : Array (Option Value)) (x : Int) (u : Tok) (c0 : (decide (x < -(2 ^ 63)) || decide (x ≥ 2 ^ 63)) = false) (c1 : (items.isEmpty || x == 1) = true) :
    Meets (Builtin.«tuple.__mul__» ⟨[.ref l, .int x u], []⟩) (fun _ R s => s.heap.get? l = some { cls := .type "tuple", dict := dd, data := .seq items n, slots := sl } ∧ R (.ok (.ret (Value.ref l))) s) :=
  .of_wp fun prog w A R s h => by
    obtain ⟨hp, g, d, tk, os⟩ := s
    obtain ⟨hl, h⟩ := h
    have f1 := AutoSeq1.idx_int
    wp_walk using wpAny_loadPart' hl
    repeat (first
      | (refine wpAny_ite_false (decide_eq_false (by rw [c0]; exact Bool.false_ne_true)) ?_; wp_walk using wpAny_loadPart' hl)
      | (refine wpAny_ite_true (decide_eq_true c1) ?_; wp_walk using wpAny_loadPart' hl))
    exact ⟨_, rfl, h⟩
theorem tuple_mul0 (l : Addr) (items : Array Value) (n : Nat) (dd : Option Addr) (sl : Array (Option Value)) (x : Int) (u : Tok) (c0 : (decide (x < -(2 ^ 63)) || decide (x ≥ 2 ^ 63)) = false) (c1 : (items.isEmpty || x == 1) = false) (c2 : (decide (x ≤ 0) || items.isEmpty) = true) :
    Meets (Builtin.«tuple.__mul__» ⟨[.ref l, .int x u], []⟩) (fun _ R s => s.heap.get? l = some { cls := .type "tuple", dict := dd, data := .seq items n, slots := sl } ∧
      R (.ok (.ret (Value.ref s.heap.objs.size))) { s with heap := s.heap.push { cls := Value.type "tuple", data := Data.seq #[] }, toks := s.toks }) :=
  .of_wp fun prog w A R s h => by
    obtain ⟨hp, g, d, tk, os⟩ := s
    obtain ⟨hl, h⟩ := h
    have f1 := AutoSeq1.idx_int
    wp_walk using wpAny_loadPart' hl
    repeat (first
      | (refine wpAny_ite_false (decide_eq_false (by rw [c0]; exact Bool.false_ne_true)) ?_; wp_walk using wpAny_loadPart' hl)
      | (refine wpAny_ite_false (decide_eq_false (by rw [c1]; exact Bool.false_ne_true)) ?_; wp_walk using wpAny_loadPart' hl)
      | (refine wpAny_ite_true (decide_eq_true c2) ?_; wp_walk using wpAny_loadPart' hl))
    exact ⟨_, rfl, h⟩
def rRep3 (K : PySem.W.Frag) : R2 := fun x y H Q => ∃ l k xs, x = .ref l ∧ y = .int k ∧ SqT K H l xs ∧ -1000 ≤ k ∧ k ≤ 1000 ∧ xs.length ≤ 1000 ∧ ((xs = [] ∨ k = 1) → Q (.ref l) H) ∧ (∀ p, H p = none → Q (.ref p) (upd H p (.tup (List.replicate k.toNat xs).flatten)))
theorem op_rep3 {X : Cx} : OpR X (binaryOp .Mult) (rRep3 X.K) := by
  intro pins s σ H x y v u Q I rx ry h
  obtain ⟨l, k, xs, rfl, rfl, hT, h0, h2, hz, q1, q⟩ := h
  by_cases hk : 2 ≤ k ∧ xs ≠ []
  · exact op_repT pins s σ H _ _ v u Q I rx ry ⟨l, k, xs, rfl, rfl, hT, hk.2, hk.1, h2, hz, q⟩
  cases rx
  obtain ⟨t, rfl⟩ := ry
  obtain ⟨its, r, ⟨⟨cls, dd, data, sl⟩, ho, hc, n, hd⟩, hs⟩ := I.tuple hT
  simp only at hc hd
  subst hc hd
  have hle : its.length = xs.length := r.length.symm
  have c0 : (decide (k < -(2 ^ 63)) || decide (k ≥ 2 ^ 63)) = false := by
    rw [decide_eq_false (by omega), decide_eq_false (by omega)] <;> rfl
  have hi : its.toArray.isEmpty = decide (xs = []) := by
    cases its with
    | nil =>
      have : xs = [] := List.length_eq_zero_iff.mp (by simpa using hle.symm)
      subst this
      rfl
    | cons a b =>
      have : xs ≠ [] := fun e => by rw [e] at hle; simp at hle
      rw [decide_eq_false this]
      rfl
  by_cases hq : xs = [] ∨ k = 1
  · have c1 : (its.toArray.isEmpty || k == 1) = true := by
      rw [hi]
      rcases hq with e | e
      · rw [decide_eq_true e] <;> rfl
      · rw [e] <;> simp
    exact wpAny_binaryOp_repeat_ref (T := "tuple") (U := "int") (by decide) ⟨_, ho, rfl⟩ (fun s' => typeIs_int s' k t) noFill_tuple_mul F.fills_int_mul F.slot_int_rmul repeat_tuple F.slot_int_index.lookup
      (call_meets F.slot_int_rmul (typeIs_int s k t) F.entry_int_rmul (F.args_int_rmul_2 _ _) (int_rmul_tuple k t l its.toArray n dd sl)
        ⟨ho, rfl, ⟨_, ho, rfl⟩, call_meets F.slot_tuple_mul ⟨_, ho, rfl⟩ F.entry_tuple_mul (F.args_tuple_mul_2 _ _) (tuple_mul1 l its.toArray n dd sl k t c0 c1) ⟨ho, ⟨.ref l, H, I, rfl, q1 hq⟩⟩⟩)
  · have hx : xs ≠ [] := fun e => hq (.inl e)
    have hk1 : k ≠ 1 := fun e => hq (.inr e)
    have hk0 : k ≤ 0 := by
      rcases Classical.em (2 ≤ k) with z | z
      · exact absurd ⟨z, hx⟩ hk
      · omega
    have c1 : (its.toArray.isEmpty || k == 1) = false := by
      rw [hi, decide_eq_false hx, Bool.false_or]
      exact beq_eq_false_iff_ne.mpr hk1
    have c2 : (decide (k ≤ 0) || its.toArray.isEmpty) = true := by
      rw [decide_eq_true hk0] <;> rfl
    have e0 : k.toNat = 0 := by omega
    rw [e0] at q
    exact wpAny_binaryOp_repeat_ref (T := "tuple") (U := "int") (by decide) ⟨_, ho, rfl⟩ (fun s' => typeIs_int s' k t) noFill_tuple_mul F.fills_int_mul F.slot_int_rmul repeat_tuple F.slot_int_index.lookup
      (call_meets F.slot_int_rmul (typeIs_int s k t) F.entry_int_rmul (F.args_int_rmul_2 _ _) (int_rmul_tuple k t l its.toArray n dd sl)
        ⟨ho, rfl, ⟨_, ho, rfl⟩, call_meets F.slot_tuple_mul ⟨_, ho, rfl⟩ F.entry_tuple_mul (F.args_tuple_mul_2 _ _) (tuple_mul0 l its.toArray n dd sl k t c0 c1 c2)
          ⟨ho, ⟨.ref s.heap.objs.size, _, I.laid (t' := s.toks) (o := .tup []) (fun b ob q => Heap.get?_push_of_some _ q) (Nat.le_refl _) ⟨Nat.zero_le _, [], .nil, IsTup.new _ _⟩, rfl, q _ (I.hok.fresh (Nat.le_refl _))⟩⟩⟩)
end PX

end

section
set_option Elab.async false
set_option linter.all false
set_option autoImplicit false
set_option maxRecDepth 100000
namespace PX
open PySem PySem.Spec PyProof.Rows L2

/-! ### plain data -/
mutual
theorem ok_lay : ∀ (d : D) (n : Nat), D.ok n d = true → PyData.canLay0 d.py = true ∧ PyData.depth d.py ≤ n
  | .none, n, _ => ⟨rfl, Nat.zero_le _⟩
  | .bool _, n, _ => ⟨rfl, Nat.zero_le _⟩
  | .int _, n, _ => ⟨rfl, Nat.zero_le _⟩
  | .str s, n, h => ⟨by
    cases n with
    | zero => exact h
    | succ n => exact h, Nat.zero_le _⟩
  | .tup l, 0, h => nomatch h
  | .tup l, n + 1, h => by
    obtain ⟨a, b⟩ := oks_lay l n h
    exact ⟨a, Nat.succ_le_succ b⟩
  | .lst l, 0, h => nomatch h
  | .lst l, n + 1, h => by
    obtain ⟨a, b⟩ := oks_lay l n h
    exact ⟨a, Nat.succ_le_succ b⟩
  | .scr l, 0, h => nomatch h
  | .scr l, n + 1, h => by
    obtain ⟨a, b⟩ := oks_lay l n h
    exact ⟨a, Nat.succ_le_succ b⟩
  | .dct _ _, 0, h => nomatch h
  | .dct _ _, _ + 1, h => nomatch h
  | .obj _ _, 0, h => nomatch h
  | .obj _ _, _ + 1, h => nomatch h
theorem oks_lay : ∀ (l : List D) (n : Nat), l.all (D.ok n) = true → PyData.canLayAll0 (D.pys l) = true ∧ PyData.depthAll (D.pys l) ≤ n
  | [], n, _ => ⟨rfl, Nat.zero_le _⟩
  | d :: ds, n, h => by
    rw [List.all_cons, Bool.and_eq_true] at h
    obtain ⟨a, b⟩ := ok_lay d n h.1
    obtain ⟨a2, b2⟩ := oks_lay ds n h.2
    refine ⟨?_, Nat.max_le.mpr ⟨b, b2⟩⟩
    show (PyData.canLay0 d.py && PyData.canLayAll0 (D.pys ds)) = true
    rw [a, a2] <;> rfl
end
theorem ok_shaped {d : D} {n : Nat} (h : D.ok n d = true) (hn : n ≤ 64) : SeqAt.shaped d.py = true := by
  obtain ⟨a, b⟩ := ok_lay d n h
  unfold SeqAt.shaped
  rw [a, decide_eq_true (Nat.le_trans b hn)] <;> rfl
theorem oks_shaped {l : List D} {n : Nat} (h : l.all (D.ok n) = true) (hn : n + 1 ≤ 64) : SeqAt.shaped (.list (D.pys l)) = true ∧ SeqAt.shaped (.tuple (D.pys l)) = true :=
  ⟨ok_shaped (d := .lst l) (n := n + 1) h hn, ok_shaped (d := .tup l) (n := n + 1) h hn⟩
section
variable {N : Nm} {H : Hp} {W : Addr → Prop}
mutual
theorem rep_dp : ∀ (d : D) (n : Nat) (v : V), D.ok n d = true → Rep N H W d v → Dp N.K H v d.py
  | .none, _, v, _, h => by
    have h' : v = .non := h
    rw [h']; exact .non
  | .bool b, _, v, _, h => by
    have h' : v = .bl b := h
    rw [h']; exact .bl b
  | .int i, _, v, _, h => by
    have h' : v = .int i := h
    rw [h']; exact .int i
  | .str s, _, v, _, h => by
    have h' : v = .str s := h
    rw [h']; exact .str s
  | .tup l, 0, v, h, _ => nomatch h
  | .tup l, n + 1, v, o, h => by
    obtain ⟨a, xs, rfl, s, r⟩ := h
    exact .tup s (reps_dp l n xs o r)
  | .lst l, 0, v, h, _ => nomatch h
  | .lst l, n + 1, v, o, h => by
    obtain ⟨a, xs, rfl, _, s, r⟩ := h
    exact .lst (.of s) (reps_dp l n xs o r)
  | .scr l, 0, v, h, _ => nomatch h
  | .scr l, n + 1, v, o, h => by
    obtain ⟨a, xs, rfl, s, r⟩ := h
    exact .lst s.sq (reps_dp l n xs o r)
  | .dct _ _, 0, _, h, _ => nomatch h
  | .dct _ _, _ + 1, _, h, _ => nomatch h
  | .obj _ _, 0, _, h, _ => nomatch h
  | .obj _ _, _ + 1, _, h, _ => nomatch h
theorem reps_dp : ∀ (l : List D) (n : Nat) (vs : List V), l.all (D.ok n) = true → Reps N H W l vs → DpAll N.K H vs (D.pys l)
  | [], n, vs, _, h => by
    have h' : vs = [] := h
    rw [h']; exact .nil
  | d :: ds, n, vs, o, h => by
    rw [List.all_cons, Bool.and_eq_true] at o
    obtain ⟨x, r, rfl, q, h⟩ := h
    exact .cons (rep_dp d n x o.1 q) (reps_dp ds n r o.2 h)
end
theorem rr_dp {d : D} {n : Nat} {v : V} (o : D.ok n d = true) (h : RR N H W d v) : Dp N.K H v d.py := by
  cases d with
  | lst l => cases n with
    | zero => cases o
    | succ n =>
      obtain ⟨a, xs, rfl, s, r⟩ := h
      exact .lst (.of s) (reps_dp l n xs o r)
  | dct k l => cases n <;> cases o
  | obj c fs => cases n <;> cases o
  | none => exact rep_dp (W := W) _ n v o h
  | bool b => exact rep_dp (W := W) _ n v o h
  | int i => exact rep_dp (W := W) _ n v o h
  | str s => exact rep_dp (W := W) _ n v o h
  | tup l => exact rep_dp (W := W) _ n v o h
  | scr l => exact rep_dp (W := W) _ n v o h

/-! ### what comes of an operation: new objects alone -/
/-- a value z (new if fr) comes, wherever: Q -/
def Gv (N : Nm) (H : Hp) (W : Addr → Prop) (z : D) (fr : Bool) (Q : VK) : Prop := ∀ v H1 W1, Nw H W H1 W1 → VR N H H1 W1 z fr v → Q v H1
abbrev Trk (H : Hp) (W : Addr → Prop) : Prop := ∀ x, W x → ∃ o, H x = some o ∧ Mut (some o)
theorem Gv.here {z : D} {v : V} {Q : VK} (t : Trk H W) (h : Gv N H W z false Q) (r : Rep N H W z v) : Q v H := h v H W (.refl t) r
theorem Gv.tup {l : List D} {xs : List V} {Q : VK} (t : Trk H W) (h : Gv N H W (.tup l) false Q) (r : Reps N H W l xs) : ∀ p, H p = none → Q (.ref p) (upd H p (.tup xs)) := fun p hp =>
  h _ _ _ (.new t hp) ⟨p, xs, rfl, .of upd_same, (Nw.new t hp).reps r⟩
theorem Gv.lst {l : List D} {xs : List V} {Q : VK} (t : Trk H W) (h : Gv N H W (.lst l) true Q) (r : Reps N H W l xs) : ∀ p, H p = none → Q (.ref p) (upd H p (.lst xs)) := fun p hp =>
  h _ _ _ (.newO (o := .lst xs) t hp trivial) ⟨p, rfl, .inr rfl, ⟨xs, upd_same, (Nw.newO (o := .lst xs) t hp trivial).reps r⟩, hp⟩
theorem cut_reps {l : List D} {xs : List V} {lo hi : Option Int} (h : Reps N H W l xs) : Reps N H W (cut l lo hi) (cutV xs lo hi) := by
  unfold cut cutV
  rw [h.length]
  exact Reps.take _ (Reps.drop _ h)
theorem cut_whole {α : Type} {l : List α} {lo hi : Option Int} (h : HT.sIx l.length 0 lo = 0 ∧ HT.sIx l.length l.length hi = l.length) : cut l lo hi = l := by
  unfold cut
  rw [h.1, h.2]
  simp

def opOf : Op2 → Operator
  | .add => .Add | .sub => .Sub | .mul => .Mult | .mod => .Mod | .fdiv => .FloorDiv | .pow => .Pow | .shl => .LShift | .shr => .RShift | .band => .BitAnd
def isLst : D → Bool
  | .lst _ => true
  | _ => false
def rBop (N : Nm) (o : Op2) : R2 := fun x y H Q => ∃ (W : Addr → Prop) (d e z : D), Trk H W ∧ RR N H W d x ∧ RR N H W e y ∧ bop o d e = some z ∧ Gv N H W z (isLst z) Q
theorem i64_of {i : Int} (h : i64 i = true) : -(2 ^ 64) < i ∧ i < 2 ^ 64 := by
  unfold i64 at h
  rw [Bool.and_eq_true, decide_eq_true_eq, decide_eq_true_eq] at h
  exact h
variable {X : Cx}
theorem op_bop (hK : X.K = N.K) (o : Op2) : OpR X (binaryOp (opOf o)) (rBop N o) := by
  intro pins s σ H x y v u Q I rx ry h
  obtain ⟨W, d, e, z, t, hd, he, hz, q⟩ := h
  have sl : lim = sizeLine := lim_eq
  cases o with
  | add =>
    cases d with
    | int i => cases e with
      | int j =>
        cases hd; cases he; cases hz
        exact op_add pins s σ H _ _ v u Q I rx ry ⟨i, j, rfl, rfl, q.here t rfl⟩
      | _ => cases hz
    | tup a => cases e with
      | tup b =>
        simp only [bop] at hz
        split at hz
        · rename_i hl
          cases hz
          obtain ⟨p, xs, rfl, s1, r1⟩ := hd
          obtain ⟨p2, ys, rfl, s2, r2⟩ := he
          have l1 := r1.length
          have l2 := r2.length
          have q' : Gv N H W (.tup (a ++ b)) false Q := q
          refine op_catA pins s σ H _ _ v u Q I rx ry ⟨p, p2, xs, ys, rfl, rfl, by rw [hK]; exact s1, by rw [hK]; exact s2, by omega, fun e => ?_, fun _ e => ?_, fun _ _ => q'.tup t (r1.append r2)⟩
          · subst e
            have : a = [] := List.length_eq_zero_iff.mp (by simpa using l1)
            subst this
            exact q'.here t ⟨p2, ys, rfl, s2, r2⟩
          · subst e
            have : b = [] := List.length_eq_zero_iff.mp (by simpa using l2)
            subst this
            rw [List.append_nil] at q'
            exact q'.here t ⟨p, xs, rfl, s1, r1⟩
        · cases hz
      | _ => cases hz
    | lst a => cases e with
      | lst b =>
        simp only [bop] at hz
        split at hz
        · cases hz
          obtain ⟨p, xs, rfl, s1, r1⟩ := hd
          obtain ⟨p2, ys, rfl, s2, r2⟩ := he
          have l1 := r1.length
          have l2 := r2.length
          have q' : Gv N H W (.lst (a ++ b)) true Q := q
          exact op_cat pins s σ H _ _ v u Q I rx ry ⟨p, p2, xs, ys, rfl, rfl, s1, s2, by omega, q'.lst t (r1.append r2)⟩
        · cases hz
      | _ => cases hz
    | _ => cases hz
  | sub =>
    cases d with
    | int i => cases e with
      | int j =>
        cases hd; cases he; cases hz
        exact op_sub pins s σ H _ _ v u Q I rx ry ⟨i, j, rfl, rfl, q.here t rfl⟩
      | _ => cases hz
    | _ => cases hz
  | mul =>
    cases d with
    | int i => cases e with
      | int j =>
        simp only [bop] at hz
        split at hz
        · rename_i hl
          cases hd; cases he; cases hz
          rw [Bool.or_eq_true] at hl
          exact op_mul pins s σ H _ _ v u Q I rx ry ⟨i, j, rfl, rfl, hl.imp i64_of i64_of, q.here t rfl⟩
        · cases hz
      | _ => cases hz
    | lst a => cases e with
      | int j =>
        simp only [bop] at hz
        split at hz
        · rename_i hl
          cases he; cases hz
          obtain ⟨p, xs, rfl, s1, r1⟩ := hd
          simp only [Bool.and_eq_true, decide_eq_true_eq] at hl
          have l1 := r1.length
          have q' : Gv N H W (.lst (List.replicate j.toNat a).flatten) true Q := q
          exact op_rep pins s σ H _ _ v u Q I rx ry ⟨p, j, xs, rfl, rfl, s1, hl.1.1, hl.1.2, by rw [← l1, ← sl]; exact hl.2, q'.lst t (r1.rep _)⟩
        · cases hz
      | _ => cases hz
    | tup a => cases e with
      | int j =>
        simp only [bop] at hz
        split at hz
        · rename_i hl
          cases he; cases hz
          obtain ⟨p, xs, rfl, s1, r1⟩ := hd
          simp only [Bool.and_eq_true, decide_eq_true_eq] at hl
          have l1 := r1.length
          have q' : Gv N H W (.tup (List.replicate j.toNat a).flatten) false Q := q
          refine op_rep3 pins s σ H _ _ v u Q I rx ry ⟨p, j, xs, rfl, rfl, by rw [hK]; exact s1, hl.1.1, hl.1.2, by omega, fun e => ?_, q'.tup t (r1.rep _)⟩
          have eq : (List.replicate j.toNat a).flatten = a := by
            rcases e with e | e
            · rw [e] at l1
              have : a = [] := List.length_eq_zero_iff.mp (by simpa using l1)
              subst this
              simp
            · subst e
              show (List.replicate 1 a).flatten = a
              simp
          rw [eq] at q'
          exact q'.here t ⟨p, xs, rfl, s1, r1⟩
        · cases hz
      | _ => cases hz
    | _ => cases hz
  | mod =>
    cases d with
    | int i => cases e with
      | int j =>
        simp only [bop] at hz
        split at hz
        · cases hz
        · rename_i hl
          cases hd; cases he; cases hz
          exact op_modN pins s σ H _ _ v u Q I rx ry ⟨i, j, rfl, rfl, hl, q.here t rfl⟩
      | _ => cases hz
    | _ => cases hz
  | fdiv =>
    cases d with
    | int i => cases e with
      | int j =>
        simp only [bop] at hz
        split at hz
        · rename_i hl
          simp only [Bool.and_eq_true, decide_eq_true_eq] at hl
          cases hd; cases he; cases hz
          exact op_fdivN pins s σ H _ _ v u Q I rx ry ⟨i, j, rfl, rfl, hl, q.here t rfl⟩
        · cases hz
      | _ => cases hz
    | _ => cases hz
  | pow =>
    cases d with
    | int i => cases e with
      | int j =>
        simp only [bop] at hz
        split at hz
        · rename_i hl
          simp only [Bool.and_eq_true, decide_eq_true_eq] at hl
          cases hd; cases he; cases hz
          exact op_pow pins s σ H _ _ v u Q I rx ry ⟨i, j, rfl, rfl, ⟨hl.1.1, hl.1.2, hl.2⟩, q.here t rfl⟩
        · cases hz
      | _ => cases hz
    | _ => cases hz
  | shl => cases d <;> cases e <;> cases hz
  | shr => cases d <;> cases e <;> cases hz
  | band => cases d <;> cases e <;> cases hz
end
end PX

end

section
set_option Elab.async false
set_option linter.all false
set_option autoImplicit false
set_option maxRecDepth 100000
namespace PX
open PySem PySem.Spec PyProof.Rows L2
/-! ### dicts whose keys are tuples -/
section
variable {N : Nm} {H : Hp} {W : Addr → Prop} {X : Cx}
mutual
theorem nk_is {pins : List (Addr × Obj)} {σ : L2.St} {s : Shared} (hK : X.K = N.K) (I : Inv X pins σ H s) : ∀ (n : Nat) (d : D) (v : V) (u : Value), D.kOk n d = true → Rep N H W d v → RelV v u → NestedIs s.heap d.nk u ∧ d.nk.depth ≤ n
  | _, .none, v, u, _, h, r => by
    have h' : v = .non := h
    subst h'
    cases (show u = Value.none from r)
    exact ⟨.none, Nat.zero_le _⟩
  | _, .int i, v, u, _, h, r => by
    have h' : v = .int i := h
    subst h'
    obtain ⟨t, rfl⟩ := r
    exact ⟨.int i t, Nat.zero_le _⟩
  | _, .str x, v, u, _, h, r => by
    have h' : v = .str x := h
    subst h'
    obtain ⟨t, rfl⟩ := r
    exact ⟨.text x t, Nat.zero_le _⟩
  | 0, .tup l, v, u, k, _, _ => nomatch k
  | n + 1, .tup l, v, u, k, h, r => by
    obtain ⟨a, xs, rfl, s1, rp⟩ := h
    cases (show u = Value.ref a from r)
    obtain ⟨its, rv, ht, _⟩ := I.tuple (by rw [hK]; exact s1)
    obtain ⟨o, h1, h2, m, h3⟩ := ht
    obtain ⟨q1, q2⟩ := nks_are hK I n l xs its k rp rv
    exact ⟨.tup h1 h2 h3 (by simpa using q1), Nat.succ_le_succ q2⟩
  | n, .bool l, v, u, k, _, _ => by cases n <;> cases k
  | n, .lst l, v, u, k, _, _ => by cases n <;> cases k
  | n, .scr l, v, u, k, _, _ => by cases n <;> cases k
  | n, .dct _ l, v, u, k, _, _ => by cases n <;> cases k
  | n, .obj _ l, v, u, k, _, _ => by cases n <;> cases k
theorem nks_are {pins : List (Addr × Obj)} {σ : L2.St} {s : Shared} (hK : X.K = N.K) (I : Inv X pins σ H s) : ∀ (n : Nat) (l : List D) (xs : List V) (us : List Value), l.all (D.kOk n) = true → Reps N H W l xs → Vals xs us → NestedAll s.heap (D.nks l) us ∧ NestedKey.depthAll (D.nks l) ≤ n
  | n, [], xs, us, _, h, r => by
    have h' : xs = [] := h
    subst h'
    cases r
    exact ⟨.nil, Nat.zero_le _⟩
  | n, d :: ds, xs, us, k, h, r => by
    obtain ⟨x, t, rfl, h1, h2⟩ := h
    rw [List.all_cons, Bool.and_eq_true] at k
    cases r with
    | cons a b =>
      obtain ⟨q1, q2⟩ := nk_is hK I n d x _ k.1 h1 a
      obtain ⟨q3, q4⟩ := nks_are hK I n ds t _ k.2 h2 b
      exact ⟨.cons q1 q3, Nat.max_le.mpr ⟨q2, q4⟩⟩
end

theorem kTup_tup {d : D} (h : d.kTup = true) : (∃ l, d = .tup l) ∧ D.kOk 8 d = true := by
  cases d <;> first | exact ⟨⟨_, rfl⟩, h⟩ | cases h
theorem key_is {pins : List (Addr × Obj)} {σ : L2.St} {s : Shared} (hK : X.K = N.K) (I : Inv X pins σ H s) {d : D} {v : V} {u : Value} (k : d.kTup = true) (h : Rep N H W d v) (r : RelV v u) : ∃ a, u = .ref a ∧ v = .ref a ∧ (nestedKind N.P N.w).is s.heap d.nk a := by
  obtain ⟨⟨l, rfl⟩, k8⟩ := kTup_tup k
  obtain ⟨q1, q2⟩ := nk_is hK I 8 _ v u k8 h r
  obtain ⟨a, xs, rfl, _⟩ := h
  cases (show u = Value.ref a from r)
  exact ⟨a, rfl, rfl, q1, q2⟩
/-- a dict as it stands -/
def DctAt (N : Nm) (a : Addr) (ks : List (NestedKey × Addr)) (us : List Value) (h : Heap) : Prop := ∃ o es ep, h.get? a = some o ∧ o.ExactDict ∧ o.data = .dict es ep ∧
    es.toList = ((ks.zip us).map fun p => (p.1.1, p.1.2, p.2)).map (entryOfKey (nestedKind N.P N.w)) ∧ (ks.map Prod.fst).Nodup
theorem repsV_is {pins : List (Addr × Obj)} {σ : L2.St} {s : Shared} (hK : X.K = N.K) (I : Inv X pins σ H s) : ∀ {l : List (D × D)} {ks : List (NestedKey × Addr)} {vs : List V}, RepsV N H W l ks vs → ks.length = l.length ∧ vs.length = l.length ∧ ks.map Prod.fst = l.map (fun p => p.1.nk) ∧ (∀ p ∈ ks, (nestedKind N.P N.w).is s.heap p.1 p.2)
  | [], _, _, ⟨e1, e2⟩ => by subst e1; subst e2; exact ⟨rfl, rfl, rfl, nofun⟩
  | (k, d) :: l, _, _, ⟨b, kr, x, r, e1, e2, h0, h1, h2, h3⟩ => by
    subst e1; subst e2
    obtain ⟨q1, q2, q3, q4⟩ := repsV_is hK I h3
    obtain ⟨a, e, e', z⟩ := key_is hK I h0 h1 (u := .ref b) rfl
    cases e'
    refine ⟨by simp [q1], by simp [q2], by simp [q3], fun p hp => ?_⟩
    rcases List.mem_cons.mp hp with rfl | hp
    · exact z
    · exact q4 p hp
/-- the dict is keyed -/
theorem dct_keyed {a : Addr} {ks : List (NestedKey × Addr)} {us : List Value} {h : Heap} (hl : ks.length = us.length) (d : DctAt N a ks us h) (hk : ∀ p ∈ ks, (nestedKind N.P N.w).is h p.1 p.2) : h.DictKeyed (nestedKind N.P N.w) a ((ks.map Prod.fst).zip us) := by
  obtain ⟨o, es, ep, h1, h2, h3, h4, h5⟩ := d
  refine ⟨(ks.zip us).map fun p => (p.1.1, p.1.2, p.2), ⟨o, es, ep, h1, h2, h3, h4, fun x hx => ?_, ?_⟩, ?_⟩
  · obtain ⟨p, hp, rfl⟩ := List.mem_map.mp hx
    exact hk p.1 (List.of_mem_zip hp).1
  · rw [List.map_map]
    have : ((fun x : NestedKey × Addr × Value => x.1) ∘ fun p : (NestedKey × Addr) × Value => (p.1.1, p.1.2, p.2)) = fun p => p.1.1 := rfl
    rw [this]
    have e : (ks.zip us).map (fun p => p.1.1) = ks.map Prod.fst := by
      have : (fun p : (NestedKey × Addr) × Value => p.1.1) = Prod.fst ∘ Prod.fst := rfl
      rw [this, ← List.map_map, List.map_fst_zip (by omega)]
    rw [e]; exact h5
  · unfold pairsH
    rw [List.map_map]
    clear h1 h2 h3 h4 h5 hk
    induction ks generalizing us with
    | nil => cases us <;> rfl
    | cons k ks ih => cases us with
      | nil => cases hl
      | cons u us => simp only [List.zip_cons_cons, List.map_cons, Function.comp_apply]; rw [ih (by simpa using hl)]
theorem obj_dct {pins : List (Addr × Obj)} {σ : L2.St} {s : Shared} {a : Addr} {ks : List (NestedKey × Addr)} {vs : List V} (I : Inv X pins σ H s) (e : H a = some (dctO N.P N.w a ks vs)) : (a == sysModules) = false ∧ ks.length ≤ sizeLine ∧ ∃ us, Vals vs us ∧ ks.length = us.length ∧ DctAt N a ks us s.heap := by
  have h := I.hok a _ e
  unfold dctO at h
  simp only [ObjOk] at h
  exact h.1
theorem get_vals : ∀ {vs : List V} {us : List Value} {l : List (D × D)} {ks : List (NestedKey × Addr)} {k : NestedKey} {d : D}, Vals vs us → RepsV N H W l ks vs → (l.find? fun p => decide (p.1.nk = k)).map (·.2) = some d → ∃ v u, valueAt ((ks.map Prod.fst).zip us) k = some u ∧ RelV v u ∧ Rep N H W d v
  | _, _, [], _, _, _, _, _, e => by simp at e
  | _, _, (c, e) :: l, _, k, d, r, ⟨b, kr, x, t, e1, e2, h0, h1, h2, h3⟩, hd => by
    subst e1; subst e2
    cases r with
    | cons ra rb =>
      unfold valueAt
      simp only [List.map_cons, List.zip_cons_cons, List.find?_cons]
      rw [List.find?_cons] at hd
      by_cases q : c.nk = k
      · rw [decide_eq_true q] at hd ⊢
        cases hd
        exact ⟨_, _, rfl, ra, h2⟩
      · rw [decide_eq_false q] at hd ⊢
        exact get_vals rb h3 hd
theorem get_none : ∀ {vs : List V} {us : List Value} {l : List (D × D)} {ks : List (NestedKey × Addr)} {k : NestedKey}, Vals vs us → RepsV N H W l ks vs → (l.find? fun p => decide (p.1.nk = k)).map (·.2) = none → valueAt ((ks.map Prod.fst).zip us) k = none
  | _, _, [], _, _, _, ⟨e1, e2⟩, _ => by subst e1; rfl
  | _, _, (c, e) :: l, _, k, r, ⟨b, kr, x, t, e1, e2, h0, h1, h2, h3⟩, hd => by
    subst e1; subst e2
    cases r with
    | cons ra rb =>
      unfold valueAt
      simp only [List.map_cons, List.zip_cons_cons, List.find?_cons]
      rw [List.find?_cons] at hd
      by_cases q : c.nk = k
      · rw [decide_eq_true q] at hd
        cases hd
      · rw [decide_eq_false q] at hd ⊢
        exact get_none rb h3 hd
theorem dct_type {a : Addr} {ks : List (NestedKey × Addr)} {us : List Value} {s : Shared} (d : DctAt N a ks us s.heap) : s.TypeIs (.ref a) "dict" ∧ ∃ ob, s.heap.get? a = some ob ∧ ob.dict = none := by
  obtain ⟨o, es, ep, h1, ⟨h2, h2', _⟩, h3, h4, h5⟩ := d
  exact ⟨⟨o, h1, h2⟩, o, h1, h2'⟩
def rDGetT (N : Nm) : R2 := fun x y H Q => ∃ (W : Addr → Prop) (l : List (D × D)) (e z : D), Trk H W ∧ RR N H W (.dct true l) x ∧ RR N H W e y ∧ e.kTup = true ∧ dget true l e = some z ∧ Gv N H W z false Q
theorem kTup_rep {e : D} {y : V} (k : e.kTup = true) (h : RR N H W e y) : Rep N H W e y := by
  obtain ⟨⟨l, rfl⟩, _⟩ := kTup_tup k
  exact h
theorem dget_eq {l : List (D × D)} {e : D} : dget true l e = (l.find? fun p => decide (p.1.nk = e.nk)).map (·.2) := rfl
theorem ix_dct (hK : X.K = N.K) (hP : X.prog = N.P) (hw : X.w = N.w) (hu : X.A.units + 65 < cLine) : IxR X (rDGetT N) := by
  intro value slice pins s σ H x y v u Q I rx ry h hs
  obtain ⟨W, l, e, z, t, hd, he, ke, hz, q⟩ := h
  obtain ⟨a, ks, vs, rfl, e1, rp⟩ := hd
  cases (show v = Value.ref a from rx)
  obtain ⟨hm, hl, us, rv, hlen, da⟩ := obj_dct I e1
  obtain ⟨q1, q2, q3, q4⟩ := repsV_is hK I rp
  have dk := dct_keyed hlen da q4
  obtain ⟨b, rfl, rfl, ki⟩ := key_is hK I ke (kTup_rep ke he) ry
  obtain ⟨wv, wu, hv, hr, hrep⟩ := get_vals rv rp (dget_eq ▸ hz)
  rw [hP, hw]
  have hI : ∀ t', EP X pins σ Q wu { s with toks := t' } := fun t' => ⟨wv, H, I.kept fun _ _ h => h, hr, q.here t hrep⟩
  refine subscriptTail_builtinR (x := wu) (dct_type da).1 PySem.F.slot_dict_getitem.lookup (getItem_keyed (knd := nestedKind N.P N.w) ?_ ki dk hv ⟨rfl, hI _⟩) hs
  show X.A.units + 1 + 8 < cLine
  omega
/-- d.get(k, x) -/
def rGet2T (N : Nm) : V → List V → Hp → VK → Prop := fun x xs H Q => ∃ (W : Addr → Prop) (l : List (D × D)) (e f : D) (y z : V), xs = [y, z] ∧ Trk H W ∧ RR N H W (.dct true l) x ∧ RR N H W e y ∧ Rep N H W f z ∧ e.kTup = true ∧ Gv N H W ((dget true l e).getD f) false Q
theorem mt_get2T (hK : X.K = N.K) (hP : X.prog = N.P) (hw : X.w = N.w) (hu : X.A.units + 65 < cLine) : MtR X "dict.get" (rGet2T N) := by
  intro pins s σ H x xs v us Q I rx rs h
  obtain ⟨W, l, e, f, y, z, rfl, t, hd, he, hf, ke, q⟩ := h
  obtain ⟨a, ks, vs, rfl, e1, rp⟩ := hd
  cases (show v = Value.ref a from rx)
  obtain ⟨hm, hl, us', rv, hlen, da⟩ := obj_dct I e1
  obtain ⟨q1, q2, q3, q4⟩ := repsV_is hK I rp
  have dk := dct_keyed hlen da q4
  obtain ⟨u1, u2, rfl, r1, r2⟩ := vals2 rs
  obtain ⟨b, rfl, rfl, ki⟩ := key_is hK I ke (kTup_rep ke he) r1
  rw [hP, hw]
  refine getOr_keyed (knd := nestedKind N.P N.w) ?_ ki hm dk ?_
  · show X.A.units + 1 + 8 < cLine
    omega
  have I' : ∀ t', Inv X pins σ H { s with toks := t' } := fun t' => I.kept fun _ _ h => h
  cases hg : dget true l e with
  | none =>
    rw [hg] at q
    rw [get_none rv rp (dget_eq ▸ hg)]
    exact ⟨z, H, I' _, r2, q.here t hf⟩
  | some w =>
    rw [hg] at q
    obtain ⟨wv, wu, hv, hr, hrep⟩ := get_vals rv rp (dget_eq ▸ hg)
    rw [hv]
    exact ⟨wv, H, I' _, hr, q.here t hrep⟩
/-! #### dict(pairs) -/
mutual
theorem nk_inj : ∀ (a b : D) (n m : Nat), D.kOk n a = true → D.kOk m b = true → a.nk = b.nk → a = b
  | .none, b, n, m, _, h, e => by cases b <;> first | rfl | (cases e; done) | (cases m <;> (cases h; done))
  | .int i, b, n, m, _, h, e => by cases b <;> first | (cases e; rfl) | (cases e; done) | (cases m <;> (cases h; done))
  | .str i, b, n, m, _, h, e => by cases b <;> first | (cases e; rfl) | (cases e; done) | (cases m <;> (cases h; done))
  | .tup l, b, n, m, g, h, e => by
    cases b with
    | tup l' =>
      cases n with
      | zero => cases g
      | succ n => cases m with
        | zero => cases h
        | succ m =>
          have e' : D.nks l = D.nks l' := by
            have : NestedKey.tup (D.nks l) = NestedKey.tup (D.nks l') := e
            injection this
          rw [nks_inj l l' n m g h e']
    | _ => first | (cases e; done) | (cases m <;> (cases h; done))
  | .bool _, _, n, _, g, _, _ => by cases n <;> cases g
  | .lst _, _, n, _, g, _, _ => by cases n <;> cases g
  | .scr _, _, n, _, g, _, _ => by cases n <;> cases g
  | .dct _ _, _, n, _, g, _, _ => by cases n <;> cases g
  | .obj _ _, _, n, _, g, _, _ => by cases n <;> cases g
theorem nks_inj : ∀ (a b : List D) (n m : Nat), a.all (D.kOk n) = true → b.all (D.kOk m) = true → D.nks a = D.nks b → a = b
  | [], [], _, _, _, _, _ => rfl
  | [], _ :: _, _, _, _, _, e => nomatch e
  | _ :: _, [], _, _, _, _, e => nomatch e
  | x :: a, y :: b, n, m, g, h, e => by
    rw [List.all_cons, Bool.and_eq_true] at g h
    have : D.nk x :: D.nks a = D.nk y :: D.nks b := e
    injection this with e1 e2
    rw [nk_inj x y n m g.1 h.1 e1, nks_inj a b n m g.2 h.2 e2]
end
theorem kTup_inj {a b : D} (g : a.kTup = true) (h : b.kTup = true) (e : a.nk = b.nk) : a = b := nk_inj a b 8 8 (kTup_tup g).2 (kTup_tup h).2 e
/-- keys at told places -/
def kndS (P : Program) (w : World) (S : NestedKey → Addr → Prop) : HeapKind P w NestedKey :=
  { is := fun h k a => (nestedKind P w).is h k a ∧ S k a
    hash := (nestedKind P w).hash
    draws := (nestedKind P w).draws
    room := (nestedKind P w).room
    inj := fun a b => (nestedKind P w).inj a.1 b.1
    keeps := fun a b c d => ⟨(nestedKind P w).keeps a.1 b c d, a.2⟩
    pyHash := fun a b c => (nestedKind P w).pyHash a b.1 c
    eqBool := fun a b c d => (nestedKind P w).eqBool a b.1 c.1 d
    quiet := fun a b => (nestedKind P w).quiet a.1 b }
theorem kndS_stays {P : Program} {w : World} {S : NestedKey → Addr → Prop} : (kndS P w S).Stays :=
  ⟨fun h a => ⟨nestedKind_stays.stays h a.1, a.2⟩, fun a => nestedKind_stays.tuple a.1⟩
/-- a dict's pairs, as they are and as they stand -/
inductive PR (N : Nm) (H : Hp) (W : Addr → Prop) : List (D × D) → List (NestedKey × Value) → Prop where
  | nil : PR N H W [] []
  | cons {k d : D} {l : List (D × D)} {u : Value} {kv : List (NestedKey × Value)} {v : V} (hk : k.kTup = true) (hv : RelV v u) (hr : Rep N H W d v) (t : PR N H W l kv) : PR N H W ((k, d) :: l) ((k.nk, u) :: kv)
theorem PR.any {l : List (D × D)} {kv : List (NestedKey × Value)} (h : PR N H W l kv) (k : D) : (l.any fun p => dkEq true p.1 k) = kv.any fun p => decide (p.1 = k.nk) := by
  induction h with
  | nil => rfl
  | cons hk hv hr t ih => rw [List.any_cons, List.any_cons, ih]; rfl
theorem PR.app {l m : List (D × D)} {kv kw : List (NestedKey × Value)} (h : PR N H W l kv) (g : PR N H W m kw) : PR N H W (l ++ m) (kv ++ kw) := by
  induction h with
  | nil => exact g
  | cons hk hv hr t ih => exact .cons hk hv hr ih
theorem PR.put {l : List (D × D)} {kv : List (NestedKey × Value)} (h : PR N H W l kv) {k d : D} {v : V} {u : Value} (hk : k.kTup = true) (hv : RelV v u) (hr : Rep N H W d v) : PR N H W (dput true l k d) (stored kv k.nk u) := by
  unfold dput stored
  rw [h.any k]
  split
  · rename_i hq
    clear hq
    induction h with
    | nil => exact .nil
    | @cons k0 d0 l u0 kv v0 hk0 hv0 hr0 t ih =>
      rw [List.map_cons, List.map_cons]
      by_cases e : k0.nk = k.nk
      · have : dkEq true k0 k = true := decide_eq_true e
        rw [if_pos this, if_pos e]
        exact .cons hk0 hv hr ih
      · have : ¬ dkEq true k0 k = true := fun z => e (of_decide_eq_true z)
        rw [if_neg this, if_neg e]
        exact .cons hk0 hv0 hr0 ih
  · exact PR.app h (.cons hk hv hr .nil)
theorem PR.merge {m : List (D × D)} {kw : List (NestedKey × Value)} (g : PR N H W m kw) : ∀ {l : List (D × D)} {kv : List (NestedKey × Value)}, PR N H W l kv → PR N H W (dmerge true l m) (merged kv kw) := by
  induction g with
  | nil => exact fun h => h
  | cons hk hv hr t ih => exact fun h => ih (h.put hk hv hr)
theorem PR.len {l : List (D × D)} {kv : List (NestedKey × Value)} (h : PR N H W l kv) : l.length = kv.length := by
  induction h with
  | nil => rfl
  | cons _ _ _ _ ih => rw [List.length_cons, List.length_cons, ih]
theorem PR.mem {l : List (D × D)} {kv : List (NestedKey × Value)} (h : PR N H W l kv) : ∀ p ∈ l, p.1.kTup = true := by
  induction h with
  | nil => exact nofun
  | cons hk _ _ _ ih =>
    intro p hp
    rcases List.mem_cons.mp hp with rfl | hp
    · exact hk
    · exact ih p hp
/-- a dict's entries and what stands there -/
theorem PR.reps {S : NestedKey → Addr → Prop} (hS : ∀ k a, S k a → ∃ d : D, d.nk = k ∧ d.kTup = true ∧ Rep N H W d (.ref a)) : ∀ {l : List (D × D)} {xs : List (NestedKey × Addr × Value)}, PR N H W l (pairsH xs) → (∀ x ∈ xs, S x.1 x.2.1) → ∃ vs, Vals vs (xs.map fun x => x.2.2) ∧ RepsV N H W l (xs.map fun x => (x.1, x.2.1)) vs
  | [], [], _, _ => ⟨[], .nil, rfl, rfl⟩
  | [], _ :: _, h, _ => nomatch h
  | _ :: _, [], h, _ => nomatch h
  | (k, d) :: l, (nk, a, u) :: xs, h, hs => by
    have h' : PR N H W ((k, d) :: l) ((nk, u) :: pairsH xs) := h
    cases h' with
    | @cons _ _ _ _ _ v hk hv hr t =>
      obtain ⟨vs, q1, q2⟩ := PR.reps hS t fun x hx => hs x (List.mem_cons_of_mem _ hx)
      obtain ⟨d', e1, e2, e3⟩ := hS _ _ (hs _ List.mem_cons_self)
      have : d' = k := kTup_inj e2 hk e1
      subst this
      exact ⟨v :: vs, .cons hv q1, a, _, v, vs, rfl, rfl, hk, e3, hr, q2⟩
theorem pairs_of : ∀ {ps : List D} {m : List (D × D)} {xs : List V}, pairsOf ps = some m → Reps N H W ps xs → m.length = ps.length ∧ ∀ (j : Nat) (k d : D), m[j]? = some (k, d) → ∃ b y z, xs[j]? = some (.ref b) ∧ SqT N.K H b [y, z] ∧ Rep N H W k y ∧ Rep N H W d z
  | [], m, xs, e, h => by
    cases e
    exact ⟨rfl, fun j k d e => by simp at e⟩
  | .tup [a, c] :: r, m, xs, e, h => by
    simp only [pairsOf, Option.map_eq_some_iff] at e
    obtain ⟨m', e1, rfl⟩ := e
    obtain ⟨x, t, rfl, h1, h2⟩ := h
    obtain ⟨b, ys, rfl, s1, y, _, rfl, r1, z, _, rfl, r2, r3⟩ := h1
    cases r3
    obtain ⟨q1, q2⟩ := pairs_of e1 h2
    refine ⟨by rw [List.length_cons, List.length_cons, q1], fun j k d ej => ?_⟩
    cases j with
    | zero =>
      simp only [List.getElem?_cons_zero, Option.some.injEq] at ej
      cases ej
      exact ⟨b, y, z, rfl, s1, r1, r2⟩
    | succ j =>
      obtain ⟨b', y', z', w1, w2⟩ := q2 j k d (by simpa using ej)
      exact ⟨b', y', z', by simpa using w1, w2⟩
  | .tup [] :: _, _, _, e, _ => nomatch e
  | .tup [_] :: _, _, _, e, _ => nomatch e
  | .tup (_ :: _ :: _ :: _) :: _, _, _, e, _ => nomatch e
  | .none :: _, _, _, e, _ => nomatch e
  | .bool _ :: _, _, _, e, _ => nomatch e
  | .int _ :: _, _, _, e, _ => nomatch e
  | .str _ :: _, _, _, e, _ => nomatch e
  | .lst _ :: _, _, _, e, _ => nomatch e
  | .scr _ :: _, _, _, e, _ => nomatch e
  | .dct _ _ :: _, _, _, e, _ => nomatch e
  | .obj _ _ :: _, _, _, e, _ => nomatch e
theorem dput_len (k : Bool) (l : List (D × D)) (a v : D) : (dput k l a v).length ≤ l.length + 1 := by
  unfold dput
  split <;> simp
theorem dmerge_len (k : Bool) : ∀ (m l : List (D × D)), (dmerge k l m).length ≤ l.length + m.length
  | [], l => by show l.length ≤ _; simp
  | p :: m, l => by
    have := dmerge_len k m (dput k l p.1 p.2)
    have := dput_len k l p.1 p.2
    show (dmerge k (dput k l p.1 p.2) m).length ≤ _
    rw [List.length_cons]; omega
/-- the pairs of a list as they stand -/
theorem lay_pairs {pins : List (Addr × Obj)} {σ : L2.St} {s : Shared} (hK : X.K = N.K) (I : Inv X pins σ H s) : ∀ {ps : List D} {m : List (D × D)} {xs : List V} {its : List Value}, pairsOf ps = some m → Reps N H W ps xs → Vals xs its → (m.all fun p => p.1.kTup) = true →
    ∃ (q : List (NestedKey × Addr × Value)) (Tl : List Addr), q.length = m.length ∧ Tl.length = m.length ∧ its = Tl.map Value.ref ∧ (∀ (j : Nat) (x : NestedKey × Addr × Value) (T : Addr), q[j]? = some x → Tl[j]? = some T → PairAt s.heap T (.ref x.2.1) x.2.2) ∧ PR N H W m (pairsH q) ∧
      ∀ x ∈ q, (kndS N.P N.w fun k a => ∃ d : D, d.nk = k ∧ d.kTup = true ∧ Rep N H W d (.ref a)).is s.heap x.1 x.2.1
  | [], m, xs, its, e, h, r, _ => by
    cases e
    have h' : xs = [] := h
    subst h'
    cases r
    exact ⟨[], [], rfl, rfl, rfl, fun j x T e => by simp at e, .nil, nofun⟩
  | .tup [a, c] :: r, m, xs, its, e, h, rv, hk => by
    simp only [pairsOf, Option.map_eq_some_iff] at e
    obtain ⟨m', e1, rfl⟩ := e
    obtain ⟨x, t, rfl, h1, h2⟩ := h
    obtain ⟨b, ys, rfl, s1, y, _, rfl, r1, z, _, rfl, r2, r3⟩ := h1
    cases r3
    rw [List.all_cons, Bool.and_eq_true] at hk
    cases rv with
    | cons ra rb =>
      rename_i u us
      cases (show u = Value.ref b from ra)
      obtain ⟨q, Tl, w1, w2, w3, w4, w5, w6⟩ := lay_pairs hK I e1 h2 rb hk.2
      obtain ⟨ts, rt, ht, _⟩ := I.tuple (by rw [hK]; exact s1)
      obtain ⟨u1, u2, rfl, g1, g2⟩ := vals2 rt
      obtain ⟨ka, rfl, rfl, ki⟩ := key_is hK I hk.1 r1 g1
      obtain ⟨o, o1, o2, o3, o4⟩ := ht
      refine ⟨(a.nk, ka, u2) :: q, b :: Tl, by simp [w1], by simp [w2], by rw [w3]; rfl, fun j x T ex eT => ?_, .cons hk.1 g2 r2 w5, fun x hx => ?_⟩
      · cases j with
        | zero =>
          simp only [List.getElem?_cons_zero, Option.some.injEq] at ex eT
          subst ex; subst eT
          exact .inl ⟨o, o1, o2, o3, o4⟩
        | succ j => exact w4 j x T (by simpa using ex) (by simpa using eT)
      · rcases List.mem_cons.mp hx with rfl | hx
        · exact ⟨ki, a, rfl, hk.1, r1⟩
        · exact w6 x hx
  | .tup [] :: _, _, _, _, e, _, _, _ => nomatch e
  | .tup [_] :: _, _, _, _, e, _, _, _ => nomatch e
  | .tup (_ :: _ :: _ :: _) :: _, _, _, _, e, _, _, _ => nomatch e
  | .none :: _, _, _, _, e, _, _, _ => nomatch e
  | .bool _ :: _, _, _, _, e, _, _, _ => nomatch e
  | .int _ :: _, _, _, _, e, _, _, _ => nomatch e
  | .str _ :: _, _, _, _, e, _, _, _ => nomatch e
  | .lst _ :: _, _, _, _, e, _, _, _ => nomatch e
  | .scr _ :: _, _, _, _, e, _, _, _ => nomatch e
  | .dct _ _ :: _, _, _, _, e, _, _, _ => nomatch e
  | .obj _ _ :: _, _, _, _, e, _, _, _ => nomatch e
theorem zip_back : ∀ zs : List (NestedKey × Addr × Value), ((zs.map fun x => (x.1, x.2.1)).zip (zs.map fun x => x.2.2)).map (fun p => (p.1.1, p.1.2, p.2)) = zs
  | [] => rfl
  | z :: zs => by simp only [List.map_cons, List.zip_cons_cons, zip_back zs]
theorem call_dictT (hK : X.K = N.K) (hP : X.prog = N.P) (hw : X.w = N.w) (hc : X.calm = true) (hu : X.A.units + 65 < cLine) {pins : List (Addr × Obj)} {s : Shared} {σ : L2.St} {v : V} {u : Value} {Q : VK} {ps : List D} {m : List (D × D)} (I : Inv X pins σ H s) (r : RelV v u) (t : Trk H W) (hv : RR N H W (.lst ps) v) (hm : pairsOf ps = some m) (hk : m.all (fun p => p.1.kTup) = true) (hl : m.length ≤ lim)
    (q : Gv N H W (.dct true (dmerge true [] m)) true Q) : wpAny (model X.prog X.w) X.A (call (.type "dict") [u]) (EP X pins σ Q) X.xe s := by
  obtain ⟨a, xs, rfl, e1, rp⟩ := hv
  cases (show u = Value.ref a from r)
  obtain ⟨its, rv, hls, hz⟩ := I.list (show SqL X.K H a xs from .of e1)
  obtain ⟨qs, Tl, w1, w2, w3, w4, w5, w6⟩ := lay_pairs hK I hm rp rv hk
  obtain ⟨o, n, o1, o2, o3, o4⟩ := hls
  have hsz : qs.length ≤ sizeLine := by rw [w1, ← lim_eq]; exact hl
  rw [hP, hw]
  refine dict_keyed (kvs := pairsH qs) kndS_stays (PairArg.list a its.toArray (fun j => Tl.getD j 0) (qs.map fun x => (Value.ref x.2.1, x.2.2))) (I.ok.hd hc) ?_ ⟨⟨o, n, o1, o2, o3, o4⟩, ?_, ?_⟩ ⟨qs, rfl, ⟨by simp, ?_⟩, w6⟩ kndS_stays.all (by simpa using hsz) ?_
  · show X.A.units + 1 + 1 + 8 < cLine
    omega
  · rw [w3]; simp [w1, w2]
  · intro j k d e
    rw [List.getElem?_map, Option.map_eq_some_iff] at e
    obtain ⟨x, ex, e⟩ := e
    cases e
    have hj : j < Tl.length := by
      have := (List.getElem?_eq_some_iff.mp ex).1
      omega
    have eT : Tl[j]? = some (Tl.getD j 0) := by rw [List.getElem?_eq_getElem hj, List.getD_eq_getElem?_getD, List.getElem?_eq_getElem hj]; rfl
    refine ⟨?_, w4 j x _ ex eT⟩
    rw [w3, List.getElem?_toArray, List.getElem?_map, eT]; rfl
  · intro i key d hr
    have hr' : (qs.map fun x => (Value.ref x.2.1, x.2.2))[i]? = some (key, d) := hr
    rw [List.getElem?_map, Option.map_eq_some_iff] at hr'
    obtain ⟨x, ex, e⟩ := hr'
    cases e
    exact ⟨x.1, x.2.1, ex, rfl⟩
  · intro h' tk hd' hkp
    obtain ⟨zs, hz1, hz2⟩ := hd'
    obtain ⟨o', es, ep, z1, z2, z3, z4, z5, z6⟩ := hz1
    have hmem : ∀ p, (p : NestedKey × Addr × Value) ∈ zs → ∃ d : D, d.nk = p.1 ∧ d.kTup = true ∧ Rep N H W d (.ref p.2.1) := fun p hp => (z5 p hp).2
    have pr : PR N H W (dmerge true [] m) (pairsH zs) := hz2 ▸ PR.merge w5 .nil
    obtain ⟨vs, g1, g2⟩ := PR.reps (S := fun k a => ∃ d : D, d.nk = k ∧ d.kTup = true ∧ Rep N H W d (.ref a)) (fun k a h => h) pr hmem
    have hfresh : H s.heap.objs.size = none := I.hok.fresh (Nat.le_refl _)
    have hlen : zs.length ≤ sizeLine := by
      have e1 := pr.len
      have e2 : (pairsH zs).length = zs.length := by unfold pairsH; rw [List.length_map]
      have e3 := dmerge_len true m []
      have e4 := lim_eq
      simp at e3; omega
    have hm' : (s.heap.objs.size == sysModules) = false := beq_eq_false_iff_ne.mpr (Nat.ne_of_gt I.big)
    have hv := g1.length
    have nw : Nw H W (upd H s.heap.objs.size (dctO N.P N.w s.heap.objs.size (zs.map fun x => (x.1, x.2.1)) vs)) _ := Nw.newO t hfresh trivial
    refine ⟨.ref s.heap.objs.size, upd H s.heap.objs.size (dctO N.P N.w s.heap.objs.size (zs.map fun x => (x.1, x.2.1)) vs), I.laid (t' := tk) (fun b u e => hkp b u (fun z => nomatch z) e) (Nat.le_refl _) ?_, rfl, q _ _ _ nw ⟨s.heap.objs.size, rfl, .inr rfl, ⟨_, _, upd_same, nw.ext.repsV (fun _ z => z.elim) g2⟩, hfresh⟩⟩
    unfold dctO
    simp only [ObjOk]
    have ez := zip_back zs
    have st : (s.heap.objs.size == sysModules) = false ∧ (zs.map fun x => (x.1, x.2.1)).length ≤ sizeLine ∧ ∃ us, Vals vs us ∧ (zs.map fun x => (x.1, x.2.1)).length = us.length ∧ ∃ o es ep, h'.get? s.heap.objs.size = some o ∧ o.ExactDict ∧ o.data = .dict es ep ∧
      es.toList = (((zs.map fun x => (x.1, x.2.1)).zip us).map fun p => (p.1.1, p.1.2, p.2)).map (entryOfKey (nestedKind N.P N.w)) ∧ ((zs.map fun x => (x.1, x.2.1)).map Prod.fst).Nodup := by
      refine ⟨hm', by simpa using hlen, zs.map fun x => x.2.2, g1, by simp, o', es, ep, z1, z2, z3, ?_, ?_⟩
      · rw [ez, z4]; rfl
      · rw [List.map_map]; exact z6
    refine ⟨st, ⟨o', z1⟩, ?_⟩
    rintro h1 h2 ⟨y1, y2, us, y3, y4, o2, es2, ep2, y5, y6, y7, y8, y9⟩ hx
    exact ⟨y1, y2, us, y3, y4, o2, es2, ep2, hx _ y5, y6, y7, y8, y9⟩
end
end PX

end

section
set_option Elab.async false
set_option linter.all false
set_option autoImplicit false
set_option maxRecDepth 100000
namespace PX
open PySem PySem.Spec PyProof.Rows L2
section
variable {N : Nm} {H : Hp} {W : Addr → Prop} {X : Cx}
/-! ### comparisons -/
def cpOf : Cp → CmpOp
  | .eq => .Eq | .ne => .NotEq | .lt => .Lt | .le => .LtE | .gt => .Gt | .ge => .GtE | .isN => .Is | .notN => .IsNot | .isin => .In | .notin => .NotIn
def rCp (N : Nm) (c : Cp) : R2 := fun x y H Q => ∃ (W : Addr → Prop) (d e : D) (b : Bool), RR N H W d x ∧ RR N H W e y ∧ cpd c d e = some b ∧ Q (.bl b) H
theorem any_pys (d : D) : ∀ l : List D, D.has l d = (D.pys l).any fun z => PyData.eqv z d.py
  | [] => rfl
  | x :: r => by
    show (D.eq x d || D.has r d) = (PyData.eqv x.py d.py || _)
    rw [any_pys d r] <;> rfl
theorem op_inT (hu : X.A.units + 65 < cLine) {neg : Bool} : OpR X (compareOp (if neg = true then .NotIn else .In)) (fun x y H Q => ∃ d ds, Dp X.K H x d ∧ Dp X.K H y (.tuple ds) ∧ SeqAt.shaped d = true ∧ SeqAt.shaped (.tuple ds) = true ∧ Q (.bl (if neg = true then !(ds.any fun z => PyData.eqv z d) else ds.any fun z => PyData.eqv z d)) H) := by
  intro pins s σ H x y v u Q I rx ry h
  obtain ⟨d, ds, hd, he, sd, se, q⟩ := h
  obtain ⟨as, r1⟩ := Dp.reads I d x v hd rx
  obtain ⟨bs, r2⟩ := Dp.reads I (.tuple ds) y u he ry
  cases neg with
  | true => exact SeqAt.notIn_tuple_reads r2 r1 (SeqAt.canLay_of_shaped se) (SeqAt.canLay_of_shaped sd) (room_in_shaped sd hu) ⟨.bl _, H, I, rfl, q⟩
  | false => exact SeqAt.in_tuple_reads r2 r1 (SeqAt.canLay_of_shaped se) (SeqAt.canLay_of_shaped sd) (room_in_shaped sd hu) ⟨.bl _, H, I, rfl, q⟩
theorem op_cp (hK : X.K = N.K) (hu : X.A.units + 65 < cLine) (c : Cp) (h1 : c ≠ .isN) (h2 : c ≠ .notN) : OpR X (compareOp (cpOf c)) (rCp N c) := by
  intro pins s σ H x y v u Q I rx ry h
  obtain ⟨W, d, e, b, hd, he, hz, q⟩ := h
  cases c with
  | isN => exact absurd rfl h1
  | notN => exact absurd rfl h2
  | eq =>
    simp only [cpd] at hz
    split at hz
    · rename_i o
      rw [Bool.and_eq_true] at o
      cases hz
      exact op_eqD (by omega) pins s σ H x y v u Q I rx ry ⟨_, _, by rw [hK]; exact rr_dp o.1 hd, by rw [hK]; exact rr_dp o.2 he, ok_shaped o.1 (by decide), ok_shaped o.2 (by decide), q⟩
    · cases hz
  | ne =>
    simp only [cpd] at hz
    split at hz
    · rename_i o
      rw [Bool.and_eq_true] at o
      cases hz
      exact op_neD (by omega) pins s σ H x y v u Q I rx ry ⟨_, _, by rw [hK]; exact rr_dp o.1 hd, by rw [hK]; exact rr_dp o.2 he, ok_shaped o.1 (by decide), ok_shaped o.2 (by decide), q⟩
    · cases hz
  | lt =>
    cases d with
    | int i => cases e with
      | int j =>
        cases hd; cases he; cases hz
        exact op_lt pins s σ H _ _ v u Q I rx ry ⟨i, j, rfl, rfl, q⟩
      | _ => cases hz
    | _ => cases hz
  | le =>
    cases d with
    | int i => cases e with
      | int j =>
        cases hd; cases he; cases hz
        exact op_le pins s σ H _ _ v u Q I rx ry ⟨i, j, rfl, rfl, q⟩
      | _ => cases hz
    | _ => cases hz
  | gt =>
    cases d with
    | int i => cases e with
      | int j =>
        cases hd; cases he; cases hz
        exact op_gt pins s σ H _ _ v u Q I rx ry ⟨i, j, rfl, rfl, q⟩
      | _ => cases hz
    | _ => cases hz
  | ge =>
    cases d with
    | int i => cases e with
      | int j =>
        cases hd; cases he; cases hz
        exact op_ge pins s σ H _ _ v u Q I rx ry ⟨i, j, rfl, rfl, q⟩
      | _ => cases hz
    | _ => cases hz
  | isin =>
    cases e with
    | lst l =>
      simp only [cpd] at hz
      split at hz
      · rename_i o
        rw [Bool.and_eq_true] at o
        cases hz
        refine op_inD hu pins s σ H x y v u Q I rx ry ⟨_, D.pys l, by rw [hK]; exact rr_dp o.1 hd, by rw [hK]; exact rr_dp (d := .lst l) (n := 61) o.2 he, ok_shaped o.1 (by decide), (oks_shaped o.2 (by decide)).1, ?_⟩
        rw [← any_pys]; exact q
      · cases hz
    | tup l =>
      simp only [cpd] at hz
      split at hz
      · rename_i o
        rw [Bool.and_eq_true] at o
        cases hz
        refine op_inT (neg := false) hu pins s σ H x y v u Q I rx ry ⟨_, D.pys l, by rw [hK]; exact rr_dp o.1 hd, by rw [hK]; exact rr_dp (d := .tup l) (n := 61) o.2 he, ok_shaped o.1 (by decide), (oks_shaped o.2 (by decide)).2, ?_⟩
        rw [if_neg Bool.false_ne_true, ← any_pys]; exact q
      · cases hz
    | _ => cases d <;> cases hz
  | notin =>
    cases e with
    | lst l =>
      simp only [cpd] at hz
      split at hz
      · rename_i o
        rw [Bool.and_eq_true] at o
        cases hz
        refine op_notInD hu pins s σ H x y v u Q I rx ry ⟨_, D.pys l, by rw [hK]; exact rr_dp o.1 hd, by rw [hK]; exact rr_dp (d := .lst l) (n := 61) o.2 he, ok_shaped o.1 (by decide), (oks_shaped o.2 (by decide)).1, ?_⟩
        rw [← any_pys]; exact q
      · cases hz
    | tup l =>
      simp only [cpd] at hz
      split at hz
      · rename_i o
        rw [Bool.and_eq_true] at o
        cases hz
        refine op_inT (neg := true) hu pins s σ H x y v u Q I rx ry ⟨_, D.pys l, by rw [hK]; exact rr_dp o.1 hd, by rw [hK]; exact rr_dp (d := .tup l) (n := 61) o.2 he, ok_shaped o.1 (by decide), (oks_shaped o.2 (by decide)).2, ?_⟩
        rw [if_pos rfl, ← any_pys]; exact q
      · cases hz
    | _ => cases d <;> cases hz
theorem isNone_dec {d : D} {v : V} (h : RR N H W d v) : d.isNone = decide (v = .non) := by
  cases d with
  | none => cases h; rfl
  | bool b => cases h; rfl
  | int i => cases h; rfl
  | str s => cases h; rfl
  | tup l => obtain ⟨a, xs, rfl, _⟩ := h; rfl
  | lst l => obtain ⟨a, xs, rfl, _⟩ := h; rfl
  | scr l => obtain ⟨a, xs, rfl, _⟩ := h; rfl
  | dct k l => cases k with
    | true => obtain ⟨a, ks, xs, rfl, _⟩ := h; rfl
    | false => obtain ⟨a, xs, rfl, _⟩ := h; rfl
  | obj c fs => obtain ⟨a, dx, gs, rfl, _⟩ := h; rfl
/-! ### truth -/
theorem tru_rr {d : D} {v : V} {b : Bool} (h : RR N H W d v) (e : truth d = some b) : TruV N.K v H b := by
  cases d with
  | none => cases h; cases e; rfl
  | bool b => cases h; cases e; rfl
  | int i => cases h; cases e; rfl
  | str s => cases e
  | tup l =>
    obtain ⟨a, xs, rfl, s, r⟩ := h
    cases e
    refine .inr (.inl ⟨xs, s, ?_⟩)
    have l1 := r.length
    cases l <;> cases xs <;> first | rfl | (simp at l1)
  | lst l =>
    obtain ⟨a, xs, rfl, s, r⟩ := h
    cases e
    refine .inl ⟨xs, .of s, ?_⟩
    have l1 := r.length
    cases l <;> cases xs <;> first | rfl | (simp at l1)
  | scr l => cases e
  | dct k l => cases e
  | obj c fs => cases e
/-! ### items, slices -/
def rIdx (N : Nm) : R2 := fun x y H Q => ∃ (W : Addr → Prop) (d e z : D), Trk H W ∧ RR N H W d x ∧ RR N H W e y ∧ getIx d e = some z ∧ Gv N H W z false Q
theorem reps_at {l : List D} {xs : List V} {k : Int} {z : D} (h : Reps N H W l xs) (e : (place l.length k).bind (fun k => l[k]?) = some z) : ∃ v, atI xs k = some v ∧ Rep N H W z v := by
  unfold place at e
  unfold atI
  rw [← h.length]
  cases q : ixN l.length k with
  | none => rw [q] at e; cases e
  | some j =>
    rw [q] at e
    obtain ⟨v, e2, r⟩ := h.get (show l[j]? = some z from e)
    exact ⟨v, e2, r⟩
theorem getIx_int {d e z : D} (hd : ∀ l, d ≠ .dct true l) (h : getIx d e = some z) : ∃ k, e = .int k ∧ at_ d k = some z := by
  cases d with
  | dct k l => cases k with
    | true => exact absurd rfl (hd l)
    | false => cases e <;> first | cases h | exact ⟨_, rfl, h⟩
  | _ => cases e <;> first | cases h | exact ⟨_, rfl, h⟩
theorem ix_idx (hK : X.K = N.K) (hP : X.prog = N.P) (hw : X.w = N.w) (hu : X.A.units + 65 < cLine) : IxR X (rIdx N) := by
  intro value slice pins s σ H x y v u Q I rx ry h hs
  obtain ⟨W, d, e, z, t, hd, he, hz, q⟩ := h
  by_cases hdc : ∃ l, d = .dct true l
  · obtain ⟨l, rfl⟩ := hdc
    have hz' : (if e.kTup then dget true l e else none) = some z := by cases e <;> exact hz
    split at hz'
    · rename_i ke
      exact ix_dct hK hP hw hu value slice pins s σ H x y v u Q I rx ry ⟨W, l, e, z, t, hd, he, ke, hz', q⟩ hs
    · cases hz'
  obtain ⟨k, ek, hz2⟩ := getIx_int (fun l el => hdc ⟨l, el⟩) hz
  clear hz
  subst ek
  have hz := hz2
  have he' : y = .int k := he
  subst he'
  refine ix_seq value slice pins s σ H x (.int k) v u Q I rx ry ?_ hs
  cases d with
  | lst l =>
    obtain ⟨a, xs, rfl, s1, r⟩ := hd
    obtain ⟨w, e, rw'⟩ := reps_at r hz
    exact .inl ⟨a, xs, k, w, rfl, rfl, .of s1, e, q.here t rw'⟩
  | scr l =>
    obtain ⟨a, xs, rfl, s1, r⟩ := hd
    obtain ⟨w, e, rw'⟩ := reps_at r hz
    exact .inl ⟨a, xs, k, w, rfl, rfl, by rw [hK]; exact s1.sq, e, q.here t rw'⟩
  | tup l =>
    obtain ⟨a, xs, rfl, s1, r⟩ := hd
    obtain ⟨w, e, rw'⟩ := reps_at r hz
    exact .inr (.inl ⟨a, xs, k, w, rfl, rfl, by rw [hK]; exact s1, e, q.here t rw'⟩)
  | _ => cases hz
def rSlc (N : Nm) : V → Option Int → Option Int → Hp → VK → Prop := fun x lo hi H Q => ∃ (W : Addr → Prop) (d : D), Trk H W ∧ RR N H W d x ∧ match d with
  | .lst l => Gv N H W (.lst (cut l lo hi)) true Q
  | .scr l => Gv N H W (.lst (cut l lo hi)) true Q
  | .tup l => Gv N H W (.tup (cut l lo hi)) false Q
  | _ => False
theorem sl_slc (hK : X.K = N.K) : SlR X (rSlc N) := by
  intro pins s σ H x v vl vu lo hi sl Q I rx hs pl pu h
  obtain ⟨W, d, t, hd, q⟩ := h
  cases d with
  | lst l =>
    obtain ⟨a, xs, rfl, s1, r⟩ := hd
    exact sl_list pins s σ H _ v vl vu lo hi sl Q I rx hs pl pu ⟨a, xs, rfl, .of s1, Gv.lst t q (cut_reps r)⟩
  | scr l =>
    obtain ⟨a, xs, rfl, s1, r⟩ := hd
    exact sl_list pins s σ H _ v vl vu lo hi sl Q I rx hs pl pu ⟨a, xs, rfl, by rw [hK]; exact s1.sq, Gv.lst t q (cut_reps r)⟩
  | tup l =>
    obtain ⟨a, xs, rfl, s1, r⟩ := hd
    refine sl_tupA pins s σ H _ v vl vu lo hi sl Q I rx hs pl pu ⟨a, xs, rfl, by rw [hK]; exact s1, fun e => ?_, fun _ => Gv.tup t q (cut_reps r)⟩
    have q' : Gv N H W (.tup (cut l lo hi)) false Q := q
    rw [cut_whole (by rw [r.length]; exact e)] at q'
    exact q'.here t ⟨a, xs, rfl, s1, r⟩
  | _ => exact q.elim
end
end PX

end

section
set_option Elab.async false
set_option linter.all false
set_option autoImplicit false
set_option maxRecDepth 100000
namespace PX
open PySem PySem.Spec PyProof.Rows L2
section
variable {N : Nm} {H : Hp} {W : Addr → Prop} {X : Cx}
/-- several that may be looked at -/
inductive RRs (N : Nm) (H : Hp) (W : Addr → Prop) : List D → List V → Prop where
  | nil : RRs N H W [] []
  | cons {d : D} {v : V} {ds : List D} {vs : List V} : RR N H W d v → RRs N H W ds vs → RRs N H W (d :: ds) (v :: vs)
theorem RRs.one {d : D} {vs : List V} (h : RRs N H W [d] vs) : ∃ v, vs = [v] ∧ RR N H W d v := by
  cases h with
  | cons a b => cases b; exact ⟨_, rfl, a⟩
theorem RRs.two {d e : D} {vs : List V} (h : RRs N H W [d, e] vs) : ∃ v u, vs = [v, u] ∧ RR N H W d v ∧ RR N H W e u := by
  cases h with
  | cons a b => cases b with
    | cons c b => cases b; exact ⟨_, _, rfl, a, c⟩
/-- a thing whose items are seen -/
theorem seq_of {d : D} {v : V} {l : List D} (h : RR N H W d v) (e : seqOf d = some l) : ∃ a xs, v = .ref a ∧ (SqL N.K H a xs ∨ SqT N.K H a xs) ∧ Reps N H W l xs := by
  cases d with
  | lst m => cases e; obtain ⟨a, xs, rfl, s, r⟩ := h; exact ⟨a, xs, rfl, .inl (.of s), r⟩
  | tup m => cases e; obtain ⟨a, xs, rfl, s, r⟩ := h; exact ⟨a, xs, rfl, .inr s, r⟩
  | scr m => cases e; obtain ⟨a, xs, rfl, s, r⟩ := h; exact ⟨a, xs, rfl, .inl s.sq, r⟩
  | _ => cases e
theorem ints_reps : ∀ {l : List D} {ns : List Int} {xs : List V}, intsOf l = some ns → Reps N H W l xs → xs = ns.map V.int
  | [], ns, xs, e, h => by
    cases e
    exact h
  | .int i :: r, ns, xs, e, h => by
    simp only [intsOf, Option.map_eq_some_iff] at e
    obtain ⟨m, e1, rfl⟩ := e
    obtain ⟨x, t, rfl, h1, h2⟩ := h
    have h1' : x = .int i := h1
    rw [h1', ints_reps e1 h2, List.map_cons]
  | .none :: r, ns, xs, e, h => nomatch e
  | .bool _ :: r, ns, xs, e, h => nomatch e
  | .str _ :: r, ns, xs, e, h => nomatch e
  | .tup _ :: r, ns, xs, e, h => nomatch e
  | .lst _ :: r, ns, xs, e, h => nomatch e
  | .scr _ :: r, ns, xs, e, h => nomatch e
  | .dct _ _ :: r, ns, xs, e, h => nomatch e
  | .obj _ _ :: r, ns, xs, e, h => nomatch e
theorem bools_reps : ∀ {l : List D} {ns : List Bool} {xs : List V}, bools l = some ns → Reps N H W l xs → xs = ns.map V.bl
  | [], ns, xs, e, h => by
    cases e
    exact h
  | .bool i :: r, ns, xs, e, h => by
    simp only [bools, Option.map_eq_some_iff] at e
    obtain ⟨m, e1, rfl⟩ := e
    obtain ⟨x, t, rfl, h1, h2⟩ := h
    have h1' : x = .bl i := h1
    rw [h1', bools_reps e1 h2, List.map_cons]
  | .none :: r, ns, xs, e, h => nomatch e
  | .int _ :: r, ns, xs, e, h => nomatch e
  | .str _ :: r, ns, xs, e, h => nomatch e
  | .tup _ :: r, ns, xs, e, h => nomatch e
  | .lst _ :: r, ns, xs, e, h => nomatch e
  | .scr _ :: r, ns, xs, e, h => nomatch e
  | .dct _ _ :: r, ns, xs, e, h => nomatch e
  | .obj _ _ :: r, ns, xs, e, h => nomatch e
theorem minD_ints : ∀ (n : Int) (ns : List Int), PySem.W.minD (.int n) (ns.map PyData.int) = .int (minI n ns)
  | n, [] => rfl
  | n, m :: ns => by
    have e : PySem.W.dataLt (.int m) (.int n) = decide (m < n) := PySem.W.dataLt_int m n
    have h1 : PySem.W.minD (.int n) ((m :: ns).map PyData.int) = PySem.W.minD (if PySem.W.dataLt (.int m) (.int n) = true then .int m else .int n) (ns.map PyData.int) := rfl
    have h2 : minI n (m :: ns) = minI (if m < n then m else n) ns := rfl
    rw [h1, h2, e]
    by_cases q : m < n
    · rw [decide_eq_true q, if_pos rfl, if_pos q, minD_ints m ns]
    · rw [decide_eq_false q, if_neg Bool.false_ne_true, if_neg q, minD_ints n ns]
theorem maxD_ints : ∀ (n : Int) (ns : List Int), PySem.W.maxD (.int n) (ns.map PyData.int) = .int (maxI n ns)
  | n, [] => rfl
  | n, m :: ns => by
    have e : PySem.W.dataLt (.int n) (.int m) = decide (n < m) := PySem.W.dataLt_int n m
    have h1 : PySem.W.maxD (.int n) ((m :: ns).map PyData.int) = PySem.W.maxD (if PySem.W.dataLt (.int n) (.int m) = true then .int m else .int n) (ns.map PyData.int) := rfl
    have h2 : maxI n (m :: ns) = maxI (if n < m then m else n) ns := rfl
    rw [h1, h2, e]
    by_cases q : n < m
    · rw [decide_eq_true q, if_pos rfl, if_pos q, maxD_ints m ns]
    · rw [decide_eq_false q, if_neg Bool.false_ne_true, if_neg q, maxD_ints n ns]
theorem alike_ints' (ns : List Int) : PySem.W.AlikeAll (ns.map PyData.int) := by
  refine ⟨fun x hx y hy => ?_, fun x hx => ?_⟩
  · obtain ⟨a, _, rfl⟩ := List.mem_map.mp hx
    obtain ⟨b, _, rfl⟩ := List.mem_map.mp hy
    rfl
  · obtain ⟨a, _, rfl⟩ := List.mem_map.mp hx
    intro e; cases e
theorem reads_ints {h : Heap} : ∀ {ns : List Int} {us : List Value}, Vals (ns.map V.int) us → ReadsAll h us (ns.map PyData.int) []
  | [], us, r => by
    cases r
    exact .nil
  | n :: ns, us, r => by
    cases r with
    | cons a b =>
      obtain ⟨t, rfl⟩ := a
      exact .cons (as := []) (bs := []) (.int n t) (reads_ints b)
theorem reads_int {h : Heap} {v : Value} {n : Int} {as : List Addr} (r : Reads h v (.int n) as) : ∃ t, v = .int n t := by
  cases r
  exact ⟨_, rfl⟩
/-! ### the built-in functions -/
def biNm : BI → String
  | .len => "len" | .tuple => "tuple" | .list => "list" | .int => "int" | .abs => "abs" | .min => "min" | .max => "max" | .sum => "sum" | .any => "any" | .all => "all" | .sorted => "sorted" | .dict _ => "dict" | _ => ""
def biV : BI → Value
  | .tuple => .type "tuple" | .list => .type "list" | .int => .type "int" | .dict _ => .type "dict" | b => .builtin (biNm b)
def plainBi : BI → Bool
  | .len | .tuple | .list | .int | .abs | .min | .max | .sum | .any | .all | .sorted | .dict true => true
  | _ => false
def rBi (N : Nm) (b : BI) : List V → Hp → VK → Prop := fun vs H Q => ∃ (W : Addr → Prop) (ds : List D) (z : D) (fr : Bool), Trk H W ∧ RRs N H W ds vs ∧ biF b ds = some (z, fr) ∧ Gv N H W z fr Q
theorem cr_minmax {pins : List (Addr × Obj)} {s : Shared} {σ : L2.St} {Q : VK} (hc : X.calm = true) (hK : X.K = N.K) (hu : X.A.units + 65 < cLine) (mx : Bool) {a : Addr} {xs : List V} {n : Int} {ns : List Int} (I : Inv X pins σ H s) (hs : SqL N.K H a xs ∨ SqT N.K H a xs) (hx : xs = (n :: ns).map V.int)
    (q : Q (.int (if mx = true then maxI n ns else minI n ns)) H) : wpAny (model X.prog X.w) X.A (call (.builtin (if mx = true then "max" else "min")) [.ref a]) (EP X pins σ Q) X.xe s := by
  have hd : PyData.depthAll (PyData.int n :: ns.map PyData.int) = 0 := PySem.W.depth_ints (n :: ns)
  have hu' : X.A.units + 1 + PyData.depthAll (PyData.int n :: ns.map PyData.int) < cLine := by rw [hd]; omega
  have al := alike_ints' (n :: ns)
  rcases hs with hs | hs
  · obtain ⟨its, rv, hl, _⟩ := I.list (by rw [hK]; exact hs)
    rw [hx] at rv
    have rd := reads_ints (h := s.heap) rv
    cases mx with
    | true =>
      refine PySem.W.max_list_data (I.ok.hd hc) hl.isList rd al hu' fun i v h' tk bs _ r k => ?_
      rw [maxD_ints] at r
      obtain ⟨t, rfl⟩ := reads_int r
      exact ⟨.int _, H, I.kept k, ⟨t, rfl⟩, q⟩
    | false =>
      refine PySem.W.min_list_data (I.ok.hd hc) hl.isList rd al hu' fun i v h' tk bs _ r k => ?_
      rw [minD_ints] at r
      obtain ⟨t, rfl⟩ := reads_int r
      exact ⟨.int _, H, I.kept k, ⟨t, rfl⟩, q⟩
  · obtain ⟨its, rv, hl, _⟩ := I.tuple (by rw [hK]; exact hs)
    rw [hx] at rv
    have rd := reads_ints (h := s.heap) rv
    cases mx with
    | true =>
      refine PySem.W.max_tuple_data (I.ok.hd hc) (show s.heap.IsTuple a its.toArray from hl) rd al hu' fun i v h' tk bs _ r k => ?_
      rw [maxD_ints] at r
      obtain ⟨t, rfl⟩ := reads_int r
      exact ⟨.int _, H, I.kept k, ⟨t, rfl⟩, q⟩
    | false =>
      refine PySem.W.min_tuple_data (I.ok.hd hc) (show s.heap.IsTuple a its.toArray from hl) rd al hu' fun i v h' tk bs _ r k => ?_
      rw [minD_ints] at r
      obtain ⟨t, rfl⟩ := reads_int r
      exact ⟨.int _, H, I.kept k, ⟨t, rfl⟩, q⟩
theorem each_zip {xs : List V} {us : List Value} : ∀ {l : List D}, Vals xs us → l.length = xs.length → PySem.W.EachIs (fun (v : Value) (p : D × V) => RelV p.2 v) us (l.zip xs) := by
  intro l r
  induction r generalizing l with
  | nil => intro e; cases l with
    | nil => exact .nil
    | cons a b => simp at e
  | cons a b ih => intro e; cases l with
    | nil => simp at e
    | cons c d => exact .cons a (ih (by simpa using e))
theorem each_reads {pins : List (Addr × Obj)} {σ : L2.St} {s : Shared} (hK : X.K = N.K) (I : Inv X pins σ H s) : ∀ {l : List D} {xs : List V} {us : List Value}, l.all (D.ok 60) = true → Reps N H W l xs → Vals xs us → PySem.W.EachIs (fun (v : Value) (p : D × V) => ∃ as, Reads s.heap v p.1.py as) us (l.zip xs)
  | [], xs, us, _, h, r => by
    have h' : xs = [] := h
    subst h'
    cases r
    exact .nil
  | d :: ds, xs, us, o, h, r => by
    obtain ⟨x, t, rfl, h1, h2⟩ := h
    rw [List.all_cons, Bool.and_eq_true] at o
    cases r with
    | cons a b =>
      exact .cons (Dp.reads I d.py x _ (by rw [hK]; exact rep_dp d 60 x o.1 h1) a) (each_reads hK I o.2 h2 b)
theorem zip_reps : ∀ {bs : List (D × V)}, (∀ p ∈ bs, Rep N H W p.1 p.2) → Reps N H W (bs.map Prod.fst) (bs.map Prod.snd)
  | [], _ => rfl
  | (d, v) :: r, h => ⟨v, _, rfl, h (d, v) List.mem_cons_self, zip_reps fun p hp => h p (List.mem_cons_of_mem _ hp)⟩
theorem reps_zip : ∀ {l : List D} {xs : List V}, Reps N H W l xs → ∀ p ∈ l.zip xs, Rep N H W p.1 p.2
  | [], xs, h, p, hp => by simp at hp
  | d :: ds, xs, h, p, hp => by
    obtain ⟨x, t, rfl, h1, h2⟩ := h
    rw [List.zip_cons_cons] at hp
    rcases List.mem_cons.mp hp with rfl | hp
    · exact h1
    · exact reps_zip h2 p hp
theorem vals_each : ∀ {bs : List (D × V)} {us : List Value}, PySem.W.EachIs (fun (v : Value) (p : D × V) => RelV p.2 v) us bs → Vals (bs.map Prod.snd) us
  | [], _, .nil => .nil
  | _ :: _, _, .cons a b => .cons a (vals_each b)
theorem call_bi (hK : X.K = N.K) (hP : X.prog = N.P) (hw : X.w = N.w) (hc : X.calm = true) (hu : X.A.units + 128 < cLine) (b : BI) (hb : plainBi b = true) : CallR X (biV b) (rBi N b) := by
  intro pins s σ H vs us Q I r h
  obtain ⟨W, ds, z, fr, t, hr, e, q⟩ := h
  have sl := lim_eq
  cases b with
  | len =>
    cases hr with
    | nil => cases e
    | @cons d v ds vs h1 h2 => cases h2 with
      | cons _ _ => cases e
      | nil =>
        simp only [biF, Option.map_eq_some_iff] at e
        obtain ⟨l, e1, e2⟩ := e
        cases e2
        obtain ⟨a, xs, rfl, hs, rp⟩ := seq_of h1 e1
        refine call_len_seq pins s σ H _ us Q I r ⟨a, xs, rfl, by rw [hK]; exact hs, ?_⟩
        rw [← rp.length]
        exact q.here t rfl
  | tuple =>
    cases hr with
    | nil => cases e
    | @cons d v ds vs h1 h2 => cases h2 with
      | cons _ _ => cases d <;> cases e
      | nil =>
        cases d with
        | lst l =>
          cases e
          obtain ⟨a, xs, rfl, hs, rp⟩ := h1
          exact call_tuple_of pins s σ H _ us Q I r ⟨a, xs, rfl, .inl ⟨.of hs, q.tup t rp⟩⟩
        | tup l =>
          cases e
          obtain ⟨a, xs, rfl, hs, rp⟩ := h1
          exact call_tuple_of pins s σ H _ us Q I r ⟨a, xs, rfl, .inr ⟨by rw [hK]; exact hs, q.here t ⟨a, xs, rfl, hs, rp⟩⟩⟩
        | _ => cases e
  | list =>
    cases hr with
    | nil => cases e
    | @cons d v ds vs h1 h2 => cases h2 with
      | cons _ _ => cases e
      | nil =>
        simp only [biF, Option.map_eq_some_iff] at e
        obtain ⟨l, e1, e2⟩ := e
        cases e2
        obtain ⟨a, xs, rfl, hs, rp⟩ := seq_of h1 e1
        exact call_list_of pins s σ H _ us Q I r ⟨a, xs, rfl, by rw [hK]; exact hs, q.lst t rp⟩
  | int =>
    cases hr with
    | nil => cases e
    | @cons d v ds vs h1 h2 => cases h2 with
      | cons _ _ => cases d <;> cases e
      | nil =>
        cases d with
        | int i => cases e; cases h1; exact call_int1 pins s σ H _ us Q I r (.inl ⟨i, rfl, q.here t rfl⟩)
        | bool i => cases e; cases h1; exact call_int1 pins s σ H _ us Q I r (.inr ⟨i, rfl, q.here t rfl⟩)
        | _ => cases e
  | abs =>
    cases hr with
    | nil => cases e
    | @cons d v ds vs h1 h2 => cases h2 with
      | cons _ _ => cases d <;> cases e
      | nil =>
        cases d with
        | int i => cases e; cases h1; exact call_abs pins s σ H _ us Q I r ⟨i, rfl, q.here t rfl⟩
        | _ => cases e
  | min =>
    cases hr with
    | nil => cases e
    | @cons d v ds vs h1 h2 => cases h2 with
      | @cons d2 v2 _ _ h3 h4 => cases h4 with
        | cons _ _ => cases d <;> cases d2 <;> cases e
        | nil => cases d with
          | int i => cases d2 with
            | int j => cases e; cases h1; cases h3; exact call_min2 hc pins s σ H _ us Q I r ⟨i, j, rfl, q.here t rfl⟩
            | _ => cases e
          | _ => cases e
      | nil =>
        simp only [biF, Option.bind_eq_some_iff] at e
        obtain ⟨l, e1, ns, e2, e3⟩ := e
        cases ns with
        | nil => cases e3
        | cons n ns =>
          cases e3
          obtain ⟨a, xs, rfl, hs, rp⟩ := seq_of h1 e1
          rw [Vals.ref1 r]
          exact cr_minmax hc hK (by omega) false I hs (ints_reps e2 rp) (q.here t rfl)
  | max =>
    cases hr with
    | nil => cases e
    | @cons d v ds vs h1 h2 => cases h2 with
      | @cons d2 v2 _ _ h3 h4 => cases h4 with
        | cons _ _ => cases d <;> cases d2 <;> cases e
        | nil => cases d with
          | int i => cases d2 with
            | int j => cases e; cases h1; cases h3; exact call_max2 hc pins s σ H _ us Q I r ⟨i, j, rfl, q.here t rfl⟩
            | _ => cases e
          | _ => cases e
      | nil =>
        simp only [biF, Option.bind_eq_some_iff] at e
        obtain ⟨l, e1, ns, e2, e3⟩ := e
        cases ns with
        | nil => cases e3
        | cons n ns =>
          cases e3
          obtain ⟨a, xs, rfl, hs, rp⟩ := seq_of h1 e1
          rw [Vals.ref1 r]
          exact cr_minmax hc hK (by omega) true I hs (ints_reps e2 rp) (q.here t rfl)
  | sum =>
    cases hr with
    | nil => cases e
    | @cons d v ds vs h1 h2 => cases h2 with
      | cons _ _ => cases d <;> cases e
      | nil =>
        cases d with
        | lst l =>
          simp only [biF, Option.map_eq_some_iff] at e
          obtain ⟨ns, e1, e2⟩ := e
          cases e2
          obtain ⟨a, xs, rfl, hs, rp⟩ := h1
          exact cr_sum hc pins s σ H _ us Q I r ⟨a, ns, rfl, .of (by rw [← ints_reps e1 rp]; exact hs), q.here t rfl⟩
        | _ => cases e
  | any =>
    cases hr with
    | nil => cases e
    | @cons d v ds vs h1 h2 => cases h2 with
      | cons _ _ => cases d <;> cases e
      | nil =>
        cases d with
        | lst l =>
          simp only [biF, Option.map_eq_some_iff] at e
          obtain ⟨ns, e1, e2⟩ := e
          cases e2
          obtain ⟨a, xs, rfl, hs, rp⟩ := h1
          exact cr_any hc pins s σ H _ us Q I r ⟨a, ns, rfl, .of (by rw [← bools_reps e1 rp]; exact hs), q.here t rfl⟩
        | _ => cases e
  | all =>
    cases hr with
    | nil => cases e
    | @cons d v ds vs h1 h2 => cases h2 with
      | cons _ _ => cases d <;> cases e
      | nil =>
        cases d with
        | lst l =>
          simp only [biF, Option.map_eq_some_iff] at e
          obtain ⟨ns, e1, e2⟩ := e
          cases e2
          obtain ⟨a, xs, rfl, hs, rp⟩ := h1
          exact cr_all hc pins s σ H _ us Q I r ⟨a, ns, rfl, .of (by rw [← bools_reps e1 rp]; exact hs), q.here t rfl⟩
        | _ => cases e
  | dict kk =>
    cases kk with
    | false => cases hb
    | true =>
      cases hr with
      | nil => cases e
      | @cons d v ds vs h1 h2 => cases h2 with
        | cons _ _ => cases d <;> cases e
        | nil =>
          cases d with
          | lst l =>
            simp only [biF, Option.bind_eq_some_iff] at e
            obtain ⟨m, e1, e2⟩ := e
            split at e2
            · rename_i ok
              cases e2
              rw [Bool.and_eq_true, decide_eq_true_eq] at ok
              obtain ⟨u, rfl, ru⟩ := vals1 r
              exact call_dictT hK hP hw hc (by omega) I ru t h1 e1 ok.1 ok.2 q
            · cases e2
          | _ => cases e
  | sorted =>
    cases hr with
    | nil => cases e
    | @cons d v ds vs h1 h2 => cases h2 with
      | cons _ _ => cases d <;> cases e
      | nil =>
        cases d with
        | lst l =>
          simp only [biF] at e
          split at e
          · rename_i ok
            cases e
            obtain ⟨a, xs, rfl, hs, rp⟩ := h1
            rw [Vals.ref1 r]
            obtain ⟨its, rv, hl, hz⟩ := I.list (SqL.of hs)
            unfold sortOk at ok
            rw [Bool.and_eq_true, Bool.and_eq_true] at ok
            obtain ⟨⟨o1, o2⟩, o3⟩ := ok
            have len : l.length = xs.length := rp.length
            have mf : (l.zip xs).map Prod.fst = l := List.map_fst_zip (by omega)
            have mem : ∀ d, d ∈ (l.zip xs).map (fun p : D × V => p.1.py) → ∃ c ∈ l, d = c.py := fun d hd => by
              obtain ⟨p, hp, rfl⟩ := List.mem_map.mp hd
              exact ⟨p.1, (List.of_mem_zip hp).1, rfl⟩
            refine PySem.W.sorted_data (enc := fun p : D × V => p.1.py) (bs := l.zip xs) hl.isList (each_zip rv len) (each_reads hK I o1 rp rv) (fun d hd d' hd' => ?_) ?_ (by rw [List.length_zip]; omega) (fun p hp => ?_) fun out ho hE => ?_
            · obtain ⟨c, hc1, rfl⟩ := mem d hd
              obtain ⟨c', hc1', rfl⟩ := mem d' hd'
              exact List.all_eq_true.mp (List.all_eq_true.mp o2 c hc1) c' hc1'
            · rw [Bool.or_eq_true] at o3
              rcases o3 with o3 | o3
              · refine .inl fun d hd => ?_
                obtain ⟨c, hc1, rfl⟩ := mem d hd
                have := List.all_eq_true.mp o3 c hc1
                cases c with
                | tup m => cases m with
                  | nil => cases this
                  | cons x y => exact ⟨x.py, D.pys y, rfl⟩
                | _ => cases this
              · refine .inr fun d hd => ?_
                obtain ⟨c, hc1, rfl⟩ := mem d hd
                have := List.all_eq_true.mp o3 c hc1
                have okc := List.all_eq_true.mp o1 c hc1
                cases c with
                | tup m => cases this
                | none => cases this
                | dct k m => cases okc
                | obj k m => cases okc
                | bool _ => exact ⟨(fun e => nomatch e), (fun _ e => nomatch e)⟩
                | int _ => exact ⟨(fun e => nomatch e), (fun _ e => nomatch e)⟩
                | str _ => exact ⟨(fun e => nomatch e), (fun _ e => nomatch e)⟩
                | lst _ => exact ⟨(fun e => nomatch e), (fun _ e => nomatch e)⟩
                | scr _ => exact ⟨(fun e => nomatch e), (fun _ e => nomatch e)⟩
            · have := (ok_lay p.1 60 (List.all_eq_true.mp o1 p.1 (List.of_mem_zip hp).1)).2
              omega
            · obtain ⟨ep, he'⟩ := PyProof.Rows.sortedAll_at s.heap its (List.toArray out)
              have ex : ((l.zip xs).mergeSort (PySem.W.dataLe false fun p : D × V => p.1.py)).map Prod.fst = D.sort l := by
                have z := List.map_mergeSort (r := PySem.W.dataLe false fun p : D × V => p.1.py) (s := PySem.W.dataLe false D.py) (f := Prod.fst) (l := l.zip xs) (fun a _ b _ => rfl)
                rw [z, mf]
                rfl
              have rp' : Reps N H W (D.sort l) (((l.zip xs).mergeSort (PySem.W.dataLe false fun p : D × V => p.1.py)).map Prod.snd) := by
                rw [← ex]
                exact zip_reps fun p hp => reps_zip rp p ((List.mergeSort_perm _ _).mem_iff.mp hp)
              have hlen : (((l.zip xs).mergeSort (PySem.W.dataLe false fun p : D × V => p.1.py)).map Prod.snd).length ≤ sizeLine := by
                rw [List.length_map, List.length_mergeSort, List.length_zip]
                omega
              exact ⟨.ref _, upd H (s.heap.objs.size + 1) (.lst _), I.laid (t' := s.toks) (fun _ _ => PyProof.Rows.sortedAll_old) (Nat.le_succ _) ⟨hlen, out, ep, vals_each hE, he'⟩, rfl, Gv.lst t q rp' _ (I.hok.fresh (Nat.le_succ _))⟩
          · cases e
        | _ => cases e
  | _ => cases hb
end
end PX

end

section
set_option Elab.async false
set_option linter.all false
set_option autoImplicit false
set_option maxRecDepth 100000
namespace PX
open PySem PySem.Spec PyProof.Rows L2

theorem peImp {X : Cx} {e : Expr} {t t' : TE} (h : PE X e t) (i : ∀ σ H Q, t' σ H Q → t σ H Q) : PE X e t' := ⟨fun pins s σ H Q I hw => h.run pins s σ H Q I (i σ H Q hw)⟩
theorem ptImp {X : Cx} {e : Expr} {t t' : TT} (h : PT X e t) (i : ∀ σ H Q, t' σ H Q → t σ H Q) : PT X e t' := ⟨fun pins s σ H Q I hw => h.run pins s σ H Q I (i σ H Q hw)⟩
theorem paImp {X : Cx} {e : List Expr} {t t' : TA} (h : PA X e t) (i : ∀ σ H Q, t' σ H Q → t σ H Q) : PA X e t' := ⟨fun pos pins s σ H Q I hw => h.run pos pins s σ H Q I (i σ H Q hw)⟩

/-- what lies in an exception's own dict -/
def ExcR (N : Nm) (H : Hp) (W : Addr → Prop) (c : Nat) (ds : List (Nat × D)) (x : Addr) : Prop :=
  ∃ gs : List (Str × V), H x = some (.xd gs) ∧ ∀ (i : Nat) (d : D), (i, d) ∈ ds → ∃ (f : Str) (v : V), (N.xfs c)[i]? = some f ∧ gs.lookup f = some v ∧ Rep N H W d v

section
variable (N : Nm) (Wx : WX) (σ : L2.St)
/-- behind a reckoning that began at ρ, H, W: K of what comes -/
def Cont {α : Type} (ρ : Ev) (H : Hp) (W : Addr → Prop) (K : α → Ev → Hp → (Addr → Prop) → Prop) : Res α → Prop
  | .ok a ρ1 => ∀ H1 W1, Stp N σ ρ H W ρ1 H1 W1 → K a ρ1 H1 W1
  | .exc c fs => ∀ x H1 W1, Ext (Own ρ σ) H W H1 W1 → ExcR N H1 W1 c fs x → Wx (.ref (N.exc c)) (some x) σ H1
  | .bad => False
end
section
variable {N : Nm} {Wx : WX} {σ : L2.St} {ρ ρ1 : Ev} {H H1 : Hp} {W W1 : Addr → Prop} {α β : Type}
theorem Stp.ext2 (rel : RelS N H W σ ρ) (s : Stp N σ ρ H W ρ1 H1 W1) {H2 : Hp} {W2 : Addr → Prop} (e : Ext (Own ρ1 σ) H1 W1 H2 W2) : Ext (Own ρ σ) H W H2 W2 :=
  s.ext.trans e (fun _ h => rel.own h) (fun x h => .inl (s.sub x h)) fun x w => let ⟨o, e, _⟩ := rel.tr x w; ⟨o, e⟩
theorem Cont.bind (rel : RelS N H W σ ρ) {K : β → Ev → Hp → (Addr → Prop) → Prop} {f : α → Ev → Res β} : ∀ {r : Res α}, Cont N Wx σ ρ H W K (r.bind f) →
    Cont N Wx σ ρ H W (fun a ρ1 H1 W1 => Stp N σ ρ H W ρ1 H1 W1 ∧ Cont N Wx σ ρ1 H1 W1 K (f a ρ1)) r
  | .bad, h => h
  | .exc c fs, h => h
  | .ok a ρ1, h => fun H1 W1 s => by
    refine ⟨s, ?_⟩
    have h' : Cont N Wx σ ρ H W K (f a ρ1) := h
    revert h'
    cases f a ρ1 with
    | ok b ρ2 => exact fun h' H2 W2 s2 => h' H2 W2 (s.trans rel s2)
    | exc c fs => exact fun h' x H2 W2 e r => h' x H2 W2 (s.ext2 rel e) r
    | bad => exact fun h' => h'
theorem Cont.mono {K K' : α → Ev → Hp → (Addr → Prop) → Prop} : ∀ {r : Res α}, Cont N Wx σ ρ H W K r → (∀ a ρ1 H1 W1, Stp N σ ρ H W ρ1 H1 W1 → K a ρ1 H1 W1 → K' a ρ1 H1 W1) → Cont N Wx σ ρ H W K' r
  | .bad, h, _ => h
  | .exc c fs, h, _ => h
  | .ok a ρ1, h, m => fun H1 W1 s => m a ρ1 H1 W1 s (h H1 W1 s)
theorem Cont.here {K : α → Ev → Hp → (Addr → Prop) → Prop} (rel : RelS N H W σ ρ) {a : α} (h : Cont N Wx σ ρ H W K (.ok a ρ)) : K a ρ H W := h H W (.refl rel)
theorem Cont.ofO {K : β → Ev → Hp → (Addr → Prop) → Prop} {o : Option α} {f : α → Ev → Res β} (h : Cont N Wx σ ρ H W K ((PX.ofO o ρ).bind f)) : ∃ a, o = some a ∧ Cont N Wx σ ρ H W K (f a ρ) := by
  cases o with
  | none => exact h.elim
  | some a => exact ⟨a, rfl, h⟩
theorem Cont.ofO0 {K : α → Ev → Hp → (Addr → Prop) → Prop} {o : Option α} (h : Cont N Wx σ ρ H W K (PX.ofO o ρ)) : ∃ a, o = some a ∧ Cont N Wx σ ρ H W K (.ok a ρ) := by
  cases o with
  | none => exact h.elim
  | some a => exact ⟨a, rfl, h⟩
end

section
variable (N : Nm) (Wx : WX)
/-- an expression's reading: a value, new or not -/
def TEv (r : Ev → Res (D × Bool)) : TE := fun σ H Q => ∃ W ρ, RelS N H W σ ρ ∧ Cont N Wx σ ρ H W (fun p _ H1 W1 => ∀ v, VR N H H1 W1 p.1 p.2 v → Q v H1) (r ρ)
/-- .. that is looked at alone -/
def TRd (r : Ev → Res D) : TE := fun σ H Q => ∃ W ρ, RelS N H W σ ρ ∧ Cont N Wx σ ρ H W (fun d _ H1 W1 => ∀ v, RR N H1 W1 d v → Q v H1) (r ρ)
/-- .. that is kept -/
def TKp (r : Ev → Res D) : TE := fun σ H Q => ∃ W ρ, RelS N H W σ ρ ∧ Cont N Wx σ ρ H W (fun d _ H1 W1 => ∀ v, Rep N H1 W1 d v → Q v H1) (r ρ)
def TTt (r : Ev → Res Bool) : TT := fun σ H Q => ∃ W ρ, RelS N H W σ ρ ∧ Cont N Wx σ ρ H W (fun b _ H1 W1 => Q b H1) (r ρ)
def TAs (r : Ev → Res (List D)) : TA := fun σ H Q => ∃ W ρ, RelS N H W σ ρ ∧ Cont N Wx σ ρ H W (fun ds _ H1 W1 => ∀ vs, Reps N H1 W1 ds vs → Q vs H1) (r ρ)
def TRs (r : Ev → Res (List D)) : TA := fun σ H Q => ∃ W ρ, RelS N H W σ ρ ∧ Cont N Wx σ ρ H W (fun ds _ H1 W1 => ∀ vs, RRs N H1 W1 ds vs → Q vs H1) (r ρ)
end
section
variable {N : Nm} {Wx : WX} {X : Cx} {e : Expr}
/-- a new thing may be kept -/
theorem Cont.kp {σ : L2.St} {ρ : Ev} {H : Hp} {W : Addr → Prop} (rel : RelS N H W σ ρ) {K : D → Ev → Hp → (Addr → Prop) → Prop} : ∀ {r : Res (D × Bool)}, Cont N Wx σ ρ H W K (r.bind fun p ρ => .ok p.1 ρ) →
    Cont N Wx σ ρ H W (fun p ρ1 H1 W1 => ∀ v, VR N H H1 W1 p.1 p.2 v → ∃ W2, Stp N σ ρ H W ρ1 H1 W2 ∧ Rep N H1 W2 p.1 v ∧ K p.1 ρ1 H1 W2) r
  | .bad, h => h
  | .exc c fs, h => h
  | .ok p ρ1, h => fun H1 W1 s v hv => by
    obtain ⟨W2, s2, rp⟩ := s.freeze rel hv
    exact ⟨W2, s2, rp, h H1 W2 s2⟩
/-- a new thing may be kept -/
theorem TEv.kp {r : Ev → Res (D × Bool)} {σ : L2.St} {H : Hp} {Q : VK} (h : TKp N Wx (fun ρ => (r ρ).bind fun p ρ => .ok p.1 ρ) σ H Q) : TEv N Wx r σ H Q := by
  obtain ⟨W, ρ, rel, c⟩ := h
  refine ⟨W, ρ, rel, (c.kp rel).mono fun p ρ1 H1 W1 s k v hv => ?_⟩
  obtain ⟨W2, s2, rp, q⟩ := k v hv
  exact q v rp
theorem bind_fst {α : Type} {r : Res (D × Bool)} {F : D → Ev → Res α} : (r.bind fun p ρ => F p.1 ρ) = (r.bind fun p ρ => Res.ok p.1 ρ).bind F := by cases r <;> rfl
variable (N Wx X) in
/-- an expression's two readings -/
structure Rdr (e : Expr) (a : E) (r : Ev → Res (D × Bool)) : Prop where
  ev : PE X e (TEv N Wx r)
  var : ∀ i, a = .var i → PE X e (tVar i)
variable {σ : L2.St} {ρ : Ev} {H : Hp} {W : Addr → Prop}
theorem RelS.rd (rel : RelS N H W σ ρ) {i : Nat} {d : D} {ρ1 : Ev} (h : rd i ρ = .ok d ρ1) : ρ1 = ρ ∧ ∃ v, σ[i]? = some (some v) ∧ RR N H W d v := by
  unfold PX.rd at h
  cases q : ρ[i]? with
  | none => rw [q] at h; cases h
  | some c =>
    rw [q] at h
    have s := rel.slot i c q
    cases c with
    | unset => cases h
    | val d' =>
      cases h
      obtain ⟨v, e, r⟩ := s
      exact ⟨rfl, v, e, r.rr⟩
    | own p d' =>
      cases h
      obtain ⟨a, e, w, r⟩ := s
      exact ⟨rfl, _, e, r.rr⟩
theorem rd_cases (i : Nat) (ρ : Ev) : (∃ d, rd i ρ = .ok d ρ) ∨ rd i ρ = .bad := by
  unfold rd
  split
  · exact .inl ⟨_, rfl⟩
  · exact .inl ⟨_, rfl⟩
  · exact .inr rfl
/-- looked at alone -/
theorem Rdr.rd {a : E} {r : Ev → Res (D × Bool)} (h : Rdr N Wx X e a r) : PE X e (TRd N Wx (rdOr a r)) := by
  have gen : PE X e (TRd N Wx fun ρ => (r ρ).bind fun d ρ => .ok d.1 ρ) := by
    refine peImp h.ev fun σ H Q hq => TEv.kp ?_
    obtain ⟨W, ρ, rel, c⟩ := hq
    exact ⟨W, ρ, rel, c.mono fun d ρ1 H1 W1 s k v hv => k v hv.rr⟩
  cases a with
  | var i =>
    refine peImp (h.var i rfl) fun σ H Q hq => ?_
    obtain ⟨W, ρ, rel, c⟩ := hq
    have c' : Cont N Wx σ ρ H W (fun d _ H1 W1 => ∀ v, RR N H1 W1 d v → Q v H1) (PX.rd i ρ) := c
    rcases rd_cases i ρ with ⟨d, e1⟩ | e1
    · rw [e1] at c'
      obtain ⟨_, v, ev, rr⟩ := rel.rd e1
      exact ⟨v, ev, c'.here rel v rr⟩
    · rw [e1] at c'
      exact c'.elim
  | _ => exact gen
/-- two operands -/
theorem pe_two {ea eb : Expr} {a b : E} {ra rb : Ev → Res (D × Bool)} (ha : Rdr N Wx X ea a ra) (hb : Rdr N Wx X eb b rb) : ∃ ta tb, PE X ea ta ∧ PE X eb tb ∧
    ∀ σ H (R : V → V → Hp → Prop), (∃ W ρ, RelS N H W σ ρ ∧ Cont N Wx σ ρ H W (fun p _ H1 W1 => ∀ x y, RR N H1 W1 p.1 x → RR N H1 W1 p.2 y → Trk H1 W1 → R x y H1) (two a b ra rb ρ)) → ta σ H fun x H1 => tb σ H1 fun y H2 => R x y H2 := by
  have gen : ∃ ta tb, PE X ea ta ∧ PE X eb tb ∧ ∀ σ H (R : V → V → Hp → Prop), (∃ W ρ, RelS N H W σ ρ ∧ Cont N Wx σ ρ H W (fun p _ H1 W1 => ∀ x y, RR N H1 W1 p.1 x → RR N H1 W1 p.2 y → Trk H1 W1 → R x y H1)
      ((ra ρ).bind fun x ρ => (rdOr b rb ρ).bind fun y ρ => .ok (x.1, y) ρ)) → ta σ H fun x H1 => tb σ H1 fun y H2 => R x y H2 := by
    refine ⟨_, _, ha.ev, hb.rd, fun σ H R hq => ?_⟩
    obtain ⟨W, ρ, rel, c⟩ := hq
    rw [bind_fst (F := fun x ρ => (rdOr b rb ρ).bind fun y ρ => .ok (x, y) ρ)] at c
    refine TEv.kp ⟨W, ρ, rel, (c.bind rel).mono fun d ρ1 H1 W1 s ⟨_, c1⟩ v hv => ?_⟩
    refine ⟨W1, ρ1, s.rel, (c1.bind s.rel).mono fun y ρ2 H2 W2 s2 ⟨_, c2⟩ u hu => ?_⟩
    exact c2.here s2.rel v u (s2.rep s.rel hv).rr hu s2.rel.tr
  cases a with
  | var i =>
    refine ⟨_, _, ha.var i rfl, hb.rd, fun σ H R hq => ?_⟩
    obtain ⟨W, ρ, rel, c⟩ := hq
    have c0 : Cont N Wx σ ρ H W _ ((PX.rd i ρ).bind fun _ ρ => (rdOr b rb ρ).bind fun y ρ => (PX.rd i ρ).bind fun x ρ => .ok (x, y) ρ) := c
    rcases rd_cases i ρ with ⟨d, e1⟩ | e1
    · rw [e1] at c0
      obtain ⟨_, v, ev, rr⟩ := rel.rd e1
      have c1 : Cont N Wx σ ρ H W _ ((rdOr b rb ρ).bind fun y ρ => (PX.rd i ρ).bind fun x ρ => .ok (x, y) ρ) := c0
      refine ⟨v, ev, W, ρ, rel, (c1.bind rel).mono fun y ρ2 H2 W2 s2 ⟨_, c2⟩ u hu => ?_⟩
      rcases rd_cases i ρ2 with ⟨d2, e2⟩ | e2
      · rw [e2] at c2
        obtain ⟨_, v2, ev2, rr2⟩ := s2.rel.rd e2
        rw [ev] at ev2
        cases ev2
        have c3 : Cont N Wx σ ρ2 H2 W2 _ (.ok (d2, y) ρ2) := c2
        exact c3.here s2.rel v u rr2 hu s2.rel.tr
      · rw [e2] at c2
        exact c2.elim
    · rw [e1] at c0
      exact c0.elim
  | _ => exact gen
end
end PX

end

section
set_option Elab.async false
set_option linter.all false
set_option autoImplicit false
set_option maxRecDepth 100000
namespace PX
open PySem PySem.Spec PyProof.Rows L2
section
variable {N : Nm} {Wx : WX} {X : Cx} {σ : L2.St} {ρ ρ1 : Ev} {H H1 : Hp} {W W1 : Addr → Prop}
theorem OwnR.mono {a : Addr} (m : ∀ b, W1 b → W b) : ∀ {d : D}, OwnR N H W a d → OwnR N H W1 a d
  | .lst _, ⟨xs, r, q⟩ => ⟨xs, r, Reps.mono (fun _ _ e _ => e) (fun _ w => .inl (m _ w)) (fun _ _ e => e) (fun _ _ _ e => e) _ _ q⟩
  | .dct true _, ⟨ks, vs, r, q⟩ => ⟨ks, vs, r, RepsV.mono (fun _ _ e _ => e) (fun _ w => .inl (m _ w)) (fun _ _ e => e) (fun _ _ _ e => e) _ _ _ q⟩
  | .dct false _, ⟨vs, r, q⟩ => ⟨vs, r, RepsK.mono (fun _ _ e _ => e) (fun _ w => .inl (m _ w)) (fun _ _ e => e) (fun _ _ _ e => e) _ _ q⟩
  | .obj _ _, ⟨dx, gs, r, q⟩ => ⟨dx, gs, r, RepsF.mono (fun _ _ e _ => e) (fun _ w => .inl (m _ w)) (fun _ _ e => e) (fun _ _ _ e => e) _ _ q⟩
theorem Rep.less (m : ∀ b, W1 b → W b) {d : D} {v : V} (h : Rep N H W d v) : Rep N H W1 d v := Rep.mono (fun _ _ e _ => e) (fun _ w => .inl (m _ w)) (fun _ _ e => e) (fun _ _ _ e => e) d v h
/-- a slot's list is given away -/
theorem RelS.give (rel : RelS N H W σ ρ) {i : Nat} {d : D} (e : ρ[i]? = some (Cell.own false d)) : ∃ v W2, σ[i]? = some (some v) ∧ Stp N σ ρ H W (ρ.set i (.val d)) H W2 ∧ Rep N H W2 d v := by
  obtain ⟨a, e1, w, r⟩ := rel.slot i _ e
  have hi : i < ρ.length := (List.getElem?_eq_some_iff.mp e).1
  have m : ∀ b, (W b ∧ b ≠ a) → W b := fun b z => z.1
  have own : Own ρ σ a := ⟨i, false, d, e, e1⟩
  refine ⟨_, fun b => W b ∧ b ≠ a, e1, ⟨⟨by rw [List.length_set]; exact rel.len, fun j c ej => ?_, fun j k q q' d1 d2 b h1 h2 h3 h4 => ?_, fun x w => rel.tr x w.1⟩, ?_, fun b h => ?_, fun j d' h => ?_, fun j h => ?_⟩, OwnR.rep (fun z => z.2 rfl) (r.mono m)⟩
  · by_cases hj : j = i
    · subst hj
      rw [List.getElem?_set_self hi] at ej
      cases ej
      exact ⟨_, e1, OwnR.rep (fun z => z.2 rfl) (r.mono m)⟩
    · rw [List.getElem?_set_ne (Ne.symm hj)] at ej
      have s := rel.slot j c ej
      cases c with
      | unset => trivial
      | val d' => exact let ⟨v, q1, q2⟩ := s; ⟨v, q1, q2.less m⟩
      | own q d' =>
        obtain ⟨b, q1, q2, q3⟩ := s
        exact ⟨b, q1, ⟨q2, fun z => hj (rel.apart j i q false d' d a ej e (by rw [q1, z]) e1)⟩, q3.mono m⟩
  · have nj : ∀ {j : Nat} {q : Bool} {d1 : D}, (ρ.set i (.val d))[j]? = some (Cell.own q d1) → ρ[j]? = some (Cell.own q d1) := fun {j q d1} h => by
      by_cases hj : j = i
      · subst hj; rw [List.getElem?_set_self hi] at h; cases h
      · rw [List.getElem?_set_ne (Ne.symm hj)] at h; exact h
    exact rel.apart j k q q' d1 d2 b (nj h1) (nj h2) h3 h4
  · exact Ext.give (p := a) (.inr own) .refl
  · obtain ⟨j, q, d1, h1, h2⟩ := h
    by_cases hj : j = i
    · subst hj; rw [List.getElem?_set_self hi] at h1; cases h1
    · rw [List.getElem?_set_ne (Ne.symm hj)] at h1; exact ⟨j, q, d1, h1, h2⟩
  · by_cases hj : j = i
    · subst hj; rw [e] at h; cases h
    · exact ⟨d', by rw [List.getElem?_set_ne (Ne.symm hj)]; exact h⟩
  · by_cases hj : j = i
    · subst hj; rw [List.getElem?_set_self hi] at h; cases h
    · rw [List.getElem?_set_ne (Ne.symm hj)] at h; exact h
variable (C : Call) (G : Nat → D)
theorem r_var {e : Expr} {i : Nat} (h : PE X e (tVar i)) : Rdr N Wx X e (.var i) (ev C G (.var i)) := by
  refine ⟨peImp h fun σ H Q hq => ?_, fun j ej => by cases ej; exact h⟩
  obtain ⟨W, ρ, rel, c⟩ := hq
  have c' : Cont N Wx σ ρ H W _ (match ρ[i]? with
    | some (.val d) => .ok (d, false) ρ
    | some (.own false d) => .ok (d, false) (ρ.set i (.val d))
    | _ => .bad) := c
  cases q : ρ[i]? with
  | none => rw [q] at c'; exact c'.elim
  | some cl =>
    rw [q] at c'
    cases cl with
    | unset => exact c'.elim
    | val d =>
      obtain ⟨v, e1, r⟩ := rel.slot i _ q
      exact ⟨v, e1, c'.here rel v r⟩
    | own p d => cases p with
      | true => exact c'.elim
      | false =>
        obtain ⟨v, W2, e1, s, r⟩ := rel.give q
        exact ⟨v, e1, c' H W2 s v r⟩
theorem r_const {e : Expr} {a : E} {d : D} {v : V} (h : PE X e (tC v)) (hv : ∀ H W, Rep N H W d v) (ha : ∀ i, a ≠ .var i) (he : ∀ ρ, ev C G a ρ = .ok (d, false) ρ) : Rdr N Wx X e a (ev C G a) := by
  refine ⟨peImp h fun σ H Q hq => ?_, fun i ei => absurd ei (ha i)⟩
  obtain ⟨W, ρ, rel, c⟩ := hq
  rw [he] at c
  exact c.here rel v (hv H W)
theorem r_none {k : Nat} {p : Pos} : Rdr N Wx X (.Constant .none k p) .none (ev C G .none) := r_const C G (d := .none) pe_non (fun _ _ => rfl) (fun _ e => nomatch e) fun _ => rfl
theorem r_bool {b : Bool} {k : Nat} {p : Pos} : Rdr N Wx X (.Constant (.bool b) k p) (.bool b) (ev C G (.bool b)) := r_const C G (d := .bool b) pe_bl (fun _ _ => rfl) (fun _ e => nomatch e) fun _ => rfl
theorem r_int {b : Int} {k : Nat} {p : Pos} : Rdr N Wx X (.Constant (.int b) k p) (.int b) (ev C G (.int b)) := r_const C G (d := .int b) pe_int (fun _ _ => rfl) (fun _ e => nomatch e) fun _ => rfl
theorem r_str {b : Str} {k : Nat} {p : Pos} : Rdr N Wx X (.Constant (.str b) k p) (.str b) (ev C G (.str b)) := r_const C G (d := .str b) pe_str (fun _ _ => rfl) (fun _ e => nomatch e) fun _ => rfl
theorem r_glob {x : Str} {v : V} {u : Value} {k : Nat} {p : Pos} (hg : Gl X x) (hm : X.mg x = some u) (r : RelV v u) (hv : ∀ H W, Rep N H W (G k) v) (hd : (x == ("__debug__" : Str)) = false) : Rdr N Wx X (.Name x p) (.glob k) (ev C G (.glob k)) :=
  r_const C G (pe_glob hg hm r hd) hv (fun _ e => nomatch e) fun _ => rfl
/-- what a plain rule gives -/
theorem r_of {e : Expr} {a : E} {r : Ev → Res (D × Bool)} (h : PE X e (TEv N Wx r)) (ha : ∀ i, a ≠ .var i) : Rdr N Wx X e a r := ⟨h, fun i e => absurd e (ha i)⟩
theorem Gv.cont {z : D} {fr : Bool} {Q : VK} (rel : RelS N H W σ ρ) (c : Cont N Wx σ ρ H W (fun p _ H1 W1 => ∀ v, VR N H H1 W1 p.1 p.2 v → Q v H1) (.ok (z, fr) ρ)) : Gv N H W z fr Q := fun v H1 W1 n hv => c H1 W1 (n.stp rel) v hv
/-- fresh since H1 is fresh since H -/
theorem VR.back (s : Stp N σ ρ H W ρ1 H1 W1) {H2 : Hp} {W2 : Addr → Prop} {d : D} {fr : Bool} {v : V} (h : VR N H1 H2 W2 d fr v) : VR N H H2 W2 d fr v := by
  cases fr with
  | false => exact h
  | true =>
    have h' : ∃ a, v = .ref a ∧ W2 a ∧ OwnR N H2 W2 a d ∧ H1 a = none := h
    obtain ⟨a, e, w, o, n⟩ := h'
    have : ∃ a, v = .ref a ∧ W2 a ∧ OwnR N H2 W2 a d ∧ H a = none := ⟨a, e, w, o, s.ext.there a n⟩
    exact this
theorem Cont.back {α : Type} (s : Stp N σ ρ H W ρ1 H1 W1) {Q : VK} {r : Res (D × Bool)} (c : Cont N Wx σ ρ1 H1 W1 (fun p _ H2 W2 => ∀ v, VR N H H2 W2 p.1 p.2 v → Q v H2) r) : Cont N Wx σ ρ1 H1 W1 (fun p _ H2 W2 => ∀ v, VR N H1 H2 W2 p.1 p.2 v → Q v H2) r :=
  c.mono fun p ρ2 H2 W2 _ k v hv => k v (hv.back s)
theorem r_bin {ea eb : Expr} {a b : E} {o : Op2} {p : Pos} (hK : X.K = N.K) (ha : Rdr N Wx X ea a (ev C G a)) (hb : Rdr N Wx X eb b (ev C G b)) : Rdr N Wx X (.BinOp ea (opOf o) eb p) (.bin o a b) (ev C G (.bin o a b)) := by
  obtain ⟨ta, tb, pa, pb, le⟩ := pe_two ha hb
  refine r_of (peImp (pe_op (op_bop hK o) pa pb) fun σ H Q hq => le σ H _ ?_) fun _ e => nomatch e
  obtain ⟨W, ρ, rel, c⟩ := hq
  have c' : Cont N Wx σ ρ H W _ ((two a b (ev C G a) (ev C G b) ρ).bind fun p ρ => (ofO (bop o p.1 p.2) ρ).bind fun d ρ => .ok (d, isLst d) ρ) := c
  refine ⟨W, ρ, rel, (c'.bind rel).mono fun p ρ1 H1 W1 s ⟨_, c1⟩ x y hx hy t => ?_⟩
  obtain ⟨z, hz, c2⟩ := c1.ofO
  exact ⟨W1, p.1, p.2, z, t, hx, hy, hz, Gv.cont (Wx := Wx) s.rel (Cont.back (α := D) s c2)⟩
theorem r_neg {ea : Expr} {a : E} {p : Pos} (ha : Rdr N Wx X ea a (ev C G a)) : Rdr N Wx X (.UnaryOp .USub ea p) (.neg a) (ev C G (.neg a)) := by
  refine r_of (peImp (pe_un un_neg ha.rd) fun σ H Q hq => ?_) fun _ e => nomatch e
  obtain ⟨W, ρ, rel, c⟩ := hq
  have c' : Cont N Wx σ ρ H W _ ((rdOr a (ev C G a) ρ).bind fun d ρ => match d with
    | .int i => .ok (D.int (-i), false) ρ
    | _ => .bad) := c
  refine ⟨W, ρ, rel, (c'.bind rel).mono fun d ρ1 H1 W1 s ⟨_, c1⟩ v hv => ?_⟩
  cases d with
  | int i =>
    cases hv
    exact ⟨i, rfl, Cont.here (N := N) (Wx := Wx) s.rel c1 (.int (-i)) rfl⟩
  | _ => exact c1.elim
theorem r_idx {ea eb : Expr} {a b : E} {p : Pos} (hK : X.K = N.K) (hP : X.prog = N.P) (hw : X.w = N.w) (hu : X.A.units + 128 < cLine) (hs : PlainIx eb) (ha : Rdr N Wx X ea a (ev C G a)) (hb : Rdr N Wx X eb b (ev C G b)) : Rdr N Wx X (.Subscript ea eb p) (.idx a b) (ev C G (.idx a b)) := by
  obtain ⟨ta, tb, pa, pb, le⟩ := pe_two ha hb
  refine r_of (peImp (pe_ix (ix_idx hK hP hw (by omega)) pa pb hs) fun σ H Q hq => le σ H _ ?_) fun _ e => nomatch e
  obtain ⟨W, ρ, rel, c⟩ := hq
  have c' : Cont N Wx σ ρ H W _ ((two a b (ev C G a) (ev C G b) ρ).bind fun p ρ => (ofO (getIx p.1 p.2) ρ).bind fun d ρ => .ok (d, false) ρ) := c
  refine ⟨W, ρ, rel, (c'.bind rel).mono fun p ρ1 H1 W1 s ⟨_, c1⟩ x y hx hy t => ?_⟩
  obtain ⟨z, hz, c2⟩ := Cont.ofO (N := N) (Wx := Wx) c1
  exact ⟨W1, p.1, p.2, z, t, hx, hy, hz, Gv.cont (Wx := Wx) s.rel (Cont.back (α := D) s c2)⟩
theorem bool_back {b : Bool} {Q : VK} (rel : RelS N H W σ ρ) (c : Cont N Wx σ ρ H W (fun p _ H2 W2 => ∀ v, VR N H1 H2 W2 p.1 p.2 v → Q v H2) (.ok (D.bool b, false) ρ)) : Q (.bl b) H := c.here rel (.bl b) rfl
/-- what an expression's reading is, behind a change -/
abbrev KE (N : Nm) (H : Hp) (Q : VK) : D × Bool → Ev → Hp → (Addr → Prop) → Prop := fun p _ H1 W1 => ∀ v, VR N H H1 W1 p.1 p.2 v → Q v H1
theorem r_cmp {ea eb : Expr} {a b : E} {o : Cp} {p : Pos} (hK : X.K = N.K) (hu : X.A.units + 65 < cLine) (h1 : o ≠ .isN) (h2 : o ≠ .notN) (hm : behindInMarks (cpOf o) eb = false) (ha : Rdr N Wx X ea a (ev C G a)) (hb : Rdr N Wx X eb b (ev C G b)) :
    Rdr N Wx X (.Compare ea [cpOf o] [eb] p) (.cmp o a b) (ev C G (.cmp o a b)) := by
  obtain ⟨ta, tb, pa, pb, le⟩ := pe_two ha hb
  refine r_of (peImp (pe_cmpR (op_cp hK hu o h1 h2) pa pb hm) fun σ H Q hq => le σ H _ ?_) fun _ e => nomatch e
  obtain ⟨W, ρ, rel, c⟩ := hq
  have c' : Cont N Wx σ ρ H W (KE N H Q) ((two a b (ev C G a) (ev C G b) ρ).bind fun p ρ => (ofO (cpd o p.1 p.2) ρ).bind fun t ρ => .ok (D.bool t, false) ρ) := by
    cases o <;> first | exact c | exact absurd rfl h1 | exact absurd rfl h2
  refine ⟨W, ρ, rel, (c'.bind rel).mono fun p ρ1 H1 W1 s ⟨_, c1⟩ x y hx hy t => ?_⟩
  obtain ⟨z, hz, c2⟩ := c1.ofO
  exact ⟨W1, p.1, p.2, z, hx, hy, hz, bool_back s.rel c2⟩
/-- .. as a test -/
theorem t_cmp {ea eb : Expr} {a b : E} {o : Cp} {p : Pos} (hK : X.K = N.K) (hu : X.A.units + 65 < cLine) (h1 : o ≠ .isN) (h2 : o ≠ .notN) (hm : behindInMarks (cpOf o) eb = false) (ha : Rdr N Wx X ea a (ev C G a)) (hb : Rdr N Wx X eb b (ev C G b)) :
    PT X (.Compare ea [cpOf o] [eb] p) (TTt N Wx (evT C G (.cmp o a b))) := by
  obtain ⟨ta, tb, pa, pb, le⟩ := pe_two ha hb
  refine ptImp (pt_cmpR (op_cp hK hu o h1 h2) pa pb hm) fun σ H Q hq => le σ H _ ?_
  obtain ⟨W, ρ, rel, c⟩ := hq
  have c' : Cont N Wx σ ρ H W (fun b _ H1 W1 => Q b H1) ((two a b (ev C G a) (ev C G b) ρ).bind fun p ρ => ofO (cpd o p.1 p.2) ρ) := by
    cases o <;> first | exact c | exact absurd rfl h1 | exact absurd rfl h2
  refine ⟨W, ρ, rel, (c'.bind rel).mono fun p ρ1 H1 W1 s ⟨_, c1⟩ x y hx hy t => ?_⟩
  obtain ⟨z, hz, c2⟩ := c1.ofO0
  exact ⟨W1, p.1, p.2, z, hx, hy, hz, z, rfl, c2.here s.rel⟩
theorem r_isN {ea : Expr} {a b : E} {k : Nat} {p p' : Pos} (neg : Bool) (ha : Rdr N Wx X ea a (ev C G a)) :
    Rdr N Wx X (.Compare ea [if neg = true then .IsNot else .Is] [.Constant .none k p'] p) (.cmp (if neg = true then .notN else .isN) a b) (ev C G (.cmp (if neg = true then .notN else .isN) a b)) := by
  cases neg with
  | false =>
    refine r_of (peImp (pe_cmpR op_isN ha.rd pe_non (nomark _)) fun σ H Q hq => ?_) fun _ e => nomatch e
    obtain ⟨W, ρ, rel, c⟩ := hq
    have c' : Cont N Wx σ ρ H W (KE N H Q) ((rdOr a (ev C G a) ρ).bind fun d ρ => .ok (D.bool d.isNone, false) ρ) := c
    refine ⟨W, ρ, rel, (c'.bind rel).mono fun d ρ1 H1 W1 s ⟨_, c1⟩ v hv => ⟨rfl, ?_⟩⟩
    rw [← isNone_dec hv]
    exact bool_back s.rel c1
  | true =>
    refine r_of (peImp (pe_cmpR op_notN ha.rd pe_non (nomark _)) fun σ H Q hq => ?_) fun _ e => nomatch e
    obtain ⟨W, ρ, rel, c⟩ := hq
    have c' : Cont N Wx σ ρ H W (KE N H Q) ((rdOr a (ev C G a) ρ).bind fun d ρ => .ok (D.bool (!d.isNone), false) ρ) := c
    refine ⟨W, ρ, rel, (c'.bind rel).mono fun d ρ1 H1 W1 s ⟨_, c1⟩ v hv => ⟨rfl, ?_⟩⟩
    rw [← isNone_dec hv]
    exact bool_back s.rel c1
theorem t_isN {ea : Expr} {a b : E} {k : Nat} {p p' : Pos} (neg : Bool) (ha : Rdr N Wx X ea a (ev C G a)) :
    PT X (.Compare ea [if neg = true then .IsNot else .Is] [.Constant .none k p'] p) (TTt N Wx (evT C G (.cmp (if neg = true then .notN else .isN) a b))) := by
  cases neg with
  | false =>
    refine ptImp (pt_cmpR op_isN ha.rd pe_non (nomark _)) fun σ H Q hq => ?_
    obtain ⟨W, ρ, rel, c⟩ := hq
    have c' : Cont N Wx σ ρ H W (fun b _ H1 W1 => Q b H1) ((rdOr a (ev C G a) ρ).bind fun d ρ => .ok d.isNone ρ) := c
    refine ⟨W, ρ, rel, (c'.bind rel).mono fun d ρ1 H1 W1 s ⟨_, c1⟩ v hv => ⟨rfl, _, rfl, ?_⟩⟩
    rw [← isNone_dec hv]
    exact c1.here s.rel
  | true =>
    refine ptImp (pt_cmpR op_notN ha.rd pe_non (nomark _)) fun σ H Q hq => ?_
    obtain ⟨W, ρ, rel, c⟩ := hq
    have c' : Cont N Wx σ ρ H W (fun b _ H1 W1 => Q b H1) ((rdOr a (ev C G a) ρ).bind fun d ρ => .ok (!d.isNone) ρ) := c
    refine ⟨W, ρ, rel, (c'.bind rel).mono fun d ρ1 H1 W1 s ⟨_, c1⟩ v hv => ⟨rfl, _, rfl, ?_⟩⟩
    rw [← isNone_dec hv]
    exact c1.here s.rel
theorem rr_int {d : D} {y : V} (hi : d.isInt = true) (h : RR N H W d y) {H2 : Hp} {W2 : Addr → Prop} : RR N H2 W2 d y := by
  cases d with
  | int i => exact h
  | _ => cases hi
theorem r_cmp2 {ea eb ed : Expr} {a b d : E} {o o' : Cp} {p : Pos} (hK : X.K = N.K) (hu : X.A.units + 65 < cLine) (h1 : o ≠ .isN) (h2 : o ≠ .notN) (h1' : o' ≠ .isN) (h2' : o' ≠ .notN) (hm : lastMarks [cpOf o, cpOf o'] [eb, ed] = false)
    (ha : Rdr N Wx X ea a (ev C G a)) (hb : Rdr N Wx X eb b (ev C G b)) (hd : Rdr N Wx X ed d (ev C G d)) : Rdr N Wx X (.Compare ea [cpOf o, cpOf o'] [eb, ed] p) (.cmp2 o o' a b d) (ev C G (.cmp2 o o' a b d)) := by
  obtain ⟨ta, tb, pa, pb, le⟩ := pe_two ha hb
  refine r_of (peImp (pe_chain (op_cp hK hu o h1 h2) (op_cp hK hu o' h1' h2') pa pb hd.rd hm) fun σ H Q hq => le σ H _ ?_) fun _ e => nomatch e
  obtain ⟨W, ρ, rel, c⟩ := hq
  have c' : Cont N Wx σ ρ H W (KE N H Q) ((two a b (ev C G a) (ev C G b) ρ).bind fun p ρ => (ofO (cpd o p.1 p.2) ρ).bind fun t ρ => if t then if p.2.isInt then (rdOr d (ev C G d) ρ).bind fun z ρ => (ofO (cpd o' p.2 z) ρ).bind fun t ρ => .ok (.bool t, false) ρ else .bad else .ok (.bool false, false) ρ) := c
  refine ⟨W, ρ, rel, (c'.bind rel).mono fun p ρ1 H1 W1 s ⟨_, c1⟩ x y hx hy t => ?_⟩
  obtain ⟨z, hz, c2⟩ := c1.ofO
  refine ⟨W1, p.1, p.2, z, hx, hy, hz, z, rfl, ?_⟩
  cases z with
  | false => exact bool_back s.rel (Cont.back (α := D) s c2)
  | true =>
    show TRd N Wx (rdOr d (ev C G d)) σ H1 _
    by_cases hi : p.2.isInt = true
    · rw [if_pos rfl, if_pos hi] at c2
      refine ⟨W1, ρ1, s.rel, (c2.bind s.rel).mono fun w ρ2 H2 W2 s2 ⟨_, c3⟩ v hv => ?_⟩
      obtain ⟨k, hk, c4⟩ := c3.ofO
      exact ⟨W2, p.2, w, k, rr_int hi hy, hv, hk, bool_back s2.rel c4⟩
    · rw [if_pos rfl, if_neg hi] at c2
      exact c2.elim
theorem t_cmp2 {ea eb ed : Expr} {a b d : E} {o o' : Cp} {p : Pos} (hK : X.K = N.K) (hu : X.A.units + 65 < cLine) (h1 : o ≠ .isN) (h2 : o ≠ .notN) (h1' : o' ≠ .isN) (h2' : o' ≠ .notN) (hm : lastMarks [cpOf o, cpOf o'] [eb, ed] = false)
    (ha : Rdr N Wx X ea a (ev C G a)) (hb : Rdr N Wx X eb b (ev C G b)) (hd : Rdr N Wx X ed d (ev C G d)) : PT X (.Compare ea [cpOf o, cpOf o'] [eb, ed] p) (TTt N Wx (evT C G (.cmp2 o o' a b d))) := by
  obtain ⟨ta, tb, pa, pb, le⟩ := pe_two ha hb
  refine ptImp (pt_chain (op_cp hK hu o h1 h2) (op_cp hK hu o' h1' h2') pa pb hd.rd hm) fun σ H Q hq => le σ H _ ?_
  obtain ⟨W, ρ, rel, c⟩ := hq
  have c' : Cont N Wx σ ρ H W (fun b _ H1 W1 => Q b H1) ((two a b (ev C G a) (ev C G b) ρ).bind fun p ρ => (ofO (cpd o p.1 p.2) ρ).bind fun t ρ => if t then if p.2.isInt then (rdOr d (ev C G d) ρ).bind fun z ρ => ofO (cpd o' p.2 z) ρ else .bad else .ok false ρ) := c
  refine ⟨W, ρ, rel, (c'.bind rel).mono fun p ρ1 H1 W1 s ⟨_, c1⟩ x y hx hy t => ?_⟩
  obtain ⟨z, hz, c2⟩ := c1.ofO
  refine ⟨W1, p.1, p.2, z, hx, hy, hz, z, rfl, ?_⟩
  cases z with
  | false => exact ⟨false, rfl, c2.here s.rel⟩
  | true =>
    show TRd N Wx (rdOr d (ev C G d)) σ H1 _
    by_cases hi : p.2.isInt = true
    · rw [if_pos rfl, if_pos hi] at c2
      refine ⟨W1, ρ1, s.rel, (c2.bind s.rel).mono fun w ρ2 H2 W2 s2 ⟨_, c3⟩ v hv => ?_⟩
      obtain ⟨k, hk, c4⟩ := c3.ofO0
      exact ⟨W2, p.2, w, k, rr_int hi hy, hv, hk, k, rfl, c4.here s2.rel⟩
    · rw [if_pos rfl, if_neg hi] at c2
      exact c2.elim
end
end PX

end

section
set_option Elab.async false
set_option linter.all false
set_option autoImplicit false
set_option maxRecDepth 100000
namespace PX
open PySem PySem.Spec PyProof.Rows L2
section
variable {N : Nm} {Wx : WX} {X : Cx} {σ : L2.St} {ρ ρ1 : Ev} {H H0 H1 : Hp} {W W1 : Addr → Prop}
variable (C : Call) (G : Nat → D)
/-- given away at the end -/
theorem Cont.away {Q : VK} {r : Res (D × Bool)} (rel : RelS N H W σ ρ) (c : Cont N Wx σ ρ H W (KE N H0 Q) (r.bind fun d ρ => .ok (d.1, false) ρ)) : Cont N Wx σ ρ H W (KE N H Q) r := by
  have e : (r.bind fun d ρ => Res.ok (d.1, false) ρ) = (r.bind fun p ρ => Res.ok p.1 ρ).bind (fun d ρ => Res.ok (d, false) ρ) := by cases r <;> rfl
  rw [e] at c
  refine ((c.bind rel).kp rel).mono fun p ρ1 H1 W1 s k v hv => ?_
  obtain ⟨W2, s2, rp, _, c2⟩ := k v hv
  exact Cont.here (N := N) (Wx := Wx) s2.rel c2 v rp
/-- reckoned, kept, and then more -/
theorem TEv.keep {r : Ev → Res (D × Bool)} {α : Type} {F : D → Ev → Res α} {K : α → Ev → Hp → (Addr → Prop) → Prop} {Q : VK} (rel : RelS N H W σ ρ) (c : Cont N Wx σ ρ H W K ((r ρ).bind fun p ρ => F p.1 ρ))
    (k : ∀ d ρ1 H1 W1 v, Stp N σ ρ H W ρ1 H1 W1 → Rep N H1 W1 d v → Cont N Wx σ ρ1 H1 W1 K (F d ρ1) → Q v H1) : TEv N Wx r σ H Q := by
  rw [bind_fst] at c
  refine ⟨W, ρ, rel, ((c.bind rel).kp rel).mono fun p ρ1 H1 W1 s z v hv => ?_⟩
  obtain ⟨W2, s2, rp, _, c2⟩ := z v hv
  exact k _ ρ1 H1 W2 v s2 rp c2
theorem r_one {op : BoolOp} {ea : Expr} {p : Pos} {t : TE} (h : PE X ea t) : PE X (.BoolOp op [ea] p) t := pe_one h
theorem p_and {ea eb : Expr} {rest : List Expr} {a b : E} {p : Pos} (hK : X.K = N.K) (ha : Rdr N Wx X ea a (ev C G a)) (hb : PE X (.BoolOp .And (eb :: rest) p) (TEv N Wx (ev C G b))) : PE X (.BoolOp .And (ea :: eb :: rest) p) (TEv N Wx (ev C G (.and a b))) := by
  refine peImp (pe_andT ha.ev hb) fun σ H Q hq => ?_
  obtain ⟨W, ρ, rel, c⟩ := hq
  have c' : Cont N Wx σ ρ H W (KE N H Q) ((ev C G a ρ).bind fun d ρ => (ofO (truth d.1) ρ).bind fun t ρ => if t then (ev C G b ρ).bind fun d ρ => .ok (d.1, false) ρ else .ok (d.1, false) ρ) := c
  refine TEv.keep (F := fun d ρ => (ofO (truth d) ρ).bind fun t ρ => if t then (ev C G b ρ).bind fun d ρ => .ok (d.1, false) ρ else .ok (d, false) ρ) rel c' fun d ρ1 H1 W1 v s rp c1 => ?_
  obtain ⟨t, ht, c2⟩ := c1.ofO
  refine ⟨t, by rw [hK]; exact tru_rr rp.rr ht, ?_⟩
  cases t with
  | true => exact ⟨W1, ρ1, s.rel, Cont.away s.rel c2⟩
  | false => exact c2.here s.rel v rp
theorem p_or {ea eb : Expr} {rest : List Expr} {a b : E} {p : Pos} (hK : X.K = N.K) (ha : Rdr N Wx X ea a (ev C G a)) (hb : PE X (.BoolOp .Or (eb :: rest) p) (TEv N Wx (ev C G b))) : PE X (.BoolOp .Or (ea :: eb :: rest) p) (TEv N Wx (ev C G (.or a b))) := by
  refine peImp (pe_orT ha.ev hb) fun σ H Q hq => ?_
  obtain ⟨W, ρ, rel, c⟩ := hq
  have c' : Cont N Wx σ ρ H W (KE N H Q) ((ev C G a ρ).bind fun d ρ => (ofO (truth d.1) ρ).bind fun t ρ => if t then .ok (d.1, false) ρ else (ev C G b ρ).bind fun d ρ => .ok (d.1, false) ρ) := c
  refine TEv.keep (F := fun d ρ => (ofO (truth d) ρ).bind fun t ρ => if t then .ok (d, false) ρ else (ev C G b ρ).bind fun d ρ => .ok (d.1, false) ρ) rel c' fun d ρ1 H1 W1 v s rp c1 => ?_
  obtain ⟨t, ht, c2⟩ := c1.ofO
  refine ⟨t, by rw [hK]; exact tru_rr rp.rr ht, ?_⟩
  cases t with
  | false => exact ⟨W1, ρ1, s.rel, Cont.away s.rel c2⟩
  | true => exact c2.here s.rel v rp
theorem r_not {ea : Expr} {a : E} {p : Pos} (hK : X.K = N.K) (ha : Rdr N Wx X ea a (ev C G a)) : Rdr N Wx X (.UnaryOp .Not ea p) (.not a) (ev C G (.not a)) := by
  refine r_of (peImp (pe_notT ha.rd) fun σ H Q hq => ?_) fun _ e => nomatch e
  obtain ⟨W, ρ, rel, c⟩ := hq
  have c' : Cont N Wx σ ρ H W (KE N H Q) ((rdOr a (ev C G a) ρ).bind fun d ρ => (ofO (truth d) ρ).bind fun b ρ => .ok (.bool (!b), false) ρ) := c
  refine ⟨W, ρ, rel, (c'.bind rel).mono fun d ρ1 H1 W1 s ⟨_, c1⟩ v hv => ?_⟩
  obtain ⟨t, ht, c2⟩ := c1.ofO
  exact ⟨t, by rw [hK]; exact tru_rr hv ht, bool_back s.rel c2⟩
theorem t_val {ea : Expr} {a : E} (hK : X.K = N.K) (ha : Rdr N Wx X ea a (ev C G a)) (he : ∀ whole, isTrue ea X.env whole = (do let v ← whole; standAt ea.pos; holding [v] (truthy v))) : PT X ea (TTt N Wx (evT C G (.tval a))) := by
  refine ptImp (pt_truth ha.rd he) fun σ H Q hq => ?_
  obtain ⟨W, ρ, rel, c⟩ := hq
  have c' : Cont N Wx σ ρ H W (fun b _ H1 W1 => Q b H1) ((rdOr a (ev C G a) ρ).bind fun d ρ => ofO (truth d) ρ) := c
  refine ⟨W, ρ, rel, (c'.bind rel).mono fun d ρ1 H1 W1 s ⟨_, c1⟩ v hv => ?_⟩
  obtain ⟨t, ht, c2⟩ := c1.ofO0
  exact ⟨t, by rw [hK]; exact tru_rr hv ht, c2.here s.rel⟩
theorem t_and {ea eb : Expr} {rest : List Expr} {a b : E} {p : Pos} (ha : PT X ea (TTt N Wx (evT C G a))) (hb : PW X (.BoolOp .And (eb :: rest) p) (TTt N Wx (evT C G b))) : PW X (.BoolOp .And (ea :: eb :: rest) p) (TTt N Wx (evT C G (.and a b))) := by
  refine ⟨fun wh pins s σ H Q I hq => (pw_and ha hb).run wh pins s σ H Q I ?_⟩
  obtain ⟨W, ρ, rel, c⟩ := hq
  have c' : Cont N Wx σ ρ H W (fun b _ H1 W1 => Q b H1) ((evT C G a ρ).bind fun t ρ => if t then evT C G b ρ else .ok false ρ) := c
  refine ⟨W, ρ, rel, (c'.bind rel).mono fun t ρ1 H1 W1 s ⟨_, c1⟩ => ?_⟩
  cases t with
  | true => exact ⟨W1, ρ1, s.rel, c1⟩
  | false => exact c1.here s.rel
theorem t_or {ea eb : Expr} {rest : List Expr} {a b : E} {p : Pos} (ha : PT X ea (TTt N Wx (evT C G a))) (hb : PW X (.BoolOp .Or (eb :: rest) p) (TTt N Wx (evT C G b))) : PW X (.BoolOp .Or (ea :: eb :: rest) p) (TTt N Wx (evT C G (.or a b))) := by
  refine ⟨fun wh pins s σ H Q I hq => (pw_or ha hb).run wh pins s σ H Q I ?_⟩
  obtain ⟨W, ρ, rel, c⟩ := hq
  have c' : Cont N Wx σ ρ H W (fun b _ H1 W1 => Q b H1) ((evT C G a ρ).bind fun t ρ => if t then .ok true ρ else evT C G b ρ) := c
  refine ⟨W, ρ, rel, (c'.bind rel).mono fun t ρ1 H1 W1 s ⟨_, c1⟩ => ?_⟩
  cases t with
  | false => exact ⟨W1, ρ1, s.rel, c1⟩
  | true => exact c1.here s.rel
theorem t_not {ea : Expr} {a : E} {p : Pos} (ha : PT X ea (TTt N Wx (evT C G a))) : PT X (.UnaryOp .Not ea p) (TTt N Wx (evT C G (.not a))) := by
  refine ptImp (pt_not ha) fun σ H Q hq => ?_
  obtain ⟨W, ρ, rel, c⟩ := hq
  have c' : Cont N Wx σ ρ H W (fun b _ H1 W1 => Q b H1) ((evT C G a ρ).bind fun t ρ => .ok (!t) ρ) := c
  refine ⟨W, ρ, rel, (c'.bind rel).mono fun t ρ1 H1 W1 s ⟨_, c1⟩ => c1.here s.rel⟩
theorem r_ite {ec ea eb : Expr} {t a b : E} {p : Pos} (hc : PT X ec (TTt N Wx (evT C G t))) (ha : Rdr N Wx X ea a (ev C G a)) (hb : Rdr N Wx X eb b (ev C G b)) : Rdr N Wx X (.IfExp ec ea eb p) (.ite t a b) (ev C G (.ite t a b)) := by
  refine r_of (peImp (pe_ifExp hc ha.ev hb.ev) fun σ H Q hq => ?_) fun _ e => nomatch e
  obtain ⟨W, ρ, rel, c⟩ := hq
  have c' : Cont N Wx σ ρ H W (KE N H Q) ((evT C G t ρ).bind fun t ρ => if t then (ev C G a ρ).bind fun d ρ => .ok (d.1, false) ρ else (ev C G b ρ).bind fun d ρ => .ok (d.1, false) ρ) := c
  refine ⟨W, ρ, rel, (c'.bind rel).mono fun t ρ1 H1 W1 s ⟨_, c1⟩ => ?_⟩
  cases t with
  | true => exact ⟨W1, ρ1, s.rel, Cont.away s.rel c1⟩
  | false => exact ⟨W1, ρ1, s.rel, Cont.away s.rel c1⟩
/-! ### several -/
def notStar : Expr → Bool
  | .Starred _ _ => false
  | _ => true
theorem star_cons {e : Expr} (h : notStar e = true) (es : List Expr) (env : Env) : starEach (e :: es) env = (false, eval e env) :: starEach es env := by
  cases e <;> first | rfl | cases h
theorem star_any {env : Env} {p : Pos} : ∀ {es : List Expr}, es.all notStar = true → (backTo p (starEach es env)).any (·.1) = false
  | [], _ => rfl
  | e :: es, h => by
    rw [List.all_cons, Bool.and_eq_true] at h
    rw [star_cons h.1]
    show (false || (backTo p (starEach es env)).any (·.1)) = false
    rw [star_any h.2] <;> rfl
theorem star_all {env : Env} {p : Pos} : ∀ {es : List Expr}, es.all notStar = true → (backTo p (starEach es env)).all (fun x => !x.1) = true
  | [], _ => rfl
  | e :: es, h => by
    rw [List.all_cons, Bool.and_eq_true] at h
    rw [star_cons h.1]
    show (true && (backTo p (starEach es env)).all (fun x => !x.1)) = true
    rw [star_all h.2] <;> rfl
theorem as_nil : PA X [] (TAs N Wx (evs C G .nil)) := by
  refine paImp pa_nil fun σ H Q hq => ?_
  obtain ⟨W, ρ, rel, c⟩ := hq
  have c' : Cont N Wx σ ρ H W (fun ds _ H1 W1 => ∀ vs, Reps N H1 W1 ds vs → Q vs H1) (.ok [] ρ) := c
  exact c'.here rel [] rfl
theorem as_cons {e : Expr} {es : List Expr} {a b : E} (hn : notStar e = true) (ha : Rdr N Wx X e a (ev C G a)) (hb : PA X es (TAs N Wx (evs C G b))) : PA X (e :: es) (TAs N Wx (evs C G (.cons a b))) := by
  refine paImp (pa_cons ha.ev hb (star_cons hn es _)) fun σ H Q hq => ?_
  obtain ⟨W, ρ, rel, c⟩ := hq
  have c' : Cont N Wx σ ρ H W (fun ds _ H1 W1 => ∀ vs, Reps N H1 W1 ds vs → Q vs H1) ((ev C G a ρ).bind fun d ρ => (evs C G b ρ).bind fun r ρ => .ok (d.1 :: r) ρ) := c
  refine TEv.keep (F := fun d ρ => (evs C G b ρ).bind fun r ρ => .ok (d :: r) ρ) rel c' fun d ρ1 H1 W1 v s rp c1 => ?_
  refine ⟨W1, ρ1, s.rel, (c1.bind s.rel).mono fun ds ρ2 H2 W2 s2 ⟨_, c2⟩ vs hvs => ?_⟩
  exact c2.here s2.rel (v :: vs) ⟨v, vs, rfl, s2.rep s.rel rp, hvs⟩
theorem rs_nil : PA X [] (TRs N Wx (evRs C G .nil)) := by
  refine paImp pa_nil fun σ H Q hq => ?_
  obtain ⟨W, ρ, rel, c⟩ := hq
  have c' : Cont N Wx σ ρ H W (fun ds _ H1 W1 => ∀ vs, RRs N H1 W1 ds vs → Q vs H1) (.ok [] ρ) := c
  exact c'.here rel [] .nil
theorem rs_cons {e : Expr} {es : List Expr} {a b : E} (hn : notStar e = true) (ha : Rdr N Wx X e a (ev C G a)) (hb : PA X es (TRs N Wx (evRs C G b))) : PA X (e :: es) (TRs N Wx (evRs C G (.cons a b))) := by
  have gen : (∀ i, a ≠ .var i) → PA X (e :: es) (TRs N Wx (evRs C G (.cons a b))) := fun hv => by
    refine paImp (pa_cons ha.ev hb (star_cons hn es _)) fun σ H Q hq => ?_
    obtain ⟨W, ρ, rel, c⟩ := hq
    have c' : Cont N Wx σ ρ H W (fun ds _ H1 W1 => ∀ vs, RRs N H1 W1 ds vs → Q vs H1) ((ev C G a ρ).bind fun d ρ => (evRs C G b ρ).bind fun r ρ => .ok (d.1 :: r) ρ) := by
      have c0 : Cont N Wx σ ρ H W (fun ds _ H1 W1 => ∀ vs, RRs N H1 W1 ds vs → Q vs H1) ((two a (.tup b) (ev C G a) (fun ρ => (evRs C G b ρ).bind fun r ρ => .ok (D.tup r, false) ρ) ρ).bind fun p ρ => match p.2 with
        | .tup r => .ok (p.1 :: r) ρ
        | _ => .bad) := c
      have e1 : (two a (.tup b) (ev C G a) (fun ρ => (evRs C G b ρ).bind fun r ρ => .ok (D.tup r, false) ρ) ρ) = ((ev C G a ρ).bind fun x ρ => ((evRs C G b ρ).bind fun r ρ => Res.ok (D.tup r, false) ρ).bind fun y ρ => .ok (x.1, y.1) ρ) := by
        cases a with
        | var i => exact absurd rfl (hv i)
        | _ =>
          simp only [two, rdOr]
          congr 1
          funext x ρ2
          cases evRs C G b ρ2 <;> rfl
      rw [e1] at c0
      have e2 : (((ev C G a ρ).bind fun x ρ => ((evRs C G b ρ).bind fun r ρ => Res.ok (D.tup r, false) ρ).bind fun y ρ => Res.ok (x.1, y.1) ρ).bind fun p ρ => match p.2 with
        | .tup r => Res.ok (p.1 :: r) ρ
        | _ => .bad) = ((ev C G a ρ).bind fun d ρ => (evRs C G b ρ).bind fun r ρ => .ok (d.1 :: r) ρ) := by
        cases ev C G a ρ with
        | ok x ρ2 =>
          show (((evRs C G b ρ2).bind _).bind _).bind _ = _
          cases e3 : evRs C G b ρ2 <;> simp only [Res.bind, e3]
        | exc c fs => rfl
        | bad => rfl
      rw [e2] at c0
      exact c0
    refine TEv.keep (F := fun d ρ => (evRs C G b ρ).bind fun r ρ => .ok (d :: r) ρ) rel c' fun d ρ1 H1 W1 v s rp c1 => ?_
    refine ⟨W1, ρ1, s.rel, (c1.bind s.rel).mono fun ds ρ2 H2 W2 s2 ⟨_, c2⟩ vs hvs => ?_⟩
    exact c2.here s2.rel (v :: vs) (.cons (s2.rep s.rel rp).rr hvs)
  cases a with
  | var i =>
    refine paImp (pa_cons (ha.var i rfl) hb (star_cons hn es _)) fun σ H Q hq => ?_
    obtain ⟨W, ρ, rel, c⟩ := hq
    have c0 : Cont N Wx σ ρ H W (fun ds _ H1 W1 => ∀ vs, RRs N H1 W1 ds vs → Q vs H1) (((PX.rd i ρ).bind fun _ ρ => ((evRs C G b ρ).bind fun r ρ => Res.ok (D.tup r, false) ρ).bind fun d ρ => Res.ok d.1 ρ |>.bind fun y ρ => (PX.rd i ρ).bind fun x ρ => .ok (x, y) ρ).bind fun p ρ => match p.2 with
        | .tup r => .ok (p.1 :: r) ρ
        | _ => .bad) := by
      refine Eq.mp ?_ c
      congr 1
      show Res.bind (Res.bind (PX.rd i ρ) _) _ = _
      congr 1
      congr 1
      funext _ ρ2
      show Res.bind (Res.bind (Res.bind (evRs C G b ρ2) _) _) _ = _
      cases evRs C G b ρ2 <;> rfl
    rcases rd_cases i ρ with ⟨d, e1⟩ | e1
    · rw [e1] at c0
      obtain ⟨_, v, ev1, rr⟩ := rel.rd e1
      have c1 : Cont N Wx σ ρ H W (fun ds _ H1 W1 => ∀ vs, RRs N H1 W1 ds vs → Q vs H1) ((evRs C G b ρ).bind fun r ρ => (PX.rd i ρ).bind fun x ρ => .ok (x :: r) ρ) := by
        refine Eq.mp ?_ c0
        congr 1
        show Res.bind (Res.bind (Res.bind (evRs C G b ρ) _) _) _ = _
        cases evRs C G b ρ with
        | ok r ρ2 =>
          show Res.bind (Res.bind (PX.rd i ρ2) _) _ = Res.bind (PX.rd i ρ2) _
          cases PX.rd i ρ2 <;> rfl
        | exc c fs => rfl
        | bad => rfl
      refine ⟨v, ev1, W, ρ, rel, (c1.bind rel).mono fun ds ρ2 H2 W2 s2 ⟨_, c2⟩ vs hvs => ?_⟩
      rcases rd_cases i ρ2 with ⟨d2, e2⟩ | e2
      · rw [e2] at c2
        obtain ⟨_, v2, ev2, rr2⟩ := s2.rel.rd e2
        rw [ev1] at ev2
        cases ev2
        exact Cont.here (N := N) (Wx := Wx) (a := d2 :: ds) s2.rel c2 (v :: vs) (.cons rr2 hvs)
      · rw [e2] at c2
        exact c2.elim
    · rw [e1] at c0
      exact c0.elim
  | _ => exact gen fun i e => nomatch e
end
end PX

end

section
set_option Elab.async false
set_option linter.all false
set_option autoImplicit false
set_option maxRecDepth 100000
namespace PX
open PySem PySem.Spec PyProof.Rows L2
section
variable {N : Nm} {Wx : WX} {X : Cx} {σ : L2.St} {ρ ρ1 : Ev} {H H0 H1 : Hp} {W W1 : Addr → Prop}
variable (C : Call) (G : Nat → D)
theorem Cont.monoE {α : Type} {K K' : α → Ev → Hp → (Addr → Prop) → Prop} : ∀ {r : Res α}, Cont N Wx σ ρ H W K r → (∀ a ρ1 H1 W1, r = .ok a ρ1 → Stp N σ ρ H W ρ1 H1 W1 → K a ρ1 H1 W1 → K' a ρ1 H1 W1) → Cont N Wx σ ρ H W K' r
  | .bad, h, _ => h
  | .exc c fs, h, _ => h
  | .ok a ρ1, h, m => fun H1 W1 s => m a ρ1 H1 W1 rfl s (h H1 W1 s)
def lenE : E → Nat
  | .cons _ b => lenE b + 1
  | _ => 0
theorem Res.bind_ok {α β : Type} {r : Res α} {f : α → Ev → Res β} {b : β} {ρ' : Ev} (h : r.bind f = .ok b ρ') : ∃ a ρ1, r = .ok a ρ1 ∧ f a ρ1 = .ok b ρ' := by
  cases r with
  | ok a ρ1 => exact ⟨a, ρ1, rfl, h⟩
  | exc c fs => cases h
  | bad => cases h
theorem evs_len : ∀ (l : E) (ρ ρ1 : Ev) (ds : List D), evs C G l ρ = .ok ds ρ1 → ds.length = lenE l
  | .nil, ρ, ρ1, ds, h => by
    have h' : Res.ok [] ρ = Res.ok ds ρ1 := h
    cases h'; rfl
  | .cons a b, ρ, ρ1, ds, h => by
    have h' : ((ev C G a ρ).bind fun d ρ => (evs C G b ρ).bind fun r ρ => .ok (d.1 :: r) ρ) = Res.ok ds ρ1 := h
    obtain ⟨d, ρ2, _, h2⟩ := Res.bind_ok h'
    obtain ⟨r, ρ3, h3, h4⟩ := Res.bind_ok h2
    cases h4
    show _ + 1 = _ + 1
    rw [evs_len b ρ2 _ r h3]
  | .none, _, _, _, h => nomatch h
  | .bool _, _, _, _, h => nomatch h
  | .int _, _, _, _, h => nomatch h
  | .str _, _, _, _, h => nomatch h
  | .var _, _, _, _, h => nomatch h
  | .glob _, _, _, _, h => nomatch h
  | .bin _ _ _, _, _, _, h => nomatch h
  | .neg _, _, _, _, h => nomatch h
  | .not _, _, _, _, h => nomatch h
  | .and _ _, _, _, _, h => nomatch h
  | .or _ _, _, _, _, h => nomatch h
  | .cmp _ _ _, _, _, _, h => nomatch h
  | .cmp2 _ _ _ _ _, _, _, _, h => nomatch h
  | .ite _ _ _, _, _, _, h => nomatch h
  | .tup _, _, _, _, h => nomatch h
  | .lst _, _, _, _, h => nomatch h
  | .idx _ _, _, _, _, h => nomatch h
  | .slice _ _ _, _, _, _, h => nomatch h
  | .call _ _, _, _, _, h => nomatch h
  | .new _ _ _, _, _, _, h => nomatch h
  | .meth _ _ _ _, _, _, _, h => nomatch h
  | .attr _ _, _, _, _, h => nomatch h
  | .bi _ _, _, _, _, h => nomatch h
  | .bm _ _ _, _, _, _, h => nomatch h
  | .mut _ _ _, _, _, _, h => nomatch h
  | .comp _ _ _ _ _, _, _, _, h => nomatch h
  | .dnew _, _, _, _, h => nomatch h
  | .ddisp _ _ _, _, _, _, h => nomatch h
  | .rng1 _, _, _, _, h => nomatch h
  | .rng2 _ _, _, _, _, h => nomatch h
  | .rng3 _ _ _, _, _, _, h => nomatch h
  | .enum _, _, _, _, h => nomatch h
  | .zip _ _, _, _, _, h => nomatch h
  | .zipN _ _, _, _, _, h => nomatch h
  | .rev _, _, _, _, h => nomatch h
  | .isq _, _, _, _, h => nomatch h
  | .tval _, _, _, _, h => nomatch h
theorem Gv.mk {z : D} {fr : Bool} {Q : VK} {ρ0 : Ev} {W0 : Addr → Prop} (s : Stp N σ ρ0 H0 W0 ρ H W) (c : Cont N Wx σ ρ H W (KE N H0 Q) (.ok (z, fr) ρ)) : Gv N H W z fr Q := Gv.cont (Wx := Wx) s.rel (Cont.back (α := D) s c)
theorem r_tup {es : List Expr} {l : E} {k : Nat} {p : Pos} (hn : lenE l ≤ 1000) (h : PA X es (TAs N Wx (evs C G l))) : Rdr N Wx X (.Tuple es k p) (.tup l) (ev C G (.tup l)) := by
  refine r_of (peImp (pe_tup h) fun σ H Q hq => ?_) fun _ e => nomatch e
  obtain ⟨W, ρ, rel, c⟩ := hq
  have c' : Cont N Wx σ ρ H W (KE N H Q) ((evs C G l ρ).bind fun ds ρ => .ok (.tup ds, false) ρ) := c
  refine ⟨W, ρ, rel, (c'.bind rel).monoE fun ds ρ1 H1 W1 e s ⟨_, c1⟩ vs hvs => ⟨?_, ?_⟩⟩
  · rw [← hvs.length, evs_len C G l ρ ρ1 ds e, sizeLine_eq]; omega
  · exact Gv.tup s.rel.tr (Gv.mk s c1) hvs
theorem r_lst {es : List Expr} {l : E} {p : Pos} (hn : lenE l ≤ 1000) (h : PA X es (TAs N Wx (evs C G l))) : Rdr N Wx X (.List es p) (.lst l) (ev C G (.lst l)) := by
  refine r_of (peImp (pe_lst h) fun σ H Q hq => ?_) fun _ e => nomatch e
  obtain ⟨W, ρ, rel, c⟩ := hq
  have c' : Cont N Wx σ ρ H W (KE N H Q) ((evs C G l ρ).bind fun ds ρ => .ok (.lst ds, true) ρ) := c
  refine ⟨W, ρ, rel, (c'.bind rel).monoE fun ds ρ1 H1 W1 e s ⟨_, c1⟩ vs hvs => ⟨?_, ?_⟩⟩
  · rw [← hvs.length, evs_len C G l ρ ρ1 ds e, sizeLine_eq]; omega
  · exact Gv.lst s.rel.tr (Gv.mk s c1) hvs
/-! ### a thing that is looked at again behind others -/
/-- v stands for a's thing in all that comes -/
def Held (N : Nm) (σ : L2.St) (a : E) (d : D) (v : V) (ρ : Ev) (H : Hp) (W : Addr → Prop) : Prop :=
  RR N H W d v ∧ ∀ ρ1 H1 W1, Stp N σ ρ H W ρ1 H1 W1 → again a d ρ1 = .bad ∨ ∃ e, again a d ρ1 = .ok e ρ1 ∧ RR N H1 W1 e v
theorem Rdr.hold {e : Expr} {a : E} {r : Ev → Res (D × Bool)} (h : Rdr N Wx X e a r) : ∃ t, PE X e t ∧ ∀ σ H (R : VK), (∃ W ρ, RelS N H W σ ρ ∧ Cont N Wx σ ρ H W (fun d ρ1 H1 W1 => ∀ v, Held N σ a d v ρ1 H1 W1 → R v H1) (rdOr a r ρ)) → t σ H R := by
  have gen : (∀ i, a ≠ .var i) → ∃ t, PE X e t ∧ ∀ σ H (R : VK), (∃ W ρ, RelS N H W σ ρ ∧ Cont N Wx σ ρ H W (fun d ρ1 H1 W1 => ∀ v, Held N σ a d v ρ1 H1 W1 → R v H1) (rdOr a r ρ)) → t σ H R := fun hv => by
    refine ⟨_, h.ev, fun σ H R hq => TEv.kp ?_⟩
    obtain ⟨W, ρ, rel, c⟩ := hq
    have e1 : rdOr a r ρ = (r ρ).bind fun d ρ => .ok d.1 ρ := by cases a <;> first | rfl | exact absurd rfl (hv _)
    rw [e1] at c
    refine ⟨W, ρ, rel, c.mono fun d ρ1 H1 W1 s k v rp => k v ⟨rp.rr, fun ρ2 H2 W2 s2 => .inr ⟨d, ?_, (s2.rep s.rel rp).rr⟩⟩⟩
    cases a <;> first | rfl | exact absurd rfl (hv _)
  cases a with
  | var i =>
    refine ⟨_, h.var i rfl, fun σ H R hq => ?_⟩
    obtain ⟨W, ρ, rel, c⟩ := hq
    have c0 : Cont N Wx σ ρ H W (fun d ρ1 H1 W1 => ∀ v, Held N σ (.var i) d v ρ1 H1 W1 → R v H1) (PX.rd i ρ) := c
    rcases rd_cases i ρ with ⟨d, e1⟩ | e1
    · rw [e1] at c0
      obtain ⟨_, v, ev1, rr⟩ := rel.rd e1
      refine ⟨v, ev1, c0.here rel v ⟨rr, fun ρ2 H2 W2 s2 => ?_⟩⟩
      rcases rd_cases i ρ2 with ⟨d2, e2⟩ | e2
      · obtain ⟨_, v2, ev2, rr2⟩ := s2.rel.rd e2
        rw [ev1] at ev2
        cases ev2
        exact .inr ⟨d2, e2, rr2⟩
      · exact .inl e2
    · rw [e1] at c0
      exact c0.elim
  | _ => exact gen fun i e => nomatch e
/-! ### slices -/
variable (N Wx) in
def TPo (r : Ev → Res D) : TO := fun σ H Q => ∃ W ρ, RelS N H W σ ρ ∧ Cont N Wx σ ρ H W (fun d _ H1 W1 => ∀ o, optI d = some o → Q o H1) (r ρ)
theorem poImp {X : Cx} {e : Option Expr} {t t' : TO} (h : PO X e t) (i : ∀ σ H Q, t' σ H Q → t σ H Q) : PO X e t' := ⟨fun pins s σ H Q I hw => h.run pins s σ H Q I (i σ H Q hw)⟩
theorem o_none : PO X none (TPo N Wx (evO C G .nil)) := by
  refine poImp po_none fun σ H Q hq => ?_
  obtain ⟨W, ρ, rel, c⟩ := hq
  have c' : Cont N Wx σ ρ H W (fun d _ H1 W1 => ∀ o, optI d = some o → Q o H1) (.ok .none ρ) := c
  exact c'.here rel none rfl
theorem o_some {e : Expr} {a : E} (h : Rdr N Wx X e a (ev C G a)) : PO X (some e) (TPo N Wx (evO C G (.tval a))) := by
  refine poImp (po_some h.rd) fun σ H Q hq => ?_
  obtain ⟨W, ρ, rel, c⟩ := hq
  have c' : Cont N Wx σ ρ H W (fun d _ H1 W1 => ∀ o, optI d = some o → Q o H1) ((rdOr a (ev C G a) ρ).bind fun d ρ => if d.isInt then .ok d ρ else .bad) := c
  refine ⟨W, ρ, rel, (c'.bind rel).mono fun d ρ1 H1 W1 s ⟨_, c1⟩ v hv => ?_⟩
  cases d with
  | int i => exact ⟨i, hv, Cont.here (N := N) (Wx := Wx) s.rel c1 (some i) rfl⟩
  | _ => exact c1.elim
theorem r_slice {e : Expr} {elo ehi : Option Expr} {a lo hi : E} {p p2 : Pos} (hK : X.K = N.K) (ha : Rdr N Wx X e a (ev C G a)) (hl : PO X elo (TPo N Wx (evO C G lo))) (hh : PO X ehi (TPo N Wx (evO C G hi))) :
    Rdr N Wx X (.Subscript e (.Slice elo ehi none p2) p) (.slice a lo hi) (ev C G (.slice a lo hi)) := by
  obtain ⟨t, pt, le⟩ := ha.hold
  refine r_of (peImp (pe_slice (sl_slc hK) pt hl hh) fun σ H Q hq => le σ H _ ?_) fun _ e => nomatch e
  obtain ⟨W, ρ, rel, c⟩ := hq
  have c' : Cont N Wx σ ρ H W (KE N H Q) ((rdOr a (ev C G a) ρ).bind fun d ρ => (evO C G lo ρ).bind fun x ρ => (evO C G hi ρ).bind fun y ρ => (again a d ρ).bind fun d ρ => ofO (slc d x y) ρ) := c
  refine ⟨W, ρ, rel, (c'.bind rel).mono fun d ρ1 H1 W1 s1 ⟨_, c1⟩ v hv => ?_⟩
  refine ⟨W1, ρ1, s1.rel, (c1.bind s1.rel).mono fun x ρ2 H2 W2 s2 ⟨_, c2⟩ o1 ho1 => ?_⟩
  refine ⟨W2, ρ2, s2.rel, (c2.bind s2.rel).mono fun y ρ3 H3 W3 s3 ⟨_, c3⟩ o2 ho2 => ?_⟩
  have s23 := s2.trans s1.rel s3
  rcases hv.2 ρ3 H3 W3 s23 with e1 | ⟨d2, e1, r2⟩
  · rw [e1] at c3; exact c3.elim
  · rw [e1] at c3
    have c4 : Cont N Wx σ ρ3 H3 W3 (KE N H Q) (ofO (slc d2 x y) ρ3) := c3
    obtain ⟨z, hz, c5⟩ := c4.ofO0
    have s13 := s1.trans rel s23
    refine ⟨W3, d2, s3.rel.tr, r2, ?_⟩
    cases d2 with
    | lst l =>
      rw [show slc (.lst l) x y = some (.lst (cut l o1 o2), true) by simp only [slc, ho1, ho2]] at hz
      cases hz
      exact Gv.mk (H0 := H) s13 c5
    | scr l =>
      rw [show slc (.scr l) x y = some (.lst (cut l o1 o2), true) by simp only [slc, ho1, ho2]] at hz
      cases hz
      exact Gv.mk (H0 := H) s13 c5
    | tup l =>
      rw [show slc (.tup l) x y = some (.tup (cut l o1 o2), false) by simp only [slc, ho1, ho2]] at hz
      cases hz
      exact Gv.mk (H0 := H) s13 c5
    | _ => cases hz
/-! ### fields -/
structure NmOk (N : Nm) (nf : Nat) : Prop where
  inj : ∀ f g, N.fld f = N.fld g → f = g
  cls : 0 < nf → ∀ c, Cls N.K (N.cls c)
  noat : ∀ c f, f < nf → NoAttr N.K (N.cls c) (N.fld f)
theorem look_f {nf : Nat} (ok : NmOk N nf) {f : Nat} {d : D} : ∀ {fs : List (Nat × D)} {gs : List (Str × V)}, RepsF N H W fs gs → lookF f fs = some d → ∃ v, gs.lookup (N.fld f) = some v ∧ Rep N H W d v
  | [], _, _, e => nomatch e
  | (g, e) :: fs, _, ⟨x, r, rfl, rp, rs⟩, h => by
    by_cases q : g = f
    · subst q
      have : lookF g ((g, e) :: fs) = some e := if_pos rfl
      rw [this] at h
      cases h
      exact ⟨x, by simp [List.lookup], rp⟩
    · have e1 : lookF f ((g, e) :: fs) = lookF f fs := if_neg q
      rw [e1] at h
      obtain ⟨v, h1, h2⟩ := look_f ok rs h
      have ne : (N.fld f == N.fld g) = false := by
        rw [beq_eq_false_iff_ne]
        exact fun z => q (ok.inj _ _ z).symm
      exact ⟨v, by rw [List.lookup, ne]; exact h1, h2⟩
theorem r_attr {nf : Nat} (ok : NmOk N nf) (hK : X.K = N.K) {e : Expr} {a : E} {f : Nat} {p : Pos} (hf : f < nf) (hb : attributeBase e (N.fld f) X.env (eval e X.env) = eval e X.env) (ha : Rdr N Wx X e a (ev C G a)) :
    Rdr N Wx X (.Attribute e (N.fld f) p) (.attr a f) (ev C G (.attr a f)) := by
  refine r_of (peImp (pe_fld ha.rd hb) fun σ H Q hq => ?_) fun _ e => nomatch e
  obtain ⟨W, ρ, rel, c⟩ := hq
  have c' : Cont N Wx σ ρ H W (KE N H Q) ((rdOr a (ev C G a) ρ).bind fun d ρ => match d with
    | .obj _ fs => (ofO (lookF f fs) ρ).bind fun d ρ => .ok (d, false) ρ
    | _ => .bad) := c
  refine ⟨W, ρ, rel, (c'.bind rel).mono fun d ρ1 H1 W1 s ⟨_, c1⟩ v hv => ?_⟩
  cases d with
  | obj cl fs =>
    obtain ⟨b, dx, gs, rfl, e1, rf⟩ := hv
    obtain ⟨z, hz, c2⟩ := Cont.ofO (N := N) (Wx := Wx) c1
    obtain ⟨v, h1, h2⟩ := look_f ok rf hz
    exact ⟨b, _, dx, gs, v, rfl, e1, by rw [hK]; exact ok.cls (by omega) cl, by rw [hK]; exact ok.noat cl f hf, h1, Cont.here (N := N) (Wx := Wx) s.rel c2 v h2⟩
  | _ => exact c1.elim
/-! ### built-in functions -/
theorem r_bi {b : BI} {x : Str} {es : List Expr} {e : Expr} {l : E} {p pos : Pos} (hK : X.K = N.K) (hP : X.prog = N.P) (hw : X.w = N.w) (hc : X.calm = true) (hu : X.A.units + 128 < cLine) (hb : plainBi b = true) (hx : x = Str.ofString (biNm b)) (hg : Gl X x) (hm : X.mg x = none)
    (hn : (e :: es).all notStar = true) (h : PA X (e :: es) (TRs N Wx (evRs C G l))) : Rdr N Wx X (.Call (.Name x p) (e :: es) [] pos) (.bi b l) (ev C G (.bi b l)) := by
  have hn2 : notStar e = true ∧ es.all notStar = true := by rw [List.all_cons, Bool.and_eq_true] at hn; exact hn
  have ty : ∀ {T : String}, biV b = .type T → bootBuiltins x = some (.type T) → x ≠ "__name__" → (x == ("__debug__" : Str)) = false → PE X (.Call (.Name x p) (e :: es) [] pos) (tCB (rBi N b) (TRs N Wx (evRs C G l))) := fun h1 h2 h3 h4 =>
    pe_callTy (h1 ▸ call_bi hK hP hw hc hu b hb) hg hm h2 h h3 h4 (star_cons hn2.1 es _) (star_any hn2.2)
  have fn : ∀ {T : String}, biV b = .builtin T → bootBuiltins x = some (.builtin T) → x ≠ "__name__" → (x == ("__debug__" : Str)) = false → PE X (.Call (.Name x p) (e :: es) [] pos) (tCB (rBi N b) (TRs N Wx (evRs C G l))) := fun h1 h2 h3 h4 =>
    pe_callB (h1 ▸ call_bi hK hP hw hc hu b hb) hg hm h2 h h3 h4 (star_cons hn2.1 es _) (star_any hn2.2)
  have main : PE X (.Call (.Name x p) (e :: es) [] pos) (tCB (rBi N b) (TRs N Wx (evRs C G l))) := by
    subst hx
    cases b <;> first
      | (rename_i k; cases k <;> first | (cases hb; done) | exact ty rfl rfl (by decide) (by decide))
      | (cases hb; done)
      | exact ty rfl rfl (by decide) (by decide)
      | exact fn rfl rfl (by decide) (by decide)
  refine r_of (peImp main fun σ H Q hq => ?_) fun _ e => nomatch e
  obtain ⟨W, ρ, rel, c⟩ := hq
  have c' : Cont N Wx σ ρ H W (KE N H Q) ((evRs C G l ρ).bind fun ds ρ => ofO (biF b ds) ρ) := c
  refine ⟨W, ρ, rel, (c'.bind rel).mono fun ds ρ1 H1 W1 s ⟨_, c1⟩ vs hvs => ?_⟩
  obtain ⟨z, hz, c2⟩ := c1.ofO0
  exact ⟨W1, ds, z.1, z.2, s.rel.tr, hvs, hz, Gv.mk s c2⟩
end
end PX

end

section
set_option Elab.async false
set_option linter.all false
set_option autoImplicit false
set_option maxRecDepth 100000
namespace PX
open PySem PySem.Spec PyProof.Rows L2
section
variable {N : Nm} {Wx : WX} {X : Cx} {σ : L2.St} {ρ ρ1 : Ev} {H H0 H1 : Hp} {W W1 : Addr → Prop}
variable (C : Call) (G : Nat → D)
theorem RR.nw (n : Nw H W H1 W1) : ∀ {d : D} {v : V}, RR N H W d v → RR N H1 W1 d v
  | .lst _, _, ⟨a, xs, e, r, q⟩ => ⟨a, xs, e, n.ext.keep _ _ r (fun z => z), n.reps q⟩
  | .dct true _, _, ⟨a, ks, xs, e, r, q⟩ => ⟨a, ks, xs, e, n.ext.keep _ _ r (fun z => z), n.ext.repsV (fun _ z => z.elim) q⟩
  | .dct false _, _, ⟨a, xs, e, r, q⟩ => ⟨a, xs, e, n.ext.keep _ _ r (fun z => z), n.ext.repsK (fun _ z => z.elim) q⟩
  | .obj _ _, _, ⟨a, dx, gs, e, r, q⟩ => ⟨a, dx, gs, e, n.ext.keep _ _ r (fun z => z), n.ext.repsF (fun _ z => z.elim) q⟩
  | .none, _, h => h
  | .bool _, _, h => h
  | .int _, _, h => h
  | .str _, _, h => h
  | .tup l, v, h => n.rep (d := .tup l) h
  | .scr l, v, h => n.rep (d := .scr l) h
theorem two_nv {a b : E} {ra rb : Ev → Res (D × Bool)} (hv : ∀ i, a ≠ .var i) : two a b ra rb ρ = (ra ρ).bind fun x ρ => (rdOr b rb ρ).bind fun y ρ => .ok (x.1, y) ρ := by
  cases a <;> first | rfl | exact absurd rfl (hv _)
theorem rdOr_nv {a : E} {r : Ev → Res (D × Bool)} (hv : ∀ i, a ≠ .var i) : rdOr a r ρ = (r ρ).bind fun d ρ => .ok d.1 ρ := by
  cases a <;> first | rfl | exact absurd rfl (hv _)
theorem var_or (a : E) : (∃ i, a = .var i) ∨ ∀ i, a ≠ .var i := by
  cases a <;> first | exact .inl ⟨_, rfl⟩ | exact .inr fun _ e => nomatch e
theorem evRs_nil (ρ : Ev) : evRs C G .nil ρ = .ok [] ρ := rfl
theorem evRs_one (a : E) (ρ : Ev) : evRs C G (.cons a .nil) ρ = (rdOr a (ev C G a) ρ).bind fun d ρ => .ok [d] ρ := by
  have e0 : evRs C G (.cons a .nil) ρ = ((two a (.tup .nil) (ev C G a) (fun ρ => Res.ok (D.tup [], false) ρ) ρ).bind fun p ρ => match p.2 with
    | .tup r => .ok (p.1 :: r) ρ
    | _ => .bad) := rfl
  rw [e0]
  rcases var_or a with ⟨i, rfl⟩ | hv
  · show Res.bind (Res.bind (PX.rd i ρ) _) _ = Res.bind (PX.rd i ρ) _
    rcases rd_cases i ρ with ⟨d, e1⟩ | e1
    · rw [e1]
      show Res.bind (Res.bind (PX.rd i ρ) _) _ = _
      rw [e1] <;> rfl
    · rw [e1] <;> rfl
  · rw [two_nv hv, rdOr_nv hv]
    cases ev C G a ρ <;> rfl
theorem evRs_two (a b : E) (ρ : Ev) : evRs C G (.cons a (.cons b .nil)) ρ = (two a b (ev C G a) (ev C G b) ρ).bind fun p ρ => .ok [p.1, p.2] ρ := by
  have e0 : evRs C G (.cons a (.cons b .nil)) ρ = ((two a (.tup (.cons b .nil)) (ev C G a) (fun ρ => (evRs C G (.cons b .nil) ρ).bind fun r ρ => .ok (D.tup r, false) ρ) ρ).bind fun p ρ => match p.2 with
    | .tup r => .ok (p.1 :: r) ρ
    | _ => .bad) := rfl
  rw [e0]
  have e1 : (fun ρ => (evRs C G (.cons b .nil) ρ).bind fun r ρ => Res.ok (D.tup r, false) ρ) = fun ρ => (rdOr b (ev C G b) ρ).bind fun d ρ => Res.ok (D.tup [d], false) ρ := by
    funext ρ
    rw [evRs_one]
    cases rdOr b (ev C G b) ρ <;> rfl
  rw [e1]
  rcases var_or a with ⟨i, rfl⟩ | hv
  · show Res.bind (Res.bind (PX.rd i ρ) _) _ = Res.bind (Res.bind (PX.rd i ρ) _) _
    rcases rd_cases i ρ with ⟨d, e2⟩ | e2
    · rw [e2]
      show Res.bind (Res.bind (Res.bind (Res.bind (rdOr b (ev C G b) ρ) _) _) _) _ = Res.bind (Res.bind (rdOr b (ev C G b) ρ) _) _
      cases rdOr b (ev C G b) ρ with
      | ok d2 ρ2 =>
        show Res.bind (Res.bind (PX.rd i ρ2) _) _ = Res.bind (Res.bind (PX.rd i ρ2) _) _
        cases PX.rd i ρ2 <;> rfl
      | exc c fs => rfl
      | bad => rfl
    · rw [e2] <;> rfl
  · rw [two_nv hv, two_nv hv]
    cases ev C G a ρ with
    | ok x ρ2 =>
      show Res.bind (Res.bind (Res.bind (Res.bind (rdOr b (ev C G b) ρ2) _) _) _) _ = Res.bind (Res.bind (rdOr b (ev C G b) ρ2) _) _
      cases rdOr b (ev C G b) ρ2 <;> rfl
    | exc c fs => rfl
    | bad => rfl
/-! ### isinstance -/
def tyNm : Ty → String
  | .int => "int" | .bool => "bool" | .str => "str" | .tup => "tuple" | .lst => "list"
theorem pe_tyN {t : Ty} {x : Str} {p : Pos} (hx : x = Str.ofString (tyNm t)) (hg : Gl X x) (hm : X.mg x = none) : PE X (.Name x p) (tC (.ty (tyNm t))) := by
  subst hx
  cases t <;> exact pe_bltn (v := .ty _) (u := .type _) hg hm rfl rfl (by decide) (by decide)
theorem ty_of {d : D} {v : V} (hd : d.noObj = true) (h : RR N H W d v) : ∃ s, TyX N.K H v (.type s) ∧ ∀ t : Ty, PySem.W.kitOne N.K (.type s) (.type (tyNm t)) = some (tyIs t d) := by
  cases d with
  | none =>
    have h' : v = .non := h
    rw [h']
    exact ⟨_, .base .non, fun t => by cases t <;> exact kit_ty (r := false) (by decide +kernel)⟩
  | bool b =>
    have h' : v = .bl b := h
    rw [h']
    exact ⟨_, .base (.bl b), fun t => by cases t <;> first | exact kit_ty (r := true) (by decide +kernel) | exact kit_ty (r := false) (by decide +kernel)⟩
  | int i =>
    have h' : v = .int i := h
    rw [h']
    exact ⟨_, .base (.int i), fun t => by cases t <;> first | exact kit_ty (r := true) (by decide +kernel) | exact kit_ty (r := false) (by decide +kernel)⟩
  | str s =>
    have h' : v = .str s := h
    rw [h']
    exact ⟨_, .base (.str s), fun t => by cases t <;> first | exact kit_ty (r := true) (by decide +kernel) | exact kit_ty (r := false) (by decide +kernel)⟩
  | tup l =>
    obtain ⟨a, xs, rfl, s, r⟩ := h
    have k : ∀ t : Ty, PySem.W.kitOne N.K (.type "tuple") (.type (tyNm t)) = some (tyIs t (.tup l)) := fun t => by cases t <;> first | exact kit_ty (r := true) (by decide +kernel) | exact kit_ty (r := false) (by decide +kernel)
    rcases s with (s | ⟨o, s⟩) | ⟨o, its, n, s, c, _⟩
    · exact ⟨_, .base (.tup s), k⟩
    · exact ⟨_, .fTuple s, k⟩
    · exact ⟨_, .kTuple s c, k⟩
  | lst l =>
    obtain ⟨a, xs, rfl, s, r⟩ := h
    exact ⟨_, .base (.lst s), fun t => by cases t <;> first | exact kit_ty (r := true) (by decide +kernel) | exact kit_ty (r := false) (by decide +kernel)⟩
  | scr l =>
    obtain ⟨a, xs, rfl, s, r⟩ := h
    have k : ∀ t : Ty, PySem.W.kitOne N.K (.type "list") (.type (tyNm t)) = some (tyIs t (.scr l)) := fun t => by cases t <;> first | exact kit_ty (r := true) (by decide +kernel) | exact kit_ty (r := false) (by decide +kernel)
    rcases s with ⟨o, s⟩ | ⟨o, its, n, s, c, _⟩
    · exact ⟨_, .base (.frz s), k⟩
    · exact ⟨_, .kList s c, k⟩
  | _ => cases hd
theorem kit_any {K : PySem.W.Frag} {v : Value} {f : Ty → Bool} (h : ∀ t : Ty, PySem.W.kitOne K v (.type (tyNm t)) = some (f t)) : ∀ ts : List Ty, PySem.W.kitAny K v (ts.map fun t => .type (tyNm t)) = some (ts.any f)
  | [] => kitAny_nil
  | t :: ts => by
    rw [List.map_cons]
    refine kitAny_cons (h t) (fun e => ?_) (fun e => by rw [List.any_cons, e] <;> rfl)
    rw [List.any_cons, e, kit_any h ts] <;> rfl
/-- names of types -/
inductive TyEs (X : Cx) : List Expr → List Ty → Prop where
  | nil : TyEs X [] []
  | cons {x : Str} {p : Pos} {t : Ty} {es : List Expr} {ts : List Ty} (hx : x = Str.ofString (tyNm t)) (hg : Gl X x) (hm : X.mg x = none) (r : TyEs X es ts) : TyEs X (.Name x p :: es) (t :: ts)
theorem TyEs.pa {es : List Expr} {ts : List Ty} (h : TyEs X es ts) : PA X es (fun _ H Q => Q (ts.map fun t => V.ty (tyNm t)) H) := by
  induction h with
  | nil => exact pa_nil
  | cons hx hg hm r ih => exact paImp (pa_cons (pe_tyN hx hg hm) ih) fun σ H Q hq => hq
theorem isi_cont {ts : List Ty} {b : Bool} {l : E} {a : E} {Q : VK} (c : Cont N Wx σ ρ H W (KE N H0 Q) (ev C G (.bi (.isi b ts) (.cons a .nil)) ρ)) :
    Cont N Wx σ ρ H W (KE N H0 Q) ((rdOr a (ev C G a) ρ).bind fun d ρ => if d.noObj then .ok (.bool (ts.any fun t => tyIs t d), false) ρ else .bad) := by
  refine Eq.mp ?_ c
  congr 1
  show Res.bind (evRs C G (.cons a .nil) ρ) _ = _
  rw [evRs_one]
  cases rdOr a (ev C G a) ρ with
  | ok d ρ2 =>
    show PX.ofO (if d.noObj then _ else _) ρ2 = if d.noObj then _ else _
    cases d.noObj <;> rfl
  | exc c fs => rfl
  | bad => rfl
theorem r_isi {t : Ty} {ea : Expr} {a : E} {x y : Str} {p p1 pos : Pos} (hK : X.K = N.K) (hx : x = "isinstance") (hg : Gl X x) (hm : X.mg x = none) (hy : y = Str.ofString (tyNm t)) (hgy : Gl X y) (hmy : X.mg y = none)
    (hn : notStar ea = true) (ha : Rdr N Wx X ea a (ev C G a)) : Rdr N Wx X (.Call (.Name x p) [ea, .Name y p1] [] pos) (.bi (.isi false [t]) (.cons a .nil)) (ev C G (.bi (.isi false [t]) (.cons a .nil))) := by
  subst hx
  refine r_of (peImp (pe_callB call_isi hg hm rfl (pa_cons ha.rd (pa_cons (pe_tyN hy hgy hmy) pa_nil) (star_cons hn _ _)) (by decide) (by decide) (star_cons hn _ _)) fun σ H Q hq => ?_) fun _ e => nomatch e
  obtain ⟨W, ρ, rel, c⟩ := hq
  have c' := isi_cont (N := N) (Wx := Wx) C G (l := a) c
  refine ⟨W, ρ, rel, (c'.bind rel).mono fun d ρ1 H1 W1 s ⟨_, c1⟩ v hv => ?_⟩
  by_cases hd : d.noObj = true
  · rw [if_pos hd] at c1
    obtain ⟨s1, ty, k⟩ := ty_of hd hv
    refine ⟨v, .ty (tyNm t), .type s1, .type (tyNm t), tyIs t d, rfl, .ty _, by rw [hK]; exact ty, by rw [hK]; exact k t, ?_⟩
    have e : ([t].any fun t => tyIs t d) = tyIs t d := by simp
    rw [← e]
    exact bool_back s.rel c1
  · rw [if_neg hd] at c1
    exact c1.elim
theorem clsv_map : ∀ ts : List Ty, Paired ClsV (ts.map fun t => V.ty (tyNm t)) (ts.map fun t => Value.type (tyNm t))
  | [] => .nil
  | t :: ts => .cons (.ty _) (clsv_map ts)
theorem r_isiT {ts : List Ty} {ea : Expr} {es : List Expr} {a : E} {x : Str} {k : Nat} {p p1 pos : Pos} (hK : X.K = N.K) (hx : x = "isinstance") (hg : Gl X x) (hm : X.mg x = none) (hts : TyEs X es ts) (hl : ts.length ≤ 1000)
    (hn : notStar ea = true) (ha : Rdr N Wx X ea a (ev C G a)) : Rdr N Wx X (.Call (.Name x p) [ea, .Tuple es k p1] [] pos) (.bi (.isi true ts) (.cons a .nil)) (ev C G (.bi (.isi true ts) (.cons a .nil))) := by
  subst hx
  refine r_of (peImp (pe_callB call_isiT hg hm rfl (pa_cons ha.rd (pa_cons (pe_tup hts.pa) pa_nil) (star_cons hn _ _)) (by decide) (by decide) (star_cons hn _ _)) fun σ H Q hq => ?_) fun _ e => nomatch e
  obtain ⟨W, ρ, rel, c⟩ := hq
  have c' := isi_cont (N := N) (Wx := Wx) C G (l := a) c
  refine ⟨W, ρ, rel, (c'.bind rel).mono fun d ρ1 H1 W1 s ⟨_, c1⟩ v hv => ⟨?_, fun q hq => ?_⟩⟩
  · rw [List.length_map, sizeLine_eq]; omega
  by_cases hd : d.noObj = true
  · rw [if_pos hd] at c1
    have hv2 : RR N (upd H1 q (.tup (ts.map fun t => V.ty (tyNm t)))) W1 d v := hv.nw (Nw.new s.rel.tr hq)
    obtain ⟨s1, ty, k⟩ := ty_of hd hv2
    have s2 : Stp N σ ρ1 H1 W1 ρ1 (upd H1 q (.tup (ts.map fun t => V.ty (tyNm t)))) W1 := s.rel.new hq
    exact ⟨v, q, ts.map (fun t => V.ty (tyNm t)), .type s1, ts.map (fun t => Value.type (tyNm t)), ts.any (fun t => tyIs t d), rfl, upd_same, clsv_map ts, by rw [hK]; exact ty, by rw [hK]; exact kit_any k ts, c1 _ _ s2 (.bl _) rfl⟩
  · rw [if_neg hd] at c1
    exact c1.elim
end
end PX

end

section
set_option Elab.async false
set_option linter.all false
set_option autoImplicit false
set_option maxRecDepth 100000
namespace PX
open PySem PySem.Spec PyProof.Rows L2
section
variable {N : Nm} {Wx : WX} {X : Cx} {σ : L2.St} {ρ ρ1 : Ev} {H H0 H1 : Hp} {W W1 : Addr → Prop}
variable (C : Call) (G : Nat → D)
/-! ### ranges -/
theorem rgOk_of {i j : Int} (h : rOk i j = true) : RgOk i j := by
  unfold rOk lim at h
  simp only [Bool.and_eq_true, decide_eq_true_eq] at h
  refine ⟨by omega, by omega, by omega, by omega, by omega⟩
theorem reps_map_int {l : List Nat} {lo : Int} : Reps N H W (l.map fun k => D.int (lo + (k : Nat))) (l.map fun k => V.int (lo + (k : Nat))) := by
  induction l with
  | nil => exact rfl
  | cons a l ih => exact ⟨_, _, rfl, rfl, ih⟩
theorem reps_range {i j : Int} : Reps N H W (irange i j) (rgV i j) := reps_map_int
variable (N Wx) in
/-- an int or two, read -/
def TR1 (r : Ev → Res D) : L2.St → Hp → (Int → Int → Hp → Prop) → Prop := tRg1 (TRd N Wx r)
theorem r_lrng1 {ea : Expr} {a : E} {x y : Str} {p p1 pos q : Pos} (hc : X.calm = true) (hx : x = "list") (hg : Gl X x) (hm : X.mg x = none) (hy : y = "range") (hgy : Gl X y) (hmy : X.mg y = none) (hn : notStar ea = true) (ha : Rdr N Wx X ea a (ev C G a)) :
    Rdr N Wx X (.Call (.Name x p) [.Call (.Name y p1) [ea] [] q] [] pos) (.bi .lrng1 (.cons a .nil)) (ev C G (.bi .lrng1 (.cons a .nil))) := by
  subst hx hy
  refine r_of (peImp (pe_listRg hc hg hm (prg_1 hgy hmy ha.rd (star_cons hn _ _))) fun σ H Q hq => ?_) fun _ e => nomatch e
  obtain ⟨W, ρ, rel, c⟩ := hq
  have c' : Cont N Wx σ ρ H W (KE N H Q) ((evRs C G (.cons a .nil) ρ).bind fun ds ρ => ofO (biF .lrng1 ds) ρ) := c
  rw [evRs_one] at c'
  have e : ((rdOr a (ev C G a) ρ).bind fun d ρ => Res.ok [d] ρ).bind (fun ds ρ => ofO (biF .lrng1 ds) ρ) = (rdOr a (ev C G a) ρ).bind fun d ρ => ofO (biF .lrng1 [d]) ρ := by cases rdOr a (ev C G a) ρ <;> rfl
  rw [e] at c'
  refine ⟨W, ρ, rel, (c'.bind rel).mono fun d ρ1 H1 W1 s ⟨_, c1⟩ v hv => ?_⟩
  obtain ⟨z, hz, c2⟩ := c1.ofO0
  cases d with
  | int i =>
    by_cases ho : rOk 0 i = true
    · rw [show biF .lrng1 [.int i] = some (.lst (irange 0 i), true) by simp only [biF, if_pos ho]] at hz
      cases hz
      exact ⟨i, hv, rgOk_of ho, Gv.lst s.rel.tr (Gv.mk s c2) reps_range⟩
    · rw [show biF .lrng1 [.int i] = none by simp only [biF, if_neg ho]] at hz
      cases hz
  | _ => cases hz
theorem r_trng1 {ea : Expr} {a : E} {x y : Str} {p p1 pos q : Pos} (hc : X.calm = true) (hx : x = "tuple") (hg : Gl X x) (hm : X.mg x = none) (hy : y = "range") (hgy : Gl X y) (hmy : X.mg y = none) (hn : notStar ea = true) (ha : Rdr N Wx X ea a (ev C G a)) :
    Rdr N Wx X (.Call (.Name x p) [.Call (.Name y p1) [ea] [] q] [] pos) (.bi .trng1 (.cons a .nil)) (ev C G (.bi .trng1 (.cons a .nil))) := by
  subst hx hy
  refine r_of (peImp (pe_tupRg hc hg hm (prg_1 hgy hmy ha.rd (star_cons hn _ _))) fun σ H Q hq => ?_) fun _ e => nomatch e
  obtain ⟨W, ρ, rel, c⟩ := hq
  have c' : Cont N Wx σ ρ H W (KE N H Q) ((evRs C G (.cons a .nil) ρ).bind fun ds ρ => ofO (biF .trng1 ds) ρ) := c
  rw [evRs_one] at c'
  have e : ((rdOr a (ev C G a) ρ).bind fun d ρ => Res.ok [d] ρ).bind (fun ds ρ => ofO (biF .trng1 ds) ρ) = (rdOr a (ev C G a) ρ).bind fun d ρ => ofO (biF .trng1 [d]) ρ := by cases rdOr a (ev C G a) ρ <;> rfl
  rw [e] at c'
  refine ⟨W, ρ, rel, (c'.bind rel).mono fun d ρ1 H1 W1 s ⟨_, c1⟩ v hv => ?_⟩
  obtain ⟨z, hz, c2⟩ := c1.ofO0
  cases d with
  | int i =>
    by_cases ho : rOk 0 i = true
    · rw [show biF .trng1 [.int i] = some (.tup (irange 0 i), false) by simp only [biF, if_pos ho]] at hz
      cases hz
      exact ⟨i, hv, rgOk_of ho, Gv.tup s.rel.tr (Gv.mk s c2) reps_range⟩
    · rw [show biF .trng1 [.int i] = none by simp only [biF, if_neg ho]] at hz
      cases hz
  | _ => cases hz
theorem rg2_cont {b : BI} {a c : E} {Q : VK} (h : Cont N Wx σ ρ H W (KE N H0 Q) (ev C G (.bi b (.cons a (.cons c .nil))) ρ)) : Cont N Wx σ ρ H W (KE N H0 Q) ((two a c (ev C G a) (ev C G c) ρ).bind fun p ρ => ofO (biF b [p.1, p.2]) ρ) := by
  refine Eq.mp ?_ h
  congr 1
  show Res.bind (evRs C G (.cons a (.cons c .nil)) ρ) _ = _
  rw [evRs_two]
  cases two a c (ev C G a) (ev C G c) ρ <;> rfl
theorem r_lrng2 {ea eb : Expr} {a b : E} {x y : Str} {p p1 pos q : Pos} (hc : X.calm = true) (hx : x = "list") (hg : Gl X x) (hm : X.mg x = none) (hy : y = "range") (hgy : Gl X y) (hmy : X.mg y = none) (hn : notStar ea = true) (hn' : notStar eb = true)
    (ha : Rdr N Wx X ea a (ev C G a)) (hb : Rdr N Wx X eb b (ev C G b)) :
    Rdr N Wx X (.Call (.Name x p) [.Call (.Name y p1) [ea, eb] [] q] [] pos) (.bi .lrng2 (.cons a (.cons b .nil))) (ev C G (.bi .lrng2 (.cons a (.cons b .nil)))) := by
  subst hx hy
  obtain ⟨ta, tb, pa, pb, le⟩ := pe_two ha hb
  have hs : [eb].all notStar = true := by rw [List.all_cons, hn'] <;> rfl
  refine r_of (peImp (pe_listRg hc hg hm (prg_2 hgy hmy pa pb (star_cons hn _ _) (star_cons hn' _ _) (star_any hs))) fun σ H Q hq => le σ H _ ?_) fun _ e => nomatch e
  obtain ⟨W, ρ, rel, c⟩ := hq
  have c' := rg2_cont (N := N) (Wx := Wx) C G c
  refine ⟨W, ρ, rel, (c'.bind rel).mono fun d ρ1 H1 W1 s ⟨_, c1⟩ v u hv hu t => ?_⟩
  obtain ⟨z, hz, c2⟩ := c1.ofO0
  obtain ⟨d1, d2⟩ := d
  cases d1 with
  | int i => cases d2 with
    | int j =>
      by_cases ho : rOk i j = true
      · rw [show biF .lrng2 [.int i, .int j] = some (.lst (irange i j), true) by simp only [biF, if_pos ho]] at hz
        cases hz
        exact ⟨i, j, hv, hu, rgOk_of ho, Gv.lst s.rel.tr (Gv.mk s c2) reps_range⟩
      · rw [show biF .lrng2 [.int i, .int j] = none by simp only [biF, if_neg ho]] at hz
        cases hz
    | _ => cases hz
  | _ => cases hz
theorem r_trng2 {ea eb : Expr} {a b : E} {x y : Str} {p p1 pos q : Pos} (hc : X.calm = true) (hx : x = "tuple") (hg : Gl X x) (hm : X.mg x = none) (hy : y = "range") (hgy : Gl X y) (hmy : X.mg y = none) (hn : notStar ea = true) (hn' : notStar eb = true)
    (ha : Rdr N Wx X ea a (ev C G a)) (hb : Rdr N Wx X eb b (ev C G b)) :
    Rdr N Wx X (.Call (.Name x p) [.Call (.Name y p1) [ea, eb] [] q] [] pos) (.bi .trng2 (.cons a (.cons b .nil))) (ev C G (.bi .trng2 (.cons a (.cons b .nil)))) := by
  subst hx hy
  obtain ⟨ta, tb, pa, pb, le⟩ := pe_two ha hb
  have hs : [eb].all notStar = true := by rw [List.all_cons, hn'] <;> rfl
  refine r_of (peImp (pe_tupRg hc hg hm (prg_2 hgy hmy pa pb (star_cons hn _ _) (star_cons hn' _ _) (star_any hs))) fun σ H Q hq => le σ H _ ?_) fun _ e => nomatch e
  obtain ⟨W, ρ, rel, c⟩ := hq
  have c' := rg2_cont (N := N) (Wx := Wx) C G c
  refine ⟨W, ρ, rel, (c'.bind rel).mono fun d ρ1 H1 W1 s ⟨_, c1⟩ v u hv hu t => ?_⟩
  obtain ⟨z, hz, c2⟩ := c1.ofO0
  obtain ⟨d1, d2⟩ := d
  cases d1 with
  | int i => cases d2 with
    | int j =>
      by_cases ho : rOk i j = true
      · rw [show biF .trng2 [.int i, .int j] = some (.tup (irange i j), false) by simp only [biF, if_pos ho]] at hz
        cases hz
        exact ⟨i, j, hv, hu, rgOk_of ho, Gv.tup s.rel.tr (Gv.mk s c2) reps_range⟩
      · rw [show biF .trng2 [.int i, .int j] = none by simp only [biF, if_neg ho]] at hz
        cases hz
    | _ => cases hz
  | _ => cases hz
/-! ### min(.., default=..) -/
def rMinD (N : Nm) (mx : Bool) : List V → List V → Hp → VK → Prop := fun xs zs H Q => ∃ (W : Addr → Prop) (l : List D) (z : D) (v u : V) (ns : List Int), xs = [v] ∧ zs = [u] ∧ Trk H W ∧ RR N H W (.lst l) v ∧ intsOf l = some ns ∧ match ns with
  | [] => Q u H
  | n :: ns => Q (.int (if mx then maxI n ns else minI n ns)) H
theorem call_minD (hK : X.K = N.K) (hc : X.calm = true) (hu : X.A.units + 128 < cLine) (mx : Bool) : CallRK X (.builtin (if mx then "max" else "min")) [Str.ofString "default"] (rMinD N mx) := by
  intro pins s σ H xs zs us ws Q I rx rz h
  obtain ⟨W, l, z, v, u, ns, rfl, rfl, t, hv, hns, q⟩ := h
  obtain ⟨u1, rfl, r1⟩ := vals1 rx
  obtain ⟨w1, rfl, r2⟩ := vals1 rz
  obtain ⟨a, vs, rfl, hH, rp⟩ := hv
  cases (show u1 = Value.ref a from r1)
  have e := ints_reps hns rp
  subst e
  obtain ⟨its, rv, pl, hz⟩ := I.list (.of hH)
  have rd : ReadsAll s.heap its.toArray.toList (ns.map PyData.int) [] := reads_ints (by simpa using rv)
  have dp : PyData.depthAll (ns.map PyData.int) = 0 := by
    clear q rd rv hz pl hns hH rp
    induction ns with
    | nil => rfl
    | cons n ns ih =>
      show max 0 (PyData.depthAll (ns.map PyData.int)) = 0
      rw [ih] <;> rfl
  cases mx with
  | false =>
    show wpAny _ _ (call (.builtin "min") [.ref a] [(Str.ofString "default", w1)]) _ _ _
    refine PySem.W.min_list_default (I.ok.hd hc) pl.isList rd (alike_ints' ns) (by rw [dp]; omega) (fun e h' tk hk => ?_) (fun y ys i v h' tk bs e hi hr hk => ?_)
    · cases ns with
      | nil => exact ⟨u, H, I.kept hk, r2, q⟩
      | cons n ns => cases e
    · cases ns with
      | nil => cases e
      | cons n ns =>
        cases e
        rw [minD_ints] at hr
        obtain ⟨t, rfl⟩ := reads_int hr
        exact ⟨.int _, H, I.kept hk, ⟨t, rfl⟩, q⟩
  | true =>
    show wpAny _ _ (call (.builtin "max") [.ref a] [(Str.ofString "default", w1)]) _ _ _
    refine PySem.W.max_list_default (I.ok.hd hc) pl.isList rd (alike_ints' ns) (by rw [dp]; omega) (fun e h' tk hk => ?_) (fun y ys i v h' tk bs e hi hr hk => ?_)
    · cases ns with
      | nil => exact ⟨u, H, I.kept hk, r2, q⟩
      | cons n ns => cases e
    · cases ns with
      | nil => cases e
      | cons n ns =>
        cases e
        rw [maxD_ints] at hr
        obtain ⟨t, rfl⟩ := reads_int hr
        exact ⟨.int _, H, I.kept hk, ⟨t, rfl⟩, q⟩
theorem r_minD {mx : Bool} {ea eb : Expr} {a b : E} {x y : Str} {p kp pos : Pos} (hK : X.K = N.K) (hc : X.calm = true) (hu : X.A.units + 128 < cLine) (hx : x = Str.ofString (if mx then "max" else "min")) (hg : Gl X x) (hm : X.mg x = none) (hy : y = "default") (hn : notStar ea = true)
    (ha : Rdr N Wx X ea a (ev C G a)) (hb : Rdr N Wx X eb b (ev C G b)) :
    Rdr N Wx X (.Call (.Name x p) [ea] [⟨some y, eb, kp⟩] pos) (.bi (if mx then .maxD else .minD) (.cons a (.cons b .nil))) (ev C G (.bi (if mx then .maxD else .minD) (.cons a (.cons b .nil)))) := by
  subst hx hy
  obtain ⟨ta, tb, pa, pb, le⟩ := pe_two ha hb
  have hs : [ea].all notStar = true := by rw [List.all_cons, hn] <;> rfl
  have bb : bootBuiltins (Str.ofString (if mx then "max" else "min")) = some (.builtin (if mx then "max" else "min")) := by cases mx <;> rfl
  have b1 : Str.ofString (if mx then "max" else "min") ≠ "__name__" := by cases mx <;> decide
  have b2 : (Str.ofString (if mx then "max" else "min") == ("__debug__" : Str)) = false := by cases mx <;> decide
  refine r_of (peImp (pe_callBK (call_minD hK hc hu mx) hg hm bb (pa_cons pa pa_nil (star_cons hn _ _)) (pk_cons pb pk_nil) b1 b2 (by rw [star_cons hn] <;> rfl) (star_any hs)) fun σ H Q hq => le σ H _ ?_) fun _ e => by cases mx <;> exact nomatch e
  obtain ⟨W, ρ, rel, c⟩ := hq
  have c' : Cont N Wx σ ρ H W (KE N H Q) ((two a b (ev C G a) (ev C G b) ρ).bind fun p ρ => ofO (biF (if mx then .maxD else .minD) [p.1, p.2]) ρ) := rg2_cont (N := N) (Wx := Wx) C G c
  refine ⟨W, ρ, rel, (c'.bind rel).mono fun d ρ1 H1 W1 s ⟨_, c1⟩ v u hv hu t => ?_⟩
  obtain ⟨z, hz, c2⟩ := c1.ofO0
  obtain ⟨d1, d2⟩ := d
  cases d1 with
  | lst l => cases d2 with
    | int j =>
      cases hu
      cases e : intsOf l with
      | none =>
        have : (none : Option (D × Bool)) = some z := by
          rw [← hz]
          cases mx <;> (show _ = Option.bind (intsOf l) _; rw [e]; rfl)
        cases this
      | some ns =>
        refine ⟨W1, l, .int j, v, .int j, ns, rfl, rfl, t, hv, e, ?_⟩
        cases ns with
        | nil =>
          have : z = (.int j, false) := by
            have : some z = some (D.int j, false) := by
              rw [← hz]
              cases mx <;> (show Option.bind (intsOf l) _ = _; rw [e]; rfl)
            cases this
            rfl
          subst this
          exact c2.here s.rel (.int j) rfl
        | cons n ns =>
          have : z = (.int (if mx then maxI n ns else minI n ns), false) := by
            have : some z = some (D.int (if mx then maxI n ns else minI n ns), false) := by
              rw [← hz]
              cases mx <;> (show Option.bind (intsOf l) _ = _; rw [e]; rfl)
            cases this
            rfl
          subst this
          exact c2.here s.rel (.int _) rfl
    | _ => cases mx <;> cases hz
  | _ => cases mx <;> cases hz
/-! ### a list's methods -/
theorem find_idx {l : List D} {d : D} {k : Nat} (h : l.findIdx? (fun z => D.eq z d) = some k) : ∃ z, (D.pys l)[k]? = some z ∧ PyData.eqv z d.py = true ∧ ∀ (m : Nat) (z' : PyData), m < k → (D.pys l)[m]? = some z' → PyData.eqv z' d.py = false := by
  induction l generalizing k with
  | nil => cases h
  | cons a l ih =>
    rw [List.findIdx?_cons] at h
    cases e : D.eq a d with
    | true =>
      rw [e] at h
      simp only [if_true] at h
      cases h
      exact ⟨a.py, rfl, e, fun m z' hm _ => absurd hm (Nat.not_lt_zero _)⟩
    | false =>
      rw [e] at h
      simp only [Bool.false_eq_true, if_false] at h
      cases q : l.findIdx? (fun z => D.eq z d) with
      | none => rw [q] at h; cases h
      | some j =>
        rw [q] at h
        cases h
        obtain ⟨z, h1, h2, h3⟩ := ih q
        refine ⟨z, h1, h2, fun m z' hm hz => ?_⟩
        cases m with
        | zero =>
          cases hz
          exact e
        | succ m => exact h3 m z' (Nat.lt_of_succ_lt_succ hm) hz
def notCall : Expr → Bool
  | .Call _ (_ :: _) _ _ => true
  | .Call .. => false
  | _ => true
theorem attr_base {o : Expr} {f : Str} {env : Env} (h : notCall o = true) : attributeBase o f env (eval o env) = eval o env := by
  cases o with
  | Call g es ks p => cases es with
    | nil => cases h
    | cons e es => cases g <;> rfl
  | _ => rfl
theorem r_index {eo ea : Expr} {o a : E} {x : Str} {apos pos : Pos} (hK : X.K = N.K) (hu : X.A.units + 128 < cLine) (hx : x = "index") (hn : notStar ea = true) (hb : notCall eo = true) (hl : (apos.endLine == pos.line) = true)
    (ho : Rdr N Wx X eo o (ev C G o)) (ha : Rdr N Wx X ea a (ev C G a)) : Rdr N Wx X (.Call (.Attribute eo x apos) [ea] [] pos) (.bm .index o (.cons a .nil)) (ev C G (.bm .index o (.cons a .nil))) := by
  subst hx
  obtain ⟨t, pt, le⟩ := ho.hold
  refine r_of (peImp (pe_bm F.plainAttrs_list F.slot_list_index F.type_list_index (mt_indexD (by omega)) pt (pa_cons ha.rd pa_nil (star_cons hn _ _)) (attr_base hb) (by rw [star_cons hn] <;> rfl) hl (star_cons hn _ _)) fun σ H Q hq => le σ H _ ?_) fun _ e => nomatch e
  obtain ⟨W, ρ, rel, c⟩ := hq
  have c' : Cont N Wx σ ρ H W (KE N H Q) ((rdOr o (ev C G o) ρ).bind fun d ρ => if bmTy .index d then (evRs C G (.cons a .nil) ρ).bind fun ds ρ => (again o d ρ).bind fun d ρ => ofO (bmf .index d ds) ρ else .bad) := c
  refine ⟨W, ρ, rel, (c'.bind rel).mono fun d ρ1 H1 W1 s1 ⟨_, c1⟩ v hv => ?_⟩
  by_cases ht : bmTy .index d = true
  · rw [if_pos ht, evRs_one] at c1
    have e : ((rdOr a (ev C G a) ρ1).bind fun d ρ => Res.ok [d] ρ).bind (fun ds ρ => (again o d ρ).bind fun d ρ => ofO (bmf .index d ds) ρ) = (rdOr a (ev C G a) ρ1).bind fun x ρ => (again o d ρ).bind fun d ρ => ofO (bmf .index d [x]) ρ := by cases rdOr a (ev C G a) ρ1 <;> rfl
    rw [e] at c1
    refine ⟨?_, W1, ρ1, s1.rel, (c1.bind s1.rel).mono fun y ρ2 H2 W2 s2 ⟨_, c2⟩ u hu => ?_⟩
    · cases d with
      | lst l =>
        obtain ⟨b, xs, rfl, e1, _⟩ := hv.1
        exact .inl ⟨rfl, xs, .of e1⟩
      | _ => cases ht
    · rcases hv.2 ρ2 H2 W2 s2 with e1 | ⟨d2, e1, r2⟩
      · rw [e1] at c2; exact c2.elim
      · rw [e1] at c2
        have c3 : Cont N Wx σ ρ2 H2 W2 (KE N H Q) (ofO (bmf .index d2 [y]) ρ2) := c2
        obtain ⟨z, hz, c4⟩ := c3.ofO0
        cases d2 with
        | lst l =>
          by_cases hok : (y.ok 60 && l.all (D.ok 60)) = true
          · rw [show bmf .index (.lst l) [y] = (l.findIdx? fun z => D.eq z y).map fun k => (.int (k : Nat), false) by simp only [bmf, if_pos hok]] at hz
            cases q : l.findIdx? (fun z => D.eq z y) with
            | none => rw [q] at hz; cases hz
            | some k =>
              rw [q] at hz
              cases hz
              obtain ⟨z, h1, h2, h3⟩ := find_idx q
              rw [Bool.and_eq_true] at hok
              have okl : D.ok 61 (.lst l) = true := hok.2
              have dl := rr_dp okl r2
              obtain ⟨b, xs, rfl, _, _⟩ := r2
              exact ⟨b, u, y.py, D.pys l, k, z, rfl, rfl, by rw [hK]; exact dl, by rw [hK]; exact rr_dp hok.1 hu, (oks_shaped hok.2 (by decide)).1, ok_shaped hok.1 (by decide), h1, h2, h3, c4.here s2.rel (.int _) rfl⟩
          · rw [show bmf .index (.lst l) [y] = none by simp only [bmf, if_neg hok]] at hz
            cases hz
        | _ => cases hz
  · rw [if_neg ht] at c1
    exact c1.elim
/-- d.get(k, x) -/
theorem ty_dct : TyOk X "dict" (fun x H => ∃ a ks vs, x = V.ref a ∧ H a = some (dctO N.P N.w a ks vs)) := by
  intro pins σ H s x v I rx h
  obtain ⟨a, ks, vs, rfl, e⟩ := h
  cases (show v = Value.ref a from rx)
  obtain ⟨_, _, us, _, _, da⟩ := obj_dct I e
  obtain ⟨t1, t2⟩ := dct_type da
  exact ⟨t1, fun b e => by cases e; exact t2⟩
theorem r_get2 {eo ea eb : Expr} {o a b : E} {x : Str} {apos pos : Pos} (hK : X.K = N.K) (hP : X.prog = N.P) (hw : X.w = N.w) (hu : X.A.units + 128 < cLine) (hx : x = "get") (hn : notStar ea = true) (hn' : notStar eb = true) (hb : notCall eo = true) (hl : (apos.endLine == pos.line) = true)
    (ho : Rdr N Wx X eo o (ev C G o)) (ha : Rdr N Wx X ea a (ev C G a)) (hb2 : Rdr N Wx X eb b (ev C G b)) : Rdr N Wx X (.Call (.Attribute eo x apos) [ea, eb] [] pos) (.bm .get2 o (.cons a (.cons b .nil))) (ev C G (.bm .get2 o (.cons a (.cons b .nil)))) := by
  subst hx
  obtain ⟨t, pt, le⟩ := ho.hold
  refine r_of (peImp (pe_mG (ty_dct (N := N)) F.plainAttrs_dict F.slot_dict_get F.type_dict_get (mt_get2T hK hP hw (by omega)) pt (as_cons C G hn ha (as_cons C G hn' hb2 (as_nil C G))) (attr_base hb) (by rw [star_cons hn, star_cons hn'] <;> rfl) hl (star_cons hn _ _) (star_any (by simp [hn']))) fun σ H Q hq => le σ H _ ?_) fun _ e => nomatch e
  obtain ⟨W, ρ, rel, c⟩ := hq
  have c' : Cont N Wx σ ρ H W (KE N H Q) ((rdOr o (ev C G o) ρ).bind fun d ρ => if bmTy .get2 d then (evs C G (.cons a (.cons b .nil)) ρ).bind fun ds ρ => (again o d ρ).bind fun d ρ => ofO (bmf .get2 d ds) ρ else .bad) := c
  refine ⟨W, ρ, rel, (c'.bind rel).mono fun d ρ1 H1 W1 s1 ⟨_, c1⟩ v hv => ?_⟩
  cases d with
  | dct k l =>
    cases k with
    | false => exact c1.elim
    | true =>
    have ht : bmTy .get2 (.dct true l) = true := rfl
    rw [if_pos ht] at c1
    refine ⟨let ⟨a, ks, vs, e, e1, _⟩ := hv.1; ⟨a, ks, vs, e, e1⟩, W1, ρ1, s1.rel, (c1.bind s1.rel).mono fun ds ρ2 H2 W2 s2 ⟨_, c2⟩ us hus => ?_⟩
    rcases hv.2 ρ2 H2 W2 s2 with e1 | ⟨d2, e1, r2⟩
    · rw [e1] at c2; exact c2.elim
    · rw [e1] at c2
      have c3 : Cont N Wx σ ρ2 H2 W2 (KE N H Q) (ofO (bmf .get2 d2 ds) ρ2) := c2
      obtain ⟨z, hz, c4⟩ := c3.ofO0
      have hb : ∃ l2 y f, d2 = .dct true l2 ∧ ds = [y, f] ∧ y.kTup = true ∧ z = ((dget true l2 y).getD f, false) := by
        rcases ds with _ | ⟨y, _ | ⟨f, _ | ⟨g, ds⟩⟩⟩
        · cases d2 <;> first | (cases hz; done) | (rename_i k2 l2; cases k2 <;> (cases hz; done))
        · cases d2 <;> first | (cases hz; done) | (rename_i k2 l2; cases k2 <;> (cases hz; done))
        · cases d2 with
          | dct k2 l2 =>
            cases k2 with
            | false => cases hz
            | true =>
              have hz' : (if y.kTup then some ((dget true l2 y).getD f, false) else none) = some z := hz
              split at hz'
              · rename_i hk
                cases hz'
                exact ⟨l2, y, f, rfl, rfl, hk, rfl⟩
              · cases hz'
          | _ => cases hz
        · cases d2 <;> first | (cases hz; done) | (rename_i k2 l2; cases k2 <;> (cases hz; done))
      obtain ⟨l2, y, f, rfl, rfl, hk, rfl⟩ := hb
      obtain ⟨yv, _, rfl, hy, fv, _, rfl, hf, hnil⟩ := hus
      cases hnil
      have s12 := s1.trans rel s2
      exact ⟨W2, l2, y, f, yv, fv, rfl, s2.rel.tr, r2, hy.rr, hf, hk, Gv.mk s12 c4⟩
  | _ => exact c1.elim
/-! ### a list of one's own is changed -/
theorem RelS.write (rel : RelS N H W σ ρ) {i : Nat} {p : Bool} {d d' : D} {a : Addr} {o : HO} (e : ρ[i]? = some (Cell.own p d)) (e1 : σ[i]? = some (some (V.ref a))) (m : Mut (some o)) (r' : OwnR N (upd H a o) W a d') : Stp N σ ρ H W (ρ.set i (.own p d')) (upd H a o) W := by
  have own : Own ρ σ a := ⟨i, p, d, e, e1⟩
  have w := rel.own own
  have hi : i < ρ.length := (List.getElem?_eq_some_iff.mp e).1
  obtain ⟨u, hu, mu⟩ := rel.tr a w
  have x : Ext (fun b => b = a) H W (upd H a o) W := Ext.write hu mu rfl
  have hT : ∀ b, b = a → W b := fun b z => z ▸ w
  refine ⟨⟨by rw [List.length_set]; exact rel.len, fun j c ej => ?_, fun j k q q' d1 d2 b h1 h2 h3 h4 => ?_, fun b wb => ?_⟩, Ext.write hu mu own, fun b h => ?_, fun j d2 h => ?_, fun j h => ?_⟩
  · by_cases hj : j = i
    · subst hj
      rw [List.getElem?_set_self hi] at ej
      cases ej
      exact ⟨a, e1, w, r'⟩
    · rw [List.getElem?_set_ne (Ne.symm hj)] at ej
      have s := rel.slot j c ej
      cases c with
      | unset => trivial
      | val d2 => exact let ⟨v, q1, q2⟩ := s; ⟨v, q1, x.rep hT q2⟩
      | own q d2 =>
        obtain ⟨b, q1, q2, q3⟩ := s
        have nb : ¬ b = a := fun z => hj (rel.apart j i q p d2 d a ej e (by rw [q1, z]) e1)
        exact ⟨b, q1, q2, x.ownR hT nb q3⟩
  · have nj : ∀ {j : Nat} {q : Bool} {d1 : D}, (ρ.set i (.own p d'))[j]? = some (Cell.own q d1) → ∃ q d2, ρ[j]? = some (Cell.own q d2) := fun {j q d1} h => by
      by_cases hj : j = i
      · subst hj; exact ⟨p, d, e⟩
      · rw [List.getElem?_set_ne (Ne.symm hj)] at h; exact ⟨q, d1, h⟩
    obtain ⟨_, _, g1⟩ := nj h1
    obtain ⟨_, _, g2⟩ := nj h2
    exact rel.apart j k _ _ _ _ b g1 g2 h3 h4
  · obtain ⟨u', hu', mu'⟩ := rel.tr b wb
    by_cases hb : b = a
    · subst hb; exact ⟨o, upd_same, m⟩
    · exact ⟨u', by rw [upd_ne hb]; exact hu', mu'⟩
  · obtain ⟨j, q, d1, h1, h2⟩ := h
    by_cases hj : j = i
    · subst hj
      rw [e1] at h2
      cases h2
      exact own
    · rw [List.getElem?_set_ne (Ne.symm hj)] at h1
      exact ⟨j, q, d1, h1, h2⟩
  · by_cases hj : j = i
    · subst hj
      rw [e] at h
      cases h
      exact ⟨d', List.getElem?_set_self hi⟩
    · exact ⟨d2, by rw [List.getElem?_set_ne (Ne.symm hj)]; exact h⟩
  · by_cases hj : j = i
    · subst hj; rw [List.getElem?_set_self hi] at h; cases h
    · rw [List.getElem?_set_ne (Ne.symm hj)] at h; exact h
theorem reps_upd (rel : RelS N H W σ ρ) {a : Addr} {o u : HO} (w : W a) (hu : H a = some u) (mu : Mut (some u)) {ds : List D} {vs : List V} (h : Reps N H W ds vs) : Reps N (upd H a o) W ds vs :=
  Ext.reps (T := fun b => b = a) (Ext.write hu mu rfl) (fun b z => z ▸ w) h
def muNm : MU → Str
  | .append => "append" | .extend => "extend" | .insert => "insert" | .pop => "pop" | .popi => "pop" | .clear => "clear"
theorem mut_cont {m : MU} {i : Nat} {l : E} {Q : VK} {v : V} (rel : RelS N H W σ ρ) (ev1 : σ[i]? = some (some v)) (c : Cont N Wx σ ρ H W (KE N H0 Q) ((PX.rd i ρ).bind fun d ρ => if d.isLst then (evs C G l ρ).bind fun ds ρ => match ρ[i]? with
    | some (.own p d) => (ofO (muf m d ds) ρ).bind fun r ρ => .ok (r.1, false) (ρ.set i (.own p r.2))
    | _ => .bad else .bad)) :
    tyV N.K "list" v H ∧ TAs N Wx (evs C G l) σ H fun vs H1 => ∃ ρ1 W1 a p xs ds d ls r, RelS N H1 W1 σ ρ1 ∧ v = .ref a ∧ W1 a ∧ ρ1[i]? = some (.own p (.lst ls)) ∧ H1 a = some (.lst xs) ∧ Reps N H1 W1 ls xs ∧ Reps N H1 W1 ds vs ∧ muf m (.lst ls) ds = some (r, d) ∧
      Cont N Wx σ ρ1 H1 W1 (KE N H0 Q) (.ok (r, false) (ρ1.set i (.own p d))) := by
  rcases rd_cases i ρ with ⟨d, e1⟩ | e1
  · rw [e1] at c
    obtain ⟨_, v', ev', rr⟩ := rel.rd e1
    rw [ev1] at ev'
    cases ev'
    cases d with
    | lst l0 =>
      have c1 : Cont N Wx σ ρ H W (KE N H0 Q) ((evs C G l ρ).bind fun ds ρ => match ρ[i]? with
        | some (.own p d) => (ofO (muf m d ds) ρ).bind fun r ρ => .ok (r.1, false) (ρ.set i (.own p r.2))
        | _ => .bad) := c
      obtain ⟨a0, xs0, rfl, ha0, _⟩ := rr
      refine ⟨.inl ⟨rfl, xs0, .of ha0⟩, W, ρ, rel, (c1.bind rel).mono fun ds ρ1 H1 W1 s ⟨_, c2⟩ vs hvs => ?_⟩
      cases q : ρ1[i]? with
      | none => rw [q] at c2; exact c2.elim
      | some cl =>
        rw [q] at c2
        cases cl with
        | own p d =>
          have c3 : Cont N Wx σ ρ1 H1 W1 (KE N H0 Q) ((ofO (muf m d ds) ρ1).bind fun r ρ => .ok (r.1, false) (ρ.set i (.own p r.2))) := c2
          obtain ⟨r, hr, c4⟩ := c3.ofO
          obtain ⟨a, e2, w, o⟩ := s.rel.slot i _ q
          rw [ev1] at e2
          cases e2
          cases d with
          | lst ls =>
            obtain ⟨xs, hxs, rp⟩ := o
            exact ⟨ρ1, W1, a0, p, xs, ds, r.2, ls, r.1, s.rel, rfl, w, q, hxs, rp, hvs, hr, c4⟩
          | _ => cases m <;> cases hr
        | _ => exact c2.elim
    | _ => exact c.elim
  · rw [e1] at c; exact c.elim
theorem r_append {eo ea : Expr} {i : Nat} {a : E} {x : Str} {apos pos : Pos} (hK : X.K = N.K) (hx : x = "append") (hn : notStar ea = true) (hb : notCall eo = true) (hl : (apos.endLine == pos.line) = true)
    (ho : PE X eo (tVar i)) (ha : Rdr N Wx X ea a (ev C G a)) : Rdr N Wx X (.Call (.Attribute eo x apos) [ea] [] pos) (.mut .append i (.cons a .nil)) (ev C G (.mut .append i (.cons a .nil))) := by
  subst hx
  refine r_of (peImp (pe_bm F.plainAttrs_list F.slot_list_append F.type_list_append mt_append ho (as_cons C G hn ha (as_nil C G)) (attr_base hb) (by rw [star_cons hn] <;> rfl) hl (star_cons hn _ _)) fun σ H Q hq => ?_) fun _ e => nomatch e
  obtain ⟨W, ρ, rel, c⟩ := hq
  have hv : ∃ v, σ[i]? = some (some v) := by
    have c' : Cont N Wx σ ρ H W (KE N H Q) ((PX.rd i ρ).bind fun d ρ => if d.isLst then (evs C G (.cons a .nil) ρ).bind fun ds ρ => match ρ[i]? with
      | some (.own p d) => (ofO (muf .append d ds) ρ).bind fun r ρ => .ok (r.1, false) (ρ.set i (.own p r.2))
      | _ => .bad else .bad) := c
    rcases rd_cases i ρ with ⟨d, e1⟩ | e1
    · obtain ⟨_, v, h, _⟩ := rel.rd e1; exact ⟨v, h⟩
    · rw [e1] at c'; exact c'.elim
  obtain ⟨v, ev1⟩ := hv
  obtain ⟨ty, k⟩ := mut_cont (N := N) (Wx := Wx) C G rel ev1 c
  refine ⟨v, ev1, by rw [hK]; exact ty, ?_⟩
  obtain ⟨W0, ρ0, rel0, k⟩ := k
  refine ⟨W0, ρ0, rel0, k.mono fun ds ρ1 H1 W1 _ k vs hvs => ?_⟩
  obtain ⟨ρ2, W2, b, p, xs, es, d, ls, r, rel2, rfl, w, q, hxs, rp, hes, hm, c2⟩ := k vs hvs
  cases es with
  | nil => cases hm
  | cons y t => cases t with
    | cons _ _ => cases hm
    | nil =>
      obtain ⟨u, rest, rfl, hu, hr⟩ := hes
      cases hr
      by_cases hle : ls.length < lim
      · rw [show muf .append (.lst ls) [y] = some (.none, .lst (ls ++ [y])) by simp only [muf, if_pos hle]] at hm
        cases hm
        refine ⟨b, xs, u, rfl, rfl, hxs, by rw [← rp.length, ← lim_eq]; exact hle, ?_⟩
        exact c2 _ _ (rel2.write (o := .lst (xs ++ [u])) q ev1 trivial ⟨_, upd_same, Reps.append (reps_upd rel2 w hxs trivial rp) (reps_upd rel2 w hxs trivial ⟨u, [], rfl, hu, rfl⟩)⟩) .non rfl
      · rw [show muf .append (.lst ls) [y] = none by simp only [muf, if_neg hle]] at hm
        cases hm
theorem mut_slot {m : MU} {i : Nat} {l : E} {Q : VK} (rel : RelS N H W σ ρ) (c : Cont N Wx σ ρ H W (KE N H0 Q) ((PX.rd i ρ).bind fun d ρ => if d.isLst then (evs C G l ρ).bind fun ds ρ => match ρ[i]? with
    | some (.own p d) => (ofO (muf m d ds) ρ).bind fun r ρ => .ok (r.1, false) (ρ.set i (.own p r.2))
    | _ => .bad else .bad)) : ∃ v, σ[i]? = some (some v) := by
  rcases rd_cases i ρ with ⟨d, e1⟩ | e1
  · obtain ⟨_, v, h, _⟩ := rel.rd e1; exact ⟨v, h⟩
  · rw [e1] at c; exact c.elim
theorem r_extend {eo ea : Expr} {i : Nat} {a : E} {x : Str} {apos pos : Pos} (hK : X.K = N.K) (hx : x = "extend") (hn : notStar ea = true) (hb : notCall eo = true) (hl : (apos.endLine == pos.line) = true)
    (ho : PE X eo (tVar i)) (ha : Rdr N Wx X ea a (ev C G a)) : Rdr N Wx X (.Call (.Attribute eo x apos) [ea] [] pos) (.mut .extend i (.cons a .nil)) (ev C G (.mut .extend i (.cons a .nil))) := by
  subst hx
  refine r_of (peImp (pe_bm F.plainAttrs_list F.slot_list_extend F.type_list_extend mt_extend ho (as_cons C G hn ha (as_nil C G)) (attr_base hb) (by rw [star_cons hn] <;> rfl) hl (star_cons hn _ _)) fun σ H Q hq => ?_) fun _ e => nomatch e
  obtain ⟨W, ρ, rel, c⟩ := hq
  obtain ⟨v, ev1⟩ := mut_slot (N := N) (Wx := Wx) C G rel c
  obtain ⟨ty, k⟩ := mut_cont (N := N) (Wx := Wx) C G rel ev1 c
  refine ⟨v, ev1, by rw [hK]; exact ty, ?_⟩
  obtain ⟨W0, ρ0, rel0, k⟩ := k
  refine ⟨W0, ρ0, rel0, k.mono fun ds ρ1 H1 W1 _ k vs hvs => ?_⟩
  obtain ⟨ρ2, W2, b, p, xs, es, d, ls, r, rel2, rfl, w, q, hxs, rp, hes, hm, c2⟩ := k vs hvs
  cases es with
  | nil => cases hm
  | cons y t => cases t with
    | cons _ _ => cases y <;> cases hm
    | nil =>
      obtain ⟨u, rest, rfl, hu, hr⟩ := hes
      cases hr
      cases y with
      | lst ms =>
        by_cases hle : ls.length + ms.length ≤ lim
        · rw [show muf .extend (.lst ls) [.lst ms] = some (.none, .lst (ls ++ ms)) by simp only [muf, if_pos hle]] at hm
          cases hm
          obtain ⟨b2, zs, rfl, nw, hz, rz⟩ := hu
          refine ⟨b, b2, xs, zs, rfl, rfl, hxs, hz, by rw [← rp.length, ← rz.length, ← lim_eq]; exact hle, ?_⟩
          exact c2 _ _ (rel2.write (o := .lst (xs ++ zs)) q ev1 trivial ⟨_, upd_same, Reps.append (reps_upd rel2 w hxs trivial rp) (reps_upd rel2 w hxs trivial rz)⟩) .non rfl
        · rw [show muf .extend (.lst ls) [.lst ms] = none by simp only [muf, if_neg hle]] at hm
          cases hm
      | _ => cases hm
theorem r_insert {eo ek ea : Expr} {i : Nat} {k a : E} {x : Str} {apos pos : Pos} (hK : X.K = N.K) (hx : x = "insert") (hn : notStar ek = true) (hn' : notStar ea = true) (hb : notCall eo = true) (hl : (apos.endLine == pos.line) = true)
    (ho : PE X eo (tVar i)) (hk : Rdr N Wx X ek k (ev C G k)) (ha : Rdr N Wx X ea a (ev C G a)) : Rdr N Wx X (.Call (.Attribute eo x apos) [ek, ea] [] pos) (.mut .insert i (.cons k (.cons a .nil))) (ev C G (.mut .insert i (.cons k (.cons a .nil)))) := by
  subst hx
  refine r_of (peImp (pe_bm F.plainAttrs_list F.slot_list_insert F.type_list_insert L2.mt_insert ho (as_cons C G hn hk (as_cons C G hn' ha (as_nil C G))) (attr_base hb) (by rw [star_cons hn, star_cons hn'] <;> rfl) hl (star_cons hn _ _) (star_any (by simp [hn']))) fun σ H Q hq => ?_) fun _ e => nomatch e
  obtain ⟨W, ρ, rel, c⟩ := hq
  obtain ⟨v, ev1⟩ := mut_slot (N := N) (Wx := Wx) C G rel c
  obtain ⟨ty, kk⟩ := mut_cont (N := N) (Wx := Wx) C G rel ev1 c
  refine ⟨v, ev1, by rw [hK]; exact ty, ?_⟩
  obtain ⟨W0, ρ0, rel0, kk⟩ := kk
  refine ⟨W0, ρ0, rel0, kk.mono fun ds ρ1 H1 W1 _ kk vs hvs => ?_⟩
  obtain ⟨ρ2, W2, b, p, xs, es, d, ls, r, rel2, rfl, w, q, hxs, rp, hes, hm, c2⟩ := kk vs hvs
  cases es with
  | nil => cases hm
  | cons y t => cases t with
    | nil => cases y <;> cases hm
    | cons z t => cases t with
      | cons _ _ => cases y <;> cases hm
      | nil =>
        obtain ⟨u, rest, rfl, hu, z1, rest1, rfl, hz1, hr⟩ := hes
        cases hr
        cases y with
        | int m =>
          have hu' : u = .int m := hu
          subst hu'
          by_cases hle : ls.length < lim ∧ 0 ≤ m ∧ m < 2 ^ 63
          · rw [show muf .insert (.lst ls) [.int m, z] = some (.none, .lst (ls.take m.toNat ++ z :: ls.drop m.toNat)) by simp only [muf, if_pos hle]] at hm
            cases hm
            refine ⟨b, xs, m, z1, rfl, rfl, hxs, by rw [← rp.length, ← lim_eq]; exact hle.1, hle.2.1, hle.2.2, ?_⟩
            have rp' := reps_upd (o := .lst (xs.take m.toNat ++ [z1] ++ xs.drop m.toNat)) rel2 w hxs trivial rp
            have rz' := reps_upd (o := .lst (xs.take m.toNat ++ [z1] ++ xs.drop m.toNat)) (ds := [z]) (vs := [z1]) rel2 w hxs trivial ⟨z1, [], rfl, hz1, rfl⟩
            have rr : Reps N (upd H1 b (.lst (xs.take m.toNat ++ [z1] ++ xs.drop m.toNat))) W2 (ls.take m.toNat ++ z :: ls.drop m.toNat) (xs.take m.toNat ++ [z1] ++ xs.drop m.toNat) :=
              Eq.mpr (congrArg (fun t => Reps N (upd H1 b (.lst (xs.take m.toNat ++ [z1] ++ xs.drop m.toNat))) W2 (ls.take m.toNat ++ z :: ls.drop m.toNat) t) (List.append_assoc _ _ _)) (Reps.append (rp'.take m.toNat) (Reps.append rz' (rp'.drop m.toNat)))
            exact c2 _ _ (rel2.write (o := .lst (xs.take m.toNat ++ [z1] ++ xs.drop m.toNat)) q ev1 trivial ⟨_, upd_same, rr⟩) .non rfl
          · rw [show muf .insert (.lst ls) [.int m, z] = none by simp only [muf, if_neg hle]] at hm
            cases hm
        | _ => cases hm
end
end PX

end

section
set_option Elab.async false
set_option linter.all false
set_option autoImplicit false
set_option maxRecDepth 100000
/-! enumerate(tuple): the library has enumerate(list) at this layer -/
namespace PX
open PySem PySem.Spec PyProof.Rows L2
set_option maxHeartbeats 1000000 in
theorem meets_enum1 {v : Value} {o : Obj} {H : Heap → Prop} (B : Begins v o H) :
    Meets (Builtin.«enumerate.__new__» ⟨[.type "enumerate", v], []⟩) (fun _ R s => H s.heap ∧
      R (.ok (.ret (.ref (s.heap.push o).objs.size))) { s with heap := (s.heap.push o).push { cls := .type "enumerate", data := .fields #[.none, .bool false, .ref s.heap.objs.size, rawInt 0, .none, .none] } }) :=
  .of_wp fun prog w A R s h => by
    obtain ⟨hp, g, d, tk, os⟩ := s; obtain ⟨h1, h⟩ := h
    have hsub := sub_enumerate
    have q1 : ∀ {A' : Around} {E : Value → Shared → Prop} {Q : Value → Shared → Prop}, Q (.ref hp.objs.size) ⟨hp.push o, g, d, tk, os⟩ → wpAny (model prog w) A' (pyIter v) Q E ⟨hp, g, d, tk, os⟩ :=
      fun q => B.iter prog w _ _ ⟨hp, g, d, tk, os⟩ _ h1 q
    wp_walk using q1
    refine wpAny_stack_any fun st => wpAny_pure ?_
    split
    · rename_i c _ _ _ _ _
      cases (c == Value.type "enumerate")
      · wp_walk using q1
        exact ⟨_, rfl, h⟩
      · wp_walk using q1
        exact ⟨_, rfl, h⟩
    · wp_walk using q1
      exact ⟨_, rfl, h⟩
theorem call_enum1 {prog : Program} {w : World} {A : Around} {E : Value → Shared → Prop} {s : Shared} {v : Value} {o : Obj} {H : Heap → Prop} {Q : Value → Shared → Prop} (B : Begins v o H) (h1 : H s.heap)
    (h : ∀ h', IsEnum h' (s.heap.objs.size + 1) s.heap.objs.size 0 .none → h'.get? s.heap.objs.size = some o → h'.objs.size = s.heap.objs.size + 2 →
      (∀ b o, s.heap.get? b = some o → h'.get? b = some o) → Q (.ref (s.heap.objs.size + 1)) { s with heap := h' }) :
    wpAny (model prog w) A (call (.type "enumerate") [v]) Q E s := by
  refine callType_new F.called_enumerate (by decide) (F.typeCall_enumerate_1 _) (F.newCall_enumerate_1 _) (fun obj => F.args_object_init_2 obj _) F.entry_enumerate_new
    (meets_enum1 B) ⟨h1, ?_⟩
  have hz : (s.heap.push o).objs.size = s.heap.objs.size + 1 := Heap.size_push ..
  show _ ∧ _
  rw [hz]
  have he : IsEnum ((s.heap.push o).push { cls := .type "enumerate", data := .fields #[.none, .bool false, .ref s.heap.objs.size, rawInt 0, .none, .none] }) (s.heap.objs.size + 1) s.heap.objs.size 0 .none := by
    have := Heap.get?_push_size (s.heap.push o) (o := { cls := .type "enumerate", data := .fields #[.none, .bool false, .ref s.heap.objs.size, rawInt 0, .none, .none] }) rfl
    rw [hz] at this; exact this
  refine ⟨⟨_, he, rfl⟩, h _ he (Heap.get?_push_of_some _ (Heap.get?_push_size _ B.free)) (by rw [Heap.size_push, hz]) fun b o x => Heap.get?_push_of_some _ (Heap.get?_push_of_some _ x)⟩
/-- the tuple at a, each item in a new pair -/
def IteT (K : PySem.W.Frag) (a : Addr) : It :=
  ⟨fun i H => ∃ (xs : List V) (x : V), SqT K H a xs ∧ xs[i]? = some x, fun i H v H' => ∃ T x, v = .ref T ∧ H T = none ∧ H' = upd H T (.tup [.int (i : Nat), x]) ∧ ∀ xs, SqT K H a xs → xs[i]? = some x, fun i H => ∃ xs : List V, SqT K H a xs ∧ xs.length ≤ i⟩
theorem turn_enumT {P : Program} {w : World} {K : PySem.W.Frag} {elts : List Expr} {kk : Nat} {tpos : Pos} (a e it : Addr) (hai : a ≠ it) (hae : a ≠ e) :
    Turn P w K (.Tuple elts kk tpos) (IteT K a) [e, it] e (fun i h => (∃ old, IsEnum h e it ((i : Nat) : Int) old) ∧ h.IsTupleIter it a i ∧ e ≠ it) where
  mem := by simp
  obj := fun i h st b hb => by
    obtain ⟨⟨old, he⟩, ⟨o, ho, hc, hd⟩, _⟩ := st
    have e' : b = e ∨ b = it := by simpa using hb
    rcases e' with z | z
    · rw [z]; exact ⟨_, he, fun v q => nomatch q⟩
    · rw [z]; exact ⟨o, ho, fun v q => by rw [hd] at q; cases q⟩
  keep := fun i h h' st k => let ⟨⟨old, he⟩, hi, hne⟩ := st; ⟨⟨old, k e (by simp) _ he⟩, hi.at fun o q => k it (by simp) o q, hne⟩
  item := by
    intro X hP hw hK hc i pins s σ H E I hf st hg
    subst hP hw hK
    obtain ⟨⟨old, he⟩, hit, hne⟩ := st
    obtain ⟨xs, x, hq, hx⟩ := hg
    obtain ⟨its, rv, p, hz⟩ := I.tuple hq
    obtain ⟨u, hu, ru⟩ := rv.get hx
    have hel : e < s.heap.objs.size := Heap.lt_size he
    have hil : it < s.heap.objs.size := by obtain ⟨_, q, _⟩ := hit; exact Heap.lt_size q
    have hlt : i < its.toArray.size := by
      rw [List.size_toArray]
      exact (List.getElem?_eq_some_iff.mp hu).1
    have D := Draws.tuple (prog := X.prog) (w := X.w) (A := X.A.in1) (I.ok.hd hc) it a hai its.toArray
    refine wpAny_pyNext_enum_itemD D he ⟨hit, show s.heap.IsTuple a its.toArray from p⟩ hlt hne (fun z => by
      have z' : e = it ∨ e = a := by simpa using z
      rcases z' with z | z
      · exact hne z
      · exact hae z.symm) fun y h' tk hy ho hst' hT hsz hk => ?_
    have ey : y = u := by
      have hy' : its.toArray[i]? = some y := hy
      have : its.toArray[i]? = some u := by simpa using hu
      rw [this] at hy'
      cases hy'; rfl
    subst ey
    refine ⟨_, rfl, wpAny_letOwnedTupleGo_enum (s := { s with heap := h', toks := tk + 1 }) ho fun h'' he' sb => ?_⟩
    have hT2 : h''.get? s.heap.objs.size = some { cls := .type "tuple", data := .seq #[.int i tk, y] } := (sb.2 _ (Nat.ne_of_gt hel)).trans hT
    have new : ObjOk X.prog X.w (upd H s.heap.objs.size (.tup [.int (i : Nat), x])) h'' s.heap.objs.size (.tup [.int (i : Nat), x]) :=
      ⟨by show 2 ≤ sizeLine; decide, [.int i tk, y], .cons ⟨_, rfl⟩ (.cons ru .nil), ⟨_, hT2, rfl, _, rfl⟩⟩
    have I1 : Inv X pins σ (upd H s.heap.objs.size (.tup [.int (i : Nat), x])) { s with heap := h'', toks := tk + 1 } :=
      I.turnedNew (ch := [e, it]) (fun b ob hb q => (sb.2 b (fun z => hb (by simp [z]))).trans (hk b ob (fun z => hb (by simp [z])) (fun z => hb (by simp [z])) q)) hf (Nat.le_refl _) new
    refine ⟨.ref s.heap.objs.size, _, I1, rfl, ⟨_, x, rfl, I.hok.fresh (Nat.le_refl _), rfl, fun ys hy => by rw [I.tuple_inj hy hq]; exact hx⟩, ⟨⟨y, ?_⟩, hst'.1.at fun o q => (sb.2 it (Ne.symm hne)).trans q, hne⟩, fun b hb => ?_⟩
    · have e1 : ((i + 1 : Nat) : Int) = (i : Int) + 1 := by omega
      rw [e1]; exact he'
    · have hb' : b < s.heap.objs.size := by
        have e' : b = e ∨ b = it := by simpa using hb
        rcases e' with z | z
        · rw [z]; exact hel
        · rw [z]; exact hil
      rw [upd_ne (Nat.ne_of_lt hb')]
      exact (hf b hb).1
  done := by
    intro X hP hw hK hc i pins s σ H E I hf st hg
    subst hP hw hK
    obtain ⟨⟨old, he⟩, hit, hne⟩ := st
    obtain ⟨xs, hq, hx⟩ := hg
    obtain ⟨its, rv, p, hz⟩ := I.tuple hq
    obtain ⟨f0, f1, f2, f3, f4, f5⟩ := hf it (by simp)
    have hl := rv.length
    have D0 : Draws X.prog X.w X.A.in1 it [it, a] i (fun _ _ => True) (fun j h => j = i ∧ h.IsTupleIter it a i ∧ h.IsTuple a its.toArray) :=
      ⟨fun _ _ st => let ⟨o, ho, _⟩ := st.2.1; ⟨o, ho⟩, fun _ _ _ st hk => ⟨st.1, st.2.1.at fun o e => hk it (by simp) o e, st.2.2.at fun o e => hk a (by simp) o e⟩,
        fun j s Q E hj st => absurd st.1 (Nat.ne_of_lt hj), fun s Q E st hE => PySem.wpAny_nextOf_tuple_end (I.ok.hd hc) st.2.1 st.2.2 (by simp; omega) hE⟩
    exact wpAny_pyNext_enum_endD D0 he ⟨rfl, hit, show s.heap.IsTuple a its.toArray from p⟩ fun h' eb => ⟨rfl, I.turned (t' := s.toks) (fun b o hb q => eb b o hb q) f0 f1 f3 f4 f5⟩
  self := fun A i s Q E st h => let ⟨⟨_, he⟩, _⟩ := st; wpAny_pyIter_enum he h
/-- enumerate of a list, of a tuple -/
def iEnumA (K : PySem.W.Frag) (ta : TA) : TI := fun σ H R => ta σ H fun vs H1 => ∃ a xs, vs = [.ref a] ∧ ((SqL K H1 a xs ∧ R (Ite K a) H1) ∨ (SqT K H1 a xs ∧ R (IteT K a) H1))
theorem pi_enumA {X : Cx} {e : Expr} {ta : TA} {p pos tpos : Pos} {elts : List Expr} {kk : Nat} (hg : Gl X "enumerate") (hm : X.mg "enumerate" = none) (ha : PA X [e] ta) (hs : starEach [e] X.env = [(false, eval e X.env)]) :
    PI X (.Tuple elts kk tpos) (.Call (.Name "enumerate" p) [e] [] pos) (iEnumA X.K ta) := by
  refine ⟨fun pins s σ H R I h => ?_⟩
  refine Call_ (ld_blt I hg hm boot_enumerate (PyProof.Rows.callWith_type1 (thn (ha.run pos pins s σ H _ I h) fun us s1 ⟨vs, H1, I1, r1, q1⟩ => ?_) hs rfl))
  obtain ⟨a, xs, ex, q1⟩ := q1
  subst ex
  cases r1 with
  | cons r rr =>
    cases rr
    cases r
    have fp : ∀ b ∈ [s1.heap.objs.size + 1, s1.heap.objs.size], FpOk X pins H1 b := fun b hb => by
      have e' : b = s1.heap.objs.size + 1 ∨ b = s1.heap.objs.size := by simpa using hb
      have hle : s1.heap.objs.size ≤ b := by
        rcases e' with z | z
        · rw [z]; exact Nat.le_add_right _ _
        · rw [z]; exact Nat.le_refl _
      exact I1.fpOk hle (I1.hok.fresh hle)
    rcases q1 with ⟨hq, q⟩ | ⟨hq, q⟩
    · obtain ⟨its, rv, p', hz⟩ := I1.list hq
      refine call_enumerate_list p'.isList fun h' he hit hsz hk => wpAny_pyIter_enum he ?_
      have I2 : Inv X pins σ H1 { s1 with heap := h' } := I1.kept (t' := s1.toks) hk
      exact ⟨s1.heap.objs.size + 1, [s1.heap.objs.size + 1, s1.heap.objs.size], _, _, H1, rfl, I2, turn_enum a (s1.heap.objs.size + 1) s1.heap.objs.size, ⟨⟨.none, he⟩, hit, Nat.succ_ne_self _⟩, fp, q⟩
    · obtain ⟨its, rv, p', hz⟩ := I1.tuple hq
      obtain ⟨oa, hoa, _⟩ := id p'
      have hal : a < s1.heap.objs.size := Heap.lt_size hoa
      refine call_enum1 (begins_tuple a its.toArray) (show s1.heap.IsTuple a its.toArray from p') fun h' he hit hsz hk => wpAny_pyIter_enum he ?_
      have I2 : Inv X pins σ H1 { s1 with heap := h' } := I1.kept (t' := s1.toks) hk
      exact ⟨s1.heap.objs.size + 1, [s1.heap.objs.size + 1, s1.heap.objs.size], _, _, H1, rfl, I2, turn_enumT a (s1.heap.objs.size + 1) s1.heap.objs.size (Nat.ne_of_lt hal) (Nat.ne_of_lt (Nat.lt_succ_of_lt hal)),
        ⟨⟨.none, he⟩, ⟨_, hit, rfl, rfl⟩, Nat.succ_ne_self _⟩, fp, q⟩
/-- a list or a tuple, item by item -/
def iSeqA (K : PySem.W.Frag) (tl : TE) : TI := fun σ H R => tl σ H fun x H1 => ∃ a xs, x = .ref a ∧ ((SqL K H1 a xs ∧ R (Itl K a) H1) ∨ (SqT K H1 a xs ∧ R (Itt K a) H1))
theorem pi_seqA {X : Cx} {tg l : Expr} {tl : TE} (hl : PE X l tl) : PI X tg l (iSeqA X.K tl) := by
  refine ⟨fun pins s σ H R I h => ?_⟩
  refine thn (hl.run pins s σ H _ I h) fun v s1 ⟨x, H1, I1, r1, q1⟩ => ?_
  obtain ⟨a, xs, e, q1⟩ := q1
  subst e
  cases r1
  rcases q1 with ⟨hq, q⟩ | ⟨hq, q⟩
  · obtain ⟨its, rv, p, hz⟩ := I1.list hq
    refine wpAny_pyIter_list p.isList ?_
    refine ⟨s1.heap.objs.size, [s1.heap.objs.size], _, _, H1, rfl, I1.kept (t' := s1.toks) fun b o e => Heap.get?_push_of_some _ e, turn_list a _, ⟨_, Heap.get?_push_size _ rfl, rfl, rfl⟩, fun b hb => ?_, q⟩
    have e : b = s1.heap.objs.size := by simpa using hb
    subst e
    exact I1.fpOk (Nat.le_refl _) (I1.hok.fresh (Nat.le_refl _))
  · obtain ⟨its, rv, p, hz⟩ := I1.tuple hq
    refine wpAny_pyIter_tuple (show s1.heap.IsTuple a its.toArray from p) ?_
    refine ⟨s1.heap.objs.size, [s1.heap.objs.size], _, _, H1, rfl, I1.kept (t' := s1.toks) fun b o e => Heap.get?_push_of_some _ e, turn_tuple a _, ⟨_, Heap.get?_push_size _ rfl, rfl, rfl⟩, fun b hb => ?_, q⟩
    have e : b = s1.heap.objs.size := by simpa using hb
    subst e
    exact I1.fpOk (Nat.le_refl _) (I1.hok.fresh (Nat.le_refl _))
end PX

end

section
set_option Elab.async false
set_option linter.all false
set_option autoImplicit false
set_option maxRecDepth 100000
set_option maxHeartbeats 1000000
/-! zip of two tuples whose pairs are kept (for p in zip(..), list(zip(..))): the pair given last may be out or gone -/
namespace PX
open PySem PySem.Spec PyProof.Rows L2 RZ
section
variable {prog : Program} {w : World} {A : Around} {E : Value → Shared → Prop} {s : Shared}
abbrev IsZipF (h : Heap) (z TI TO : Addr) (f0 : Value) (f1 : Bool) : Prop := h.get? z = some { cls := .type "zip", dict := none, data := .fields #[f0, .bool f1, .bool false, .ref TI, .ref TO], slots := #[] }
def F0k (f0 : Value) : Prop := f0 = .none ∨ ∃ T : Addr, f0 = rawInt T
theorem alive_any {a : Addr} {Q : Option Obj → Shared → Prop} (h : Q (s.heap.get? a) s) : wpAny (model prog w) A (loadIfAlive a) Q E s := fun _ _ _ => h
theorem free_any {z TI TO : Addr} {f0 : Value} {f1 : Bool} {Q : Bool → Shared → Prop} (hz : IsZipF s.heap z TI TO f0 f1) (hf : F0k f0) (q1 : Q true s) (q2 : ∀ h', IsZipF h' z TI TO f0 true → Heap.SameBut z s.heap h' → Q false { s with heap := h' }) :
    wpAny (model prog w) A (Builtin.SmallTypes.ownedTupleIsFree (.ref z)) Q E s := by
  unfold Builtin.SmallTypes.ownedTupleIsFree
  refine wpAny_bind (wpAny_field hz rfl (x := f0) rfl ?_)
  rcases hf with rfl | ⟨T, rfl⟩
  · exact wpAny_pure q1
  show wpAny _ _ (loadIfAlive ((T : Int).toNat) >>= _) _ _ _
  rw [Int.toNat_natCast]
  refine wpAny_bind (alive_any ?_)
  cases s.heap.get? T with
  | none => exact wpAny_pure q1
  | some o =>
    simp only [Option.isNone_some, Bool.false_eq_true, if_false]
    refine wpAny_bind (wpAny_field hz rfl (x := .bool f1) rfl ?_)
    cases f1 with
    | true =>
      rw [if_neg (show ¬ ((Value.bool true != Value.bool true) = true) from Bool.false_ne_true)]
      exact wpAny_pure (q2 s.heap hz (Heap.SameBut.refl _ _))
    | false =>
      rw [if_pos (show (Value.bool false != Value.bool true) = true from rfl)]
      exact wpAny_bind (wpAny_setField_rec hz (by simp) fun g hz1 hs1 => wpAny_pure (q2 g hz1 hs1))
/-- an item, whatever became of the pair given last -/
theorem zipF_item {z TI TO i1 i2 l1 l2 : Addr} {k1 k2 : Nat} {xs ys : Array Value} {x y a b f0 : Value} {f1 : Bool} {Q : Value → Shared → Prop} (D : ZipApart z TI TO i1 i2 l1 l2)
    (hz : IsZipF s.heap z TI TO f0 f1) (hf : F0k f0) (hTI : IsPair s.heap TI (.ref i1) (.ref i2)) (hTO : IsPair s.heap TO a b)
    (h1 : s.heap.IsTupleIter i1 l1 k1) (h2 : s.heap.IsTupleIter i2 l2 k2) (hl1 : s.heap.IsTuple l1 xs) (hl2 : s.heap.IsTuple l2 ys) (hx : xs[k1]? = some x) (hy : ys[k2]? = some y)
    (hQ : ∀ h' g0 g1, F0k g0 → IsZipF h' z TI TO g0 g1 → (∃ a b, IsPair h' TO a b) → h'.IsTupleIter i1 l1 (k1 + 1) → h'.IsTupleIter i2 l2 (k2 + 1) → IsPair h' s.heap.objs.size x y → h'.objs.size = s.heap.objs.size + 1 →
      (∀ c o, c ≠ z → c ≠ TO → c ≠ i1 → c ≠ i2 → s.heap.get? c = some o → h'.get? c = some o) → Q (.ref s.heap.objs.size) { s with heap := h' }) :
    wpAny (model prog w) A (Builtin.«zip.__next__» ⟨[.ref z], []⟩) (fun fin s' => ∃ v, fin = .done (.ret v) ∧ Q v s') E s := by
  show wpAny _ _ (field (.ref z) 2 >>= _) _ _ _
  refine wpAny_bind (wpAny_field hz rfl (x := .bool false) rfl ?_)
  show wpAny _ _ (field (.ref z) 3 >>= _) _ _ _
  refine wpAny_bind (wpAny_field hz rfl (x := .ref TI) rfl (wpAny_bind (wpAny_seqItems hTI rfl ?_)))
  show wpAny _ _ (Builtin.SmallTypes.ownedTupleIsFree (.ref z) >>= _) _ _ _
  refine wpAny_bind (free_any hz hf ?_ fun g1 hz1 hs1 => ?_)
  · simp only [if_true]
    refine wpAny_bind (wpAny_rule (wpAny_bind (wpAny_field hz rfl (x := .ref TO) rfl ?_)))
    refine wpAny_bind (wpAny_setField_rec hz (by simp) fun h₁ hz₁ hs₁ => ?_)
    replace hz₁ : IsZipF h₁ z TI TO .ellipsis f1 := hz₁
    refine wpAny_bind ?_
    simp only [List.zipIdx_cons, List.zipIdx_nil, List.forIn_cons, List.forIn_nil]
    refine wpAny_bind (wpAny_bind (wpAny_onRaise ?_))
    show wpAny _ _ (Builtin.SmallTypes.nextOf (.ref i1) >>= _) _ _ _
    refine wpAny_bind (nextOf_tuple_item (h1.extBut hs₁.extBut D.i1z) (hl1.extBut hs₁.extBut D.l1z) hx fun h₂ h1₂ hs₂ => wpAny_pure ?_)
    have hTO₂ : IsPair h₂ TO a b := hs₂.extBut _ _ D.TOi1 (hs₁.extBut _ _ D.TOz hTO)
    refine wpAny_bind (wpAny_seqItems hTO₂ rfl (wpAny_bind (wpAny_updateSeq_pair hTO₂ fun h₃ hTO₃ hs₃ => ?_)))
    replace hTO₃ : IsPair h₃ TO x b := hTO₃
    refine wpAny_bind (wpAny_letGo (wpAny_pure (wpAny_bind (wpAny_bind (wpAny_onRaise ?_)))))
    show wpAny _ _ (Builtin.SmallTypes.nextOf (.ref i2) >>= _) _ _ _
    refine wpAny_bind (nextOf_tuple_item (((h2.extBut hs₁.extBut D.i2z).extBut hs₂.extBut D.i12.symm).extBut hs₃.extBut D.TOi2.symm)
      (((hl2.extBut hs₁.extBut D.l2z).extBut hs₂.extBut D.l2i1).extBut hs₃.extBut D.l2TO) hy fun h₄ h2₄ hs₄ => wpAny_pure ?_)
    have hTO₄ : IsPair h₄ TO x b := hs₄.extBut _ _ D.TOi2 hTO₃
    refine wpAny_bind (wpAny_seqItems hTO₄ rfl (wpAny_bind (wpAny_updateSeq_pair hTO₄ fun h₅ hTO₅ hs₅ => ?_)))
    replace hTO₅ : IsPair h₅ TO x y := hTO₅
    refine wpAny_bind (wpAny_letGo (wpAny_pure (wpAny_pure (wpAny_bind (wpAny_seqItems hTO₅ rfl (wpAny_bind (wpAny_newTuple ?_)))))))
    have hsz : h₅.objs.size = s.heap.objs.size := by rw [hs₅.1, hs₄.1, hs₃.1, hs₂.1, hs₁.1]
    have hz₅ : IsZipF h₅ z TI TO .ellipsis f1 := hs₅.extBut _ _ D.TOz.symm (hs₄.extBut _ _ D.i2z.symm (hs₃.extBut _ _ D.TOz.symm (hs₂.extBut _ _ D.i1z.symm hz₁)))
    have hk₅ : ∀ c o, c ≠ z → c ≠ TO → c ≠ i1 → c ≠ i2 → s.heap.get? c = some o → h₅.get? c = some o := fun c o c1 c2 c3 c4 e =>
      hs₅.extBut _ _ c2 (hs₄.extBut _ _ c4 (hs₃.extBut _ _ c2 (hs₂.extBut _ _ c3 (hs₁.extBut _ _ c1 e))))
    have h1₅ : h₅.IsTupleIter i1 l1 (k1 + 1) := ((h1₂.extBut hs₃.extBut D.TOi1.symm).extBut hs₄.extBut D.i12).extBut hs₅.extBut D.TOi1.symm
    have h2₅ : h₅.IsTupleIter i2 l2 (k2 + 1) := h2₄.extBut hs₅.extBut D.TOi2.symm
    have hzlt : z < h₅.objs.size := Heap.lt_size hz₅
    show wpAny _ _ (Builtin.SmallTypes.ownedTupleHandOut (.ref z) (.ref h₅.objs.size) >>= _) _ _ _
    refine wpAny_bind ?_
    unfold Builtin.SmallTypes.ownedTupleHandOut
    have hz₆ : IsZipF (h₅.push { cls := .type "tuple", data := .seq #[x, y] }) z TI TO .ellipsis f1 := Heap.get?_push_of_some _ hz₅
    refine wpAny_bind (wpAny_setField_rec hz₆ (by simp) fun h₇ hz₇ hs₇ => ?_)
    replace hz₇ : IsZipF h₇ z TI TO (rawInt h₅.objs.size) f1 := hz₇
    refine wpAny_setField_rec hz₇ (by simp) fun h₈ hz₈ hs₈ => ?_
    replace hz₈ : IsZipF h₈ z TI TO (rawInt h₅.objs.size) false := hz₈
    have up : ∀ c o, c ≠ z → h₅.get? c = some o → h₈.get? c = some o := fun c o c1 e => hs₈.extBut _ _ c1 (hs₇.extBut _ _ c1 (Heap.get?_push_of_some _ e))
    have hT₈ : IsPair h₈ h₅.objs.size x y := hs₈.extBut _ _ (Nat.ne_of_gt hzlt) (hs₇.extBut _ _ (Nat.ne_of_gt hzlt) (Heap.get?_push_size _ rfl))
    have hz8 : h₈.objs.size = h₅.objs.size + 1 := by rw [hs₈.1, hs₇.1, Heap.size_push]
    rw [hsz] at hz₈ hT₈ hz8
    refine wpAny_pure ⟨_, rfl, ?_⟩
    show Q (.ref h₅.objs.size) _
    rw [hsz]
    exact hQ h₈ _ _ (.inr ⟨_, rfl⟩) hz₈ ⟨_, _, up _ _ D.TOz hTO₅⟩ (h1₅.at fun o e => up _ o D.i1z e) (h2₅.at fun o e => up _ o D.i2z e) hT₈ hz8 fun c o c1 c2 c3 c4 e => up c o c1 (hk₅ c o c1 c2 c3 c4 e)
  · simp only [Bool.false_eq_true, if_false]
    refine wpAny_bind ?_
    rw [← Array.forIn_toList]
    simp only [List.forIn_cons, List.forIn_nil]
    refine wpAny_bind (wpAny_bind (wpAny_holding ?_))
    show wpAny _ _ (Builtin.SmallTypes.nextOf (.ref i1) >>= _) _ _ _
    refine wpAny_bind (nextOf_tuple_item (s := { s with heap := g1 }) (h1.extBut hs1.extBut D.i1z) (hl1.extBut hs1.extBut D.l1z) hx fun h₂ h1₂ hs₂ => wpAny_pure (wpAny_pure ?_))
    refine wpAny_bind (wpAny_bind (wpAny_holding ?_))
    show wpAny _ _ (Builtin.SmallTypes.nextOf (.ref i2) >>= _) _ _ _
    refine wpAny_bind (nextOf_tuple_item (s := { s with heap := h₂ }) ((h2.extBut hs1.extBut D.i2z).extBut hs₂.extBut D.i12.symm) ((hl2.extBut hs1.extBut D.l2z).extBut hs₂.extBut D.l2i1) hy fun h₃ h2₃ hs₃ => wpAny_pure (wpAny_pure (wpAny_pure ?_)))
    show wpAny _ _ (newTuple [x, y] >>= _) _ _ _
    refine wpAny_bind (wpAny_newTuple ?_)
    have hsz : h₃.objs.size = s.heap.objs.size := by rw [hs₃.1, hs₂.1, hs1.1]
    have hz₃ : IsZipF h₃ z TI TO f0 true := hs₃.extBut _ _ D.i2z.symm (hs₂.extBut _ _ D.i1z.symm hz1)
    have hk : ∀ c o, c ≠ z → c ≠ i1 → c ≠ i2 → s.heap.get? c = some o → h₃.get? c = some o := fun c o c1 c2 c3 e => hs₃.extBut _ _ c3 (hs₂.extBut _ _ c2 (hs1.extBut _ _ c1 e))
    have h1₃ : h₃.IsTupleIter i1 l1 (k1 + 1) := h1₂.extBut hs₃.extBut D.i12
    refine wpAny_pure ⟨_, rfl, ?_⟩
    show Q (.ref h₃.objs.size) _
    have hp : IsPair (h₃.push { cls := .type "tuple", data := .seq #[x, y] }) h₃.objs.size x y := Heap.get?_push_size _ rfl
    have hz4 : (h₃.push { cls := .type "tuple", data := .seq #[x, y] }).objs.size = h₃.objs.size + 1 := Heap.size_push ..
    rw [hsz] at hp hz4 ⊢
    exact hQ _ _ _ hf (Heap.get?_push_of_some _ hz₃) ⟨_, _, Heap.get?_push_of_some _ (hk _ _ D.TOz D.TOi1 D.TOi2 hTO)⟩ (h1₃.at fun o e => Heap.get?_push_of_some _ e) (h2₃.at fun o e => Heap.get?_push_of_some _ e) hp hz4 fun c o c1 _ c2 c3 e => Heap.get?_push_of_some _ (hk c o c1 c2 c3 e)
theorem zipF_end {z TI TO i1 i2 l1 l2 : Addr} {k1 k2 : Nat} {xs ys : Array Value} {a b f0 : Value} {f1 : Bool} {Q : Fin → Shared → Prop} (hh : A.handled = none) (D : ZipApart z TI TO i1 i2 l1 l2)
    (hz : IsZipF s.heap z TI TO f0 f1) (hf : F0k f0) (hTI : IsPair s.heap TI (.ref i1) (.ref i2)) (hTO : IsPair s.heap TO a b)
    (h1 : s.heap.IsTupleIter i1 l1 k1) (h2 : s.heap.IsTupleIter i2 l2 k2) (hl1 : s.heap.IsTuple l1 xs) (hl2 : s.heap.IsTuple l2 ys) (hend : xs[k1]? = none ∨ ys[k2]? = none)
    (hE : ∀ h' e, (∀ c o, c ≠ z → c ≠ TO → c ≠ i1 → c ≠ i2 → s.heap.get? c = some o → h'.get? c = some o) → (∃ o, h'.get? e = some o ∧ o.cls = .type "StopIteration") → E (.ref e) { s with heap := h' }) :
    wpAny (model prog w) A (Builtin.«zip.__next__» ⟨[.ref z], []⟩) Q E s := by
  show wpAny _ _ (field (.ref z) 2 >>= _) _ _ _
  refine wpAny_bind (wpAny_field hz rfl (x := .bool false) rfl ?_)
  show wpAny _ _ (field (.ref z) 3 >>= _) _ _ _
  refine wpAny_bind (wpAny_field hz rfl (x := .ref TI) rfl (wpAny_bind (wpAny_seqItems hTI rfl ?_)))
  show wpAny _ _ (Builtin.SmallTypes.ownedTupleIsFree (.ref z) >>= _) _ _ _
  refine wpAny_bind (free_any hz hf ?_ fun g1 hz1 hs1 => ?_)
  · simp only [if_true]
    refine wpAny_bind (wpAny_rule (wpAny_bind (wpAny_field hz rfl (x := .ref TO) rfl ?_)))
    refine wpAny_bind (wpAny_setField_rec hz (by simp) fun h₁ hz₁ hs₁ => ?_)
    replace hz₁ : IsZipF h₁ z TI TO .ellipsis f1 := hz₁
    refine wpAny_bind ?_
    simp only [List.zipIdx_cons, List.zipIdx_nil, List.forIn_cons, List.forIn_nil]
    refine wpAny_bind (wpAny_bind (wpAny_onRaise ?_))
    show wpAny _ _ (Builtin.SmallTypes.nextOf (.ref i1) >>= _) _ _ _
    cases hx : xs[k1]? with
    | none =>
      refine wpAny_bind (nextOf_tuple_end hh (h1.extBut hs₁.extBut D.i1z) (hl1.extBut hs₁.extBut D.l1z) hx fun h₂ e hs₂ he => ?_)
      obtain ⟨oe, hoe, hce⟩ := he
      have hz₂ : IsZipF h₂ z TI TO .ellipsis f1 := hs₂ _ _ D.i1z.symm hz₁
      have hez : e ≠ z := fun x => by subst x; rw [hz₂] at hoe; cases hoe; simp at hce
      refine wpAny_setField_rec hz₂ (by simp) fun h₃ _ hs₃ => hE h₃ e (fun c o c1 _ c3 _ x => hs₃.extBut _ _ c1 (hs₂ _ _ c3 (hs₁.extBut _ _ c1 x))) ⟨oe, hs₃.extBut _ _ hez hoe, hce⟩
    | some x =>
      have hy : ys[k2]? = none := by rcases hend with h | h; rw [hx] at h; cases h; exact h
      refine wpAny_bind (nextOf_tuple_item (h1.extBut hs₁.extBut D.i1z) (hl1.extBut hs₁.extBut D.l1z) hx fun h₂ h1₂ hs₂ => wpAny_pure ?_)
      have hTO₂ : IsPair h₂ TO a b := hs₂.extBut _ _ D.TOi1 (hs₁.extBut _ _ D.TOz hTO)
      refine wpAny_bind (wpAny_seqItems hTO₂ rfl (wpAny_bind (wpAny_updateSeq_pair hTO₂ fun h₃ hTO₃ hs₃ => ?_)))
      refine wpAny_bind (wpAny_letGo (wpAny_pure (wpAny_bind (wpAny_bind (wpAny_onRaise ?_)))))
      show wpAny _ _ (Builtin.SmallTypes.nextOf (.ref i2) >>= _) _ _ _
      refine wpAny_bind (nextOf_tuple_end hh (((h2.extBut hs₁.extBut D.i2z).extBut hs₂.extBut D.i12.symm).extBut hs₃.extBut D.TOi2.symm)
        (((hl2.extBut hs₁.extBut D.l2z).extBut hs₂.extBut D.l2i1).extBut hs₃.extBut D.l2TO) hy fun h₄ e hs₄ he => ?_)
      obtain ⟨oe, hoe, hce⟩ := he
      have hz₄ : IsZipF h₄ z TI TO .ellipsis f1 := hs₄ _ _ D.i2z.symm (hs₃.extBut _ _ D.TOz.symm (hs₂.extBut _ _ D.i1z.symm hz₁))
      have hez : e ≠ z := fun x => by subst x; rw [hz₄] at hoe; cases hoe; simp at hce
      refine wpAny_setField_rec hz₄ (by simp) fun h₅ _ hs₅ => hE h₅ e (fun c o c1 c2 c3 c4 x => hs₅.extBut _ _ c1 (hs₄ _ _ c4 (hs₃.extBut _ _ c2 (hs₂.extBut _ _ c3 (hs₁.extBut _ _ c1 x))))) ⟨oe, hs₅.extBut _ _ hez hoe, hce⟩
  · simp only [Bool.false_eq_true, if_false]
    refine wpAny_bind ?_
    rw [← Array.forIn_toList]
    simp only [List.forIn_cons, List.forIn_nil]
    refine wpAny_bind (wpAny_bind (wpAny_holding ?_))
    show wpAny _ _ (Builtin.SmallTypes.nextOf (.ref i1) >>= _) _ _ _
    cases hx : xs[k1]? with
    | none =>
      refine wpAny_bind (nextOf_tuple_end (s := { s with heap := g1 }) hh (h1.extBut hs1.extBut D.i1z) (hl1.extBut hs1.extBut D.l1z) hx fun h₂ e hs₂ he => ?_)
      exact hE h₂ e (fun c o c1 _ c2 _ x => hs₂ _ _ c2 (hs1.extBut _ _ c1 x)) he
    | some x =>
      have hy : ys[k2]? = none := by rcases hend with h | h; rw [hx] at h; cases h; exact h
      refine wpAny_bind (nextOf_tuple_item (s := { s with heap := g1 }) (h1.extBut hs1.extBut D.i1z) (hl1.extBut hs1.extBut D.l1z) hx fun h₂ h1₂ hs₂ => wpAny_pure (wpAny_pure ?_))
      refine wpAny_bind (wpAny_bind (wpAny_holding ?_))
      show wpAny _ _ (Builtin.SmallTypes.nextOf (.ref i2) >>= _) _ _ _
      refine wpAny_bind (nextOf_tuple_end (s := { s with heap := h₂ }) hh ((h2.extBut hs1.extBut D.i2z).extBut hs₂.extBut D.i12.symm) ((hl2.extBut hs1.extBut D.l2z).extBut hs₂.extBut D.l2i1) hy fun h₃ e hs₃ he => ?_)
      exact hE h₃ e (fun c o c1 _ c2 c3 x => hs₃ _ _ c3 (hs₂.extBut _ _ c2 (hs1.extBut _ _ c1 x))) he
theorem pyNext_zipF_item {z TI TO i1 i2 l1 l2 : Addr} {k1 k2 : Nat} {xs ys : Array Value} {x y a b f0 : Value} {f1 : Bool} {Q : Option Value → Shared → Prop} (D : ZipApart z TI TO i1 i2 l1 l2)
    (hz : IsZipF s.heap z TI TO f0 f1) (hf : F0k f0) (hTI : IsPair s.heap TI (.ref i1) (.ref i2)) (hTO : IsPair s.heap TO a b)
    (h1 : s.heap.IsTupleIter i1 l1 k1) (h2 : s.heap.IsTupleIter i2 l2 k2) (hl1 : s.heap.IsTuple l1 xs) (hl2 : s.heap.IsTuple l2 ys) (hx : xs[k1]? = some x) (hy : ys[k2]? = some y)
    (hQ : ∀ h' g0 g1, F0k g0 → IsZipF h' z TI TO g0 g1 → (∃ a b, IsPair h' TO a b) → h'.IsTupleIter i1 l1 (k1 + 1) → h'.IsTupleIter i2 l2 (k2 + 1) → IsPair h' s.heap.objs.size x y → h'.objs.size = s.heap.objs.size + 1 →
      (∀ c o, c ≠ z → c ≠ TO → c ≠ i1 → c ≠ i2 → s.heap.get? c = some o → h'.get? c = some o) → Q (some (.ref s.heap.objs.size)) { s with heap := h' }) :
    wpAny (model prog w) A (pyNext (.ref z)) Q E s := by
  have hT : s.TypeIs (.ref z) "zip" := ⟨_, hz, rfl⟩
  unfold pyNext
  exact wpAny_bind (wpAny_attempt (wpAny_callSpecial?_slot (name := Str.ofString "__next__") hT F.slot_zip_next (wpAny_call_entry F.slot_zip_next hT F.entry_zip_next
    (zipF_item D hz hf hTI hTO h1 h2 hl1 hl2 hx hy fun h' g0 g1 a1 a2 a3 a4 a5 a6 a7 a8 => wpAny_pure (hQ h' g0 g1 a1 a2 a3 a4 a5 a6 a7 a8)) (F.args_zip_next_1 _))))
theorem pyNext_zipF_end {z TI TO i1 i2 l1 l2 : Addr} {k1 k2 : Nat} {xs ys : Array Value} {a b f0 : Value} {f1 : Bool} {Q : Option Value → Shared → Prop} (hh : A.handled = none) (D : ZipApart z TI TO i1 i2 l1 l2)
    (hz : IsZipF s.heap z TI TO f0 f1) (hf : F0k f0) (hTI : IsPair s.heap TI (.ref i1) (.ref i2)) (hTO : IsPair s.heap TO a b)
    (h1 : s.heap.IsTupleIter i1 l1 k1) (h2 : s.heap.IsTupleIter i2 l2 k2) (hl1 : s.heap.IsTuple l1 xs) (hl2 : s.heap.IsTuple l2 ys) (hend : xs[k1]? = none ∨ ys[k2]? = none)
    (hQ : ∀ h', (∀ c o, c ≠ z → c ≠ TO → c ≠ i1 → c ≠ i2 → s.heap.get? c = some o → h'.get? c = some o) → Q none { s with heap := h' }) : wpAny (model prog w) A (pyNext (.ref z)) Q E s := by
  have hT : s.TypeIs (.ref z) "zip" := ⟨_, hz, rfl⟩
  unfold pyNext
  refine wpAny_bind (wpAny_attempt (wpAny_callSpecial?_slot (name := Str.ofString "__next__") hT F.slot_zip_next
    (wpAny_call_entry F.slot_zip_next hT F.entry_zip_next (zipF_end hh D hz hf hTI hTO h1 h2 hl1 hl2 hend fun h' e hk he => ?_) (F.args_zip_next_1 _))))
  obtain ⟨o, ho, hc⟩ := he
  exact wpAny_bind (wpAny_isInstance (T := "StopIteration") (b := true) ⟨o, ho, hc⟩ isSubtype_stop (wpAny_pure (hQ _ hk)))
theorem pyIter_zipF {z TI TO : Addr} {f0 : Value} {f1 : Bool} {Q : Value → Shared → Prop} (hz : IsZipF s.heap z TI TO f0 f1) (h : Q (.ref z) s) : wpAny (model prog w) A (pyIter (.ref z)) Q E s := by
  have hT : s.TypeIs (.ref z) "zip" := ⟨_, hz, rfl⟩
  refine wpAny_pyIter_slot hT F.slot_zip_iter (wpAny_call_entry F.slot_zip_iter hT F.entry_zip_iter ?_ (F.args_zip_iter_1 _))
  show wpAny _ _ (ret (.ref z)) _ _ s
  exact wpAny_pure ⟨_, rfl, "zip", _, hT, F.slot_zip_next.lookup, h⟩
end
/-! ### a loop whose target is a name -/
/-- what stands of a zip of two tuples at its i-th turn -/
def ZipAt (z TI TO i1 i2 a b : Addr) (i : Nat) (h : Heap) : Prop := (∃ f0 f1, F0k f0 ∧ IsZipF h z TI TO f0 f1) ∧ IsPair h TI (.ref i1) (.ref i2) ∧ (∃ x y, IsPair h TO x y) ∧ h.IsTupleIter i1 a i ∧ h.IsTupleIter i2 b i
theorem ZipAt.keep {z TI TO i1 i2 a b : Addr} {i : Nat} {h h' : Heap} (st : ZipAt z TI TO i1 i2 a b i h) (k : ∀ c ∈ [z, TI, TO, i1, i2], ∀ o, h.get? c = some o → h'.get? c = some o) : ZipAt z TI TO i1 i2 a b i h' := by
  obtain ⟨⟨f0, f1, hf, hz⟩, hTI, ⟨x, y, hTO⟩, h1, h2⟩ := st
  exact ⟨⟨f0, f1, hf, k z (by simp) _ hz⟩, k TI (by simp) _ hTI, ⟨x, y, k TO (by simp) _ hTO⟩, h1.at fun o q => k i1 (by simp) o q, h2.at fun o q => k i2 (by simp) o q⟩
theorem ZipAt.lt {z TI TO i1 i2 a b : Addr} {i : Nat} {h : Heap} (st : ZipAt z TI TO i1 i2 a b i h) : ∀ c ∈ [z, TI, TO, i1, i2], c < h.objs.size := by
  obtain ⟨⟨f0, f1, hf, hz⟩, hTI, ⟨x, y, hTO⟩, ⟨_, h1, _⟩, ⟨_, h2, _⟩⟩ := st
  intro c hc
  have e' : c = z ∨ c = TI ∨ c = TO ∨ c = i1 ∨ c = i2 := by simpa using hc
  rcases e' with q | q | q | q | q
  · rw [q]; exact Heap.lt_size hz
  · rw [q]; exact Heap.lt_size hTI
  · rw [q]; exact Heap.lt_size hTO
  · rw [q]; exact Heap.lt_size h1
  · rw [q]; exact Heap.lt_size h2
/-- one item, at the layer's level -/
theorem zip_itemI {X : Cx} {A : Around} {pins : List (Addr × Obj)} {σ : L2.St} {H : Hp} {s : Shared} {E : Value → Shared → Prop} {z TI TO i1 i2 a b : Addr} {i : Nat} {xs ys : List V} {x y : V} {Q : Option Value → Shared → Prop} (D : ZipApart z TI TO i1 i2 a b)
    (I : Inv X pins σ H s) (hf : ∀ c ∈ [z, TI, TO, i1, i2], FpOk X pins H c) (st : ZipAt z TI TO i1 i2 a b i s.heap) (hqx : SqT X.K H a xs) (hqy : SqT X.K H b ys) (hx : xs[i]? = some x) (hy : ys[i]? = some y)
    (q : ∀ s', Inv X pins σ (upd H s.heap.objs.size (.tup [x, y])) s' → ZipAt z TI TO i1 i2 a b (i + 1) s'.heap → s'.heap.objs.size = s.heap.objs.size + 1 → s'.os = s.os → s'.gens = s.gens → (∀ c o, c ∉ [z, TI, TO, i1, i2] → s.heap.get? c = some o → s'.heap.get? c = some o) → Q (some (.ref s.heap.objs.size)) s') : wpAny (model X.prog X.w) A (pyNext (.ref z)) Q E s := by
  obtain ⟨⟨f0, f1, hf0, hz⟩, hTI, ⟨x0, y0, hTO⟩, h1, h2⟩ := st
  obtain ⟨its, rv, p, _⟩ := I.tuple hqx
  obtain ⟨its2, rv2, p2, _⟩ := I.tuple hqy
  obtain ⟨u, hu, ru⟩ := rv.get hx
  obtain ⟨u2, hu2, ru2⟩ := rv2.get hy
  refine pyNext_zipF_item D hz hf0 hTI hTO h1 h2 p p2 (x := u) (y := u2) (by simpa using hu) (by simpa using hu2) fun h' g0 g1 a1 a2 a3 a4 a5 a6 a7 hk => ?_
  have new : ObjOk X.prog X.w (upd H s.heap.objs.size (.tup [x, y])) h' s.heap.objs.size (.tup [x, y]) :=
    ⟨by show 2 ≤ sizeLine; decide, [u, u2], .cons ru (.cons ru2 .nil), ⟨_, a6, rfl, _, rfl⟩⟩
  have kk : ∀ c o, c ∉ [z, TI, TO, i1, i2] → s.heap.get? c = some o → h'.get? c = some o := fun c o hb q => hk c o (fun q' => hb (by simp [q'])) (fun q' => hb (by simp [q'])) (fun q' => hb (by simp [q'])) (fun q' => hb (by simp [q'])) q
  have I1 : Inv X pins σ (upd H s.heap.objs.size (.tup [x, y])) { s with heap := h' } := I.turnedNew (t' := s.toks) (ch := [z, TI, TO, i1, i2]) kk hf (Nat.le_refl _) new
  exact q _ I1 ⟨⟨g0, g1, a1, a2⟩, hk _ _ D.TIz D.TITO D.TIi1 D.TIi2 hTI, a3, a4, a5⟩ a7 rfl rfl kk
theorem zip_doneI {X : Cx} {A : Around} (hh : A.handled = none) {pins : List (Addr × Obj)} {σ : L2.St} {H : Hp} {s : Shared} {E : Value → Shared → Prop} {z TI TO i1 i2 a b : Addr} {i : Nat} {xs ys : List V} {Q : Option Value → Shared → Prop} (D : ZipApart z TI TO i1 i2 a b)
    (I : Inv X pins σ H s) (hf : ∀ c ∈ [z, TI, TO, i1, i2], FpOk X pins H c) (st : ZipAt z TI TO i1 i2 a b i s.heap) (hqx : SqT X.K H a xs) (hqy : SqT X.K H b ys) (hend : xs.length ≤ i ∨ ys.length ≤ i)
    (q : ∀ s', Inv X pins σ H s' → s'.os = s.os → s'.gens = s.gens → (∀ c o, c ∉ [z, TI, TO, i1, i2] → s.heap.get? c = some o → s'.heap.get? c = some o) → Q none s') : wpAny (model X.prog X.w) A (pyNext (.ref z)) Q E s := by
  obtain ⟨⟨f0, f1, hf0, hz⟩, hTI, ⟨x0, y0, hTO⟩, h1, h2⟩ := st
  obtain ⟨its, rv, p, _⟩ := I.tuple hqx
  obtain ⟨its2, rv2, p2, _⟩ := I.tuple hqy
  have l1 := rv.length
  have l2 := rv2.length
  have he : its.toArray[i]? = none ∨ its2.toArray[i]? = none := by
    rcases hend with q | q
    · exact .inl (by simp; omega)
    · exact .inr (by simp; omega)
  refine pyNext_zipF_end hh D hz hf0 hTI hTO h1 h2 p p2 he fun h' hk => ?_
  have kk : ∀ c o, c ∉ [z, TI, TO, i1, i2] → s.heap.get? c = some o → h'.get? c = some o := fun c o hb q => hk c o (fun q' => hb (by simp [q'])) (fun q' => hb (by simp [q'])) (fun q' => hb (by simp [q'])) (fun q' => hb (by simp [q'])) q
  exact q _ (I.turnedL (t' := s.toks) (ch := [z, TI, TO, i1, i2]) kk hf) rfl rfl kk
theorem turn_zipN {P : Program} {w : World} {K : PySem.W.Frag} {n : Str} {np : Pos} {a b z TI TO i1 i2 : Addr} (D : ZipApart z TI TO i1 i2 a b) : Turn P w K (.Name n np) (ItzT K a b) [z, TI, TO, i1, i2] z (ZipAt z TI TO i1 i2 a b) where
  mem := by simp
  obj := fun i h st c hc => by
    obtain ⟨⟨f0, f1, _, hz⟩, hTI, ⟨x, y, hTO⟩, ⟨o1, e1, _, d1⟩, ⟨o2, e2, _, d2⟩⟩ := st
    have e' : c = z ∨ c = TI ∨ c = TO ∨ c = i1 ∨ c = i2 := by simpa using hc
    rcases e' with q | q | q | q | q
    · rw [q]; exact ⟨_, hz, fun v q => nomatch q⟩
    · rw [q]; exact ⟨_, hTI, fun v q => nomatch q⟩
    · rw [q]; exact ⟨_, hTO, fun v q => nomatch q⟩
    · rw [q]; exact ⟨o1, e1, fun v q => by rw [d1] at q; cases q⟩
    · rw [q]; exact ⟨o2, e2, fun v q => by rw [d2] at q; cases q⟩
  keep := fun i h h' st k => st.keep k
  item := by
    intro X hP hw hK hc i pins s σ H E I hf st hg
    subst hP hw hK
    obtain ⟨xs, ys, x, y, hqx, hqy, hx, hy⟩ := hg
    refine zip_itemI D I hf st hqx hqy hx hy fun s' I1 st1 hsz _ _ _ => ?_
    refine ⟨_, rfl, ?_⟩
    refine wpAny_pure ⟨.ref s.heap.objs.size, _, I1, rfl, ⟨_, x, y, rfl, I.hok.fresh (Nat.le_refl _), rfl, fun l hl => by rw [I.tuple_inj hl hqx]; exact hx, fun l hl => by rw [I.tuple_inj hl hqy]; exact hy⟩, st1, fun c hcm => ?_⟩
    rw [upd_ne (Nat.ne_of_lt (st.lt c hcm))]
    exact (hf c hcm).1
  done := by
    intro X hP hw hK hc i pins s σ H E I hf st hg
    subst hP hw hK
    obtain ⟨xs, ys, hqx, hqy, hend⟩ := hg
    exact zip_doneI (I.ok.hd hc) D I hf st hqx hqy hend fun s' I1 _ _ _ => ⟨rfl, I1⟩
  self := fun A i s Q E st h => let ⟨⟨_, _, _, hz⟩, _⟩ := st; pyIter_zipF hz h
/-- zip(e, e2) of two tuples, made -/
theorem zip_made {X : Cx} {A : Around} {pins : List (Addr × Obj)} {σ : L2.St} {H : Hp} {s : Shared} {E : Value → Shared → Prop} {a b : Addr} {xs ys : List V} {Q : Value → Shared → Prop} (I : Inv X pins σ H s) (hqx : SqT X.K H a xs) (hqy : SqT X.K H b ys)
    (q : ∀ (z TI TO i1 i2 : Addr) s', ZipApart z TI TO i1 i2 a b → Inv X pins σ H s' → ZipAt z TI TO i1 i2 a b 0 s'.heap → (∀ c ∈ [z, TI, TO, i1, i2], FpOk X pins H c ∧ s.heap.objs.size ≤ c) → Q (.ref z) s') : wpAny (model X.prog X.w) A (call (.type "zip") [.ref a, .ref b]) Q E s := by
  obtain ⟨its, rv, p1, _⟩ := I.tuple hqx
  obtain ⟨its2, rv2, p2, _⟩ := I.tuple hqy
  obtain ⟨o1, ho1, _⟩ := id p1
  obtain ⟨o2, ho2, _⟩ := id p2
  refine call_zipT (show s.heap.IsTuple a its.toArray from p1) (show s.heap.IsTuple b its2.toArray from p2) fun h' hz hTI hTO h1 h2 hsz hk => ?_
  refine q _ _ _ _ _ _ (PySem.W.ktu_apart s.heap.objs.size a b (Heap.lt_size ho1) (Heap.lt_size ho2)) (I.kept (t' := s.toks) hk) ⟨⟨.none, false, .inl rfl, hz⟩, hTI, ⟨_, _, hTO⟩, h1, h2⟩ fun c hcm => ?_
  have hle : s.heap.objs.size ≤ c := by
    have e' : c = s.heap.objs.size + 4 ∨ c = s.heap.objs.size + 2 ∨ c = s.heap.objs.size + 3 ∨ c = s.heap.objs.size ∨ c = s.heap.objs.size + 1 := by simpa using hcm
    rcases e' with z | z | z | z | z <;> rw [z] <;> first | exact Nat.le_add_right _ _ | exact Nat.le_refl _
  exact ⟨I.fpOk hle (I.hok.fresh hle), hle⟩
def iZipN (K : PySem.W.Frag) (ta : TA) : TI := fun σ H R => ta σ H fun vs H1 => ∃ a b xs ys, vs = [.ref a, .ref b] ∧ SqT K H1 a xs ∧ SqT K H1 b ys ∧ R (ItzT K a b) H1
theorem pi_zipN {X : Cx} {e e2 : Expr} {ta : TA} {p pos np : Pos} {n : Str} (hg : Gl X "zip") (hm : X.mg "zip" = none) (ha : PA X [e, e2] ta) (hs : starEach [e, e2] X.env = (false, eval e X.env) :: starEach [e2] X.env) (hpl : (backTo pos (starEach [e2] X.env)).any (·.1) = false) :
    PI X (.Name n np) (.Call (.Name "zip" p) [e, e2] [] pos) (iZipN X.K ta) := by
  refine ⟨fun pins s σ H R I h => ?_⟩
  refine Call_ (ld_blt I hg hm PyProof.Rows.boot_zip (PyProof.Rows.callWith_type1 (thn (ha.run pos pins s σ H _ I h) fun us s1 ⟨vs, H1, I1, r1, q1⟩ => ?_) hs hpl))
  obtain ⟨a, b, xs, ys, ex, hqx, hqy, q⟩ := q1
  subst ex
  obtain ⟨u1, u2, rfl, r1, r2⟩ := vals2 r1
  cases (show u1 = Value.ref a from r1)
  cases (show u2 = Value.ref b from r2)
  refine zip_made I1 hqx hqy fun z TI TO i1 i2 s' D I2 st hf => ?_
  obtain ⟨f0, f1, _, hz⟩ := st.1
  exact pyIter_zipF hz ⟨z, [z, TI, TO, i1, i2], _, _, H1, rfl, I2, turn_zipN D, st, fun c hc => (hf c hc).1, q⟩
end PX

end

section
set_option Elab.async false
set_option linter.all false
set_option autoImplicit false
set_option maxRecDepth 100000
set_option maxHeartbeats 1000000
/-! list(zip(e, e2)) of two tuples -/
namespace PX
open PySem PySem.Spec PyProof.Rows L2 RZ
theorem zip_no_len : typeLookup (.type "zip") "__len__" = pure none := by rw [typeLookup_type, builtinLookup_eq_fast]; kernel_rfl
theorem zip_no_hint : typeLookup (.type "zip") "__length_hint__" = pure none := by rw [typeLookup_type, builtinLookup_eq_fast]; kernel_rfl
/-- pairs of two lists' items -/
def PairsIn (H : Hp) (xs ys vs : List V) : Prop := ∀ (j : Nat) (v : V), vs[j]? = some v → ∃ T x y, v = .ref T ∧ xs[j]? = some x ∧ ys[j]? = some y ∧ H T = some (.tup [x, y])
/-- but for S, all that was tracked is as it was -/
structure Grow (S : Addr) (H H' : Hp) : Prop where
  keep : ∀ b o, b ≠ S → H b = some o → H' b = some o
  there : ∀ b, H' b = none → H b = none
theorem Grow.refl {S : Addr} {H : Hp} : Grow S H H := ⟨fun _ _ _ h => h, fun _ h => h⟩
theorem Grow.trans {S : Addr} {H H1 H2 : Hp} (a : Grow S H H1) (b : Grow S H1 H2) : Grow S H H2 := ⟨fun x o n h => b.keep x o n (a.keep x o n h), fun x h => a.there x (b.there x h)⟩
section
variable {X : Cx} {A : Around} {pins : List (Addr × Obj)} {σ : L2.St} {E : Value → Shared → Prop} {z TI TO i1 i2 a b S : Addr} {xs ys : List V} {res : Value} {R : Result → Shared → Prop}
theorem zl_loop (hh : A.in1.handled = none) (D : ZipApart z TI TO i1 i2 a b) (hS : S ∉ [z, TI, TO, i1, i2]) : ∀ (k i : Nat) (s : Shared) (H : Hp) (acc : List V), min xs.length ys.length - i = k → i ≤ min xs.length ys.length → Inv X pins σ H s → (∀ c ∈ [z, TI, TO, i1, i2], FpOk X pins H c) →
    ZipAt z TI TO i1 i2 a b i s.heap → SqT X.K H a xs → SqT X.K H b ys → H S = some (.lst acc) → acc.length = i → PairsIn H xs ys acc →
    (∀ s' H' vs, Inv X pins σ H' s' → H' S = some (.lst vs) → vs.length = min xs.length ys.length → PairsIn H' xs ys vs → Grow S H H' → R (.ok (.ret res)) s') →
    codeAny (model X.prog X.w) A (.builtin "list.extend.loop" ⟨[.ref S, .ref z, res], []⟩) R s := by
  intro k
  induction k with
  | zero =>
    intro i s H acc hk hi I hf st hqx hqy hacc hl hp hR
    refine codeAny_builtin F.entry_extend_loop ?_
    rw [Around.under_plainId F.plain_extend_loop _]
    show wpAny _ A.in1 (pyNext (.ref z) >>= _) _ _ s
    refine wpAny_bind (zip_doneI hh D I hf st hqx hqy (by omega) fun s' I1 _ _ _ => ?_)
    exact wpAny_pure (hR s' H acc I1 hacc (by omega) hp .refl)
  | succ k ih =>
    intro i s H acc hk hi I hf st hqx hqy hacc hl hp hR
    have hx : xs[i]? = some xs[i] := List.getElem?_eq_getElem (by omega)
    have hy : ys[i]? = some ys[i] := List.getElem?_eq_getElem (by omega)
    refine codeAny_builtin F.entry_extend_loop ?_
    rw [Around.under_plainId F.plain_extend_loop _]
    show wpAny _ A.in1 (pyNext (.ref z) >>= _) _ _ s
    refine wpAny_bind (zip_itemI D I hf st hqx hqy hx hy fun s' I1 st1 hsz hos hgn hk1 => ?_)
    have hfr : H s.heap.objs.size = none := I.hok.fresh (Nat.le_refl _)
    have hSn : S ≠ s.heap.objs.size := fun z => by rw [z, hfr] at hacc; cases hacc
    have hacc1 : (upd H s.heap.objs.size (.tup [xs[i], ys[i]])) S = some (.lst acc) := by rw [upd_ne hSn]; exact hacc
    obtain ⟨hz, its, n, r, e⟩ := (show ObjOk X.prog X.w _ s'.heap S (.lst acc) from I1.hok S _ hacc1)
    obtain ⟨_, _, _, hlx⟩ := I.tuple hqx
    have hil : its.length = i := by rw [← r.length]; exact hl
    have hlt : i < sizeLine := by omega
    show wpAny _ A.in1 (updateSeq S (·.push (.ref s.heap.objs.size)) >>= _) _ _ _
    refine wpAny_bind (wpAny_updateSeq e rfl (wpAny_pure ⟨plainId_quiet F.plain_extend_loop _, ?_⟩) (by rw [List.size_toArray, hil]; omega) (by rw [Array.size_push, List.size_toArray, hil]; omega))
    have g := Heap.get?_update_self (Obj.mapSeq (·.push (Value.ref s.heap.objs.size))) e rfl
    have oth : ∀ c o, c ≠ S → s'.heap.get? c = some o → (s'.heap.update S (Obj.mapSeq (·.push (Value.ref s.heap.objs.size)))).get? c = some o := fun c o hc q => (Heap.get?_update_other _ _ (Ne.symm hc)).trans q
    have r2 : Vals (acc ++ [V.ref s.heap.objs.size]) (its ++ [Value.ref s.heap.objs.size]) := r.append (.cons rfl .nil)
    have I2 : Inv X pins σ (upd (upd H s.heap.objs.size (.tup [xs[i], ys[i]])) S (.lst (acc ++ [V.ref s.heap.objs.size]))) { s' with heap := s'.heap.update S (Obj.mapSeq (·.push (Value.ref s.heap.objs.size))) } :=
      I1.write (t' := s'.toks) (x := S) (e := S) (by rw [hacc1]; exact True.intro) (.inl rfl) oth ⟨_, g⟩ ⟨by rw [List.length_append, hl]; show i + 1 ≤ sizeLine; omega, its ++ [Value.ref s.heap.objs.size], _, r2, by
        have e3 : (its ++ [Value.ref s.heap.objs.size]).toArray = its.toArray.push (Value.ref s.heap.objs.size) := by simp
        rw [e3]; exact g⟩
    have gr : Grow S H (upd (upd H s.heap.objs.size (.tup [xs[i], ys[i]])) S (.lst (acc ++ [V.ref s.heap.objs.size]))) :=
      ⟨fun c o hc q => by rw [upd_ne hc, upd_ne (ne_of_none q hfr)]; exact q, fun c q => upd_none (upd_none q)⟩
    have tupK : ∀ c us, H c = some (.tup us) → (upd (upd H s.heap.objs.size (.tup [xs[i], ys[i]])) S (.lst (acc ++ [V.ref s.heap.objs.size]))) c = some (.tup us) := fun c us q => gr.keep c _ (fun z => by rw [z, hacc] at q; cases q) q
    have frzK : ∀ c o u, H c = some (.frz o u) → (upd (upd H s.heap.objs.size (.tup [xs[i], ys[i]])) S (.lst (acc ++ [V.ref s.heap.objs.size]))) c = some (.frz o u) := fun c o u q => gr.keep c _ (fun z => by rw [z, hacc] at q; cases q) q
    refine ih (i + 1) _ _ (acc ++ [V.ref s.heap.objs.size]) (by omega) (by omega) I2 (fun c hc => ⟨?_, (hf c hc).2⟩) (st1.keep fun c hc o q => oth c o (fun q : c = S => hS (by rw [← q]; exact hc)) q) (sqT_keep hqx tupK frzK) (sqT_keep hqy tupK frzK) upd_same (by rw [List.length_append, hl] <;> rfl) (fun j v hj => ?_) fun s2 H2 vs J1 J2 J3 J4 J5 => hR s2 H2 vs J1 J2 J3 J4 (gr.trans J5)
    · rw [upd_ne (fun q : c = S => hS (by rw [← q]; exact hc)), upd_ne (Nat.ne_of_lt (st.lt c hc))]
      exact (hf c hc).1
    · by_cases hji : j < acc.length
      · rw [List.getElem?_append_left hji] at hj
        obtain ⟨T, x, y, q1, q2, q3, q4⟩ := hp j v hj
        exact ⟨T, x, y, q1, q2, q3, tupK _ _ q4⟩
      · rw [List.getElem?_append_right (by omega)] at hj
        have : j - acc.length = 0 := by
          cases q : j - acc.length with
          | zero => rfl
          | succ m => rw [q] at hj; simp at hj
        rw [this] at hj
        cases hj
        have ej : j = i := by omega
        subst ej
        exact ⟨s.heap.objs.size, _, _, rfl, hx, hy, by rw [upd_ne (Ne.symm hSn)]; exact upd_same⟩
/-- list(z), z a zip of two tuples -/
theorem call_list_zip {s : Shared} {H : Hp} {Q : Value → Shared → Prop} (hh : A.handled = none) (D : ZipApart z TI TO i1 i2 a b) (I : Inv X pins σ H s) (hf : ∀ c ∈ [z, TI, TO, i1, i2], FpOk X pins H c) (st : ZipAt z TI TO i1 i2 a b 0 s.heap) (hqx : SqT X.K H a xs) (hqy : SqT X.K H b ys)
    (hQ : ∀ s' H' vs, H s.heap.objs.size = none → Inv X pins σ H' s' → H' s.heap.objs.size = some (.lst vs) → vs.length = min xs.length ys.length → PairsIn H' xs ys vs → Grow s.heap.objs.size H H' → Q (.ref s.heap.objs.size) s') : wpAny (model X.prog X.w) A (call (.type "list") [.ref z]) Q E s := by
  have hfr : H s.heap.objs.size = none := I.hok.fresh (Nat.le_refl _)
  have hSf : s.heap.objs.size ∉ [z, TI, TO, i1, i2] := fun hm => Nat.lt_irrefl _ (st.lt _ hm)
  refine callType_codes (Q₁ := fun obj s₁ => obj = .ref s.heap.objs.size ∧ s₁ = { s with heap := s.heap.push { cls := .type "list", data := .seq #[] } }) F.called_list (F.typeCall_list_1 _) F.entry_list_init
    (code_list_new _ ⟨rfl, rfl⟩) fun obj s₁ h₁ => ?_
  obtain ⟨rfl, rfl⟩ := h₁
  have hS : (s.heap.push { cls := .type "list", data := .seq #[] }).get? s.heap.objs.size = some { cls := .type "list", data := .seq #[] } := Heap.get?_push_size _ rfl
  refine ⟨⟨_, hS, rfl⟩, F.args_list_init_2 _ _, ?_⟩
  obtain ⟨⟨f0, f1, hf0, hz⟩, _⟩ := id st
  have hzS : z ≠ s.heap.objs.size := fun e => hSf (by rw [← e]; simp)
  show wpAny _ A.in1.in1 (do let old ← Builtin.List.listItems (.ref s.heap.objs.size); Builtin.List.listUpdate (.ref s.heap.objs.size) (fun _ => #[]); letGo old.toList.reverse; Builtin.List.listExtendWith (.ref s.heap.objs.size) (.ref z) .none) _ _ _
  refine wpAny_bind ?_
  unfold Builtin.List.listItems
  refine wpAny_bind (wpAny_seqItems hS rfl (wpAny_pure ?_))
  show wpAny _ _ (updateSeq s.heap.objs.size (fun _ => #[]) >>= fun _ => letGo (#[] : Array Value).toList.reverse >>= fun _ => Builtin.List.listExtendWith (.ref s.heap.objs.size) (.ref z) .none) _ _ _
  refine wpAny_bind (wpAny_updateSeq hS rfl ?_)
  have hS₂ := Heap.get?_update_self (Obj.mapSeq (fun _ => (#[] : Array Value))) hS rfl
  refine wpAny_bind (wpAny_letGo ?_)
  have oth : ∀ b o, b ≠ s.heap.objs.size → s.heap.get? b = some o → ((s.heap.push { cls := .type "list", data := .seq #[] }).update s.heap.objs.size (Obj.mapSeq (fun _ => (#[] : Array Value)))).get? b = some o :=
    fun b o hb e => (Heap.get?_update_other _ _ (Ne.symm hb)).trans (Heap.get?_push_of_some _ e)
  have hz2 := oth z _ hzS hz
  unfold Builtin.List.listExtendWith
  refine wpAny_bind (wpAny_typeOf (T := "zip") ⟨_, hz2, rfl⟩ ?_)
  have h1 : Builtin.List.listSameRef (.ref s.heap.objs.size) (.ref z) = false := by simp [Builtin.List.listSameRef, Ne.symm hzS]
  have h2 : (Value.type "zip" == Value.type "list") = false := by decide
  have h3 : (Value.type "zip" == Value.type "tuple") = false := by decide
  simp only [h1, h2, h3, Bool.or_false, Bool.false_eq_true, if_false]
  refine wpAny_bind (pyIter_zipF hz2 (wpAny_bind (wpAny_holding ?_)))
  unfold Builtin.List.listLengthHint
  refine wpAny_bind (wpAny_specialOf (T := "zip") ⟨_, hz2, rfl⟩ zip_no_len ?_)
  show wpAny _ _ (specialOf (Value.ref z) (Str.ofString "__length_hint__") >>= _) _ _ _
  refine wpAny_bind (wpAny_specialOf (T := "zip") ⟨_, hz2, rfl⟩ zip_no_hint ?_)
  refine wpAny_pure ?_
  show wpAny _ _ (rule "list.extend.makes-room" >>= fun _ => Builtin.List.listTouch (.ref s.heap.objs.size) >>= fun _ =>
    PySem.again (.builtin "list.extend.loop" ⟨[.ref s.heap.objs.size, .ref z, .none], []⟩)) _ _ _
  refine wpAny_bind (wpAny_rule (wpAny_bind ?_))
  show wpAny _ _ (updateSeq s.heap.objs.size (·.push .none) >>= fun _ => updateSeq s.heap.objs.size (·.pop)) _ _ _
  refine wpAny_bind (wpAny_updateSeq hS₂ rfl ?_)
  have hS₃ := Heap.get?_update_self (Obj.mapSeq (·.push Value.none)) hS₂ rfl
  refine wpAny_updateSeq (hz := by seq_fits) hS₃ rfl ?_
  have hS₄ := Heap.get?_update_self (Obj.mapSeq (·.pop)) hS₃ rfl
  have oth2 : ∀ b o, s.heap.get? b = some o → ((((s.heap.push { cls := .type "list", data := .seq #[] }).update s.heap.objs.size (Obj.mapSeq (fun _ => (#[] : Array Value)))).update s.heap.objs.size (Obj.mapSeq (·.push Value.none))).update s.heap.objs.size (Obj.mapSeq (·.pop))).get? b = some o := fun b o e => by
    have hb : s.heap.objs.size ≠ b := Nat.ne_of_gt (Heap.lt_size e)
    exact (Heap.get?_update_other _ _ hb).trans ((Heap.get?_update_other _ _ hb).trans (oth b o (Ne.symm hb) e))
  have new : ObjOk X.prog X.w (upd H s.heap.objs.size (.lst [])) ((((s.heap.push { cls := .type "list", data := .seq #[] }).update s.heap.objs.size (Obj.mapSeq (fun _ => (#[] : Array Value)))).update s.heap.objs.size (Obj.mapSeq (·.push Value.none))).update s.heap.objs.size (Obj.mapSeq (·.pop))) s.heap.objs.size (.lst []) :=
    ⟨Nat.zero_le _, [], _, .nil, hS₄⟩
  have I2 := I.laid (t' := s.toks) oth2 (Nat.le_refl _) new
  have gr : Grow s.heap.objs.size H (upd H s.heap.objs.size (.lst [])) := ⟨fun c o hc q => by rw [upd_ne hc]; exact q, fun c q => upd_none q⟩
  have tupK : ∀ c us, H c = some (.tup us) → (upd H s.heap.objs.size (.lst [])) c = some (.tup us) := fun c us q => by rw [upd_ne (ne_of_none q hfr)]; exact q
  have frzK : ∀ c o u, H c = some (.frz o u) → (upd H s.heap.objs.size (.lst [])) c = some (.frz o u) := fun c o u q => by rw [upd_ne (ne_of_none q hfr)]; exact q
  refine wpAny_pure ⟨plainId_quiet F.plain_extend_loop _, zl_loop (A := A.in1) (res := .none) hh D hSf _ 0 _ _ [] rfl (Nat.zero_le _) I2 (fun c hc => ⟨?_, (hf c hc).2⟩) (st.keep fun c hc o q => oth2 c o q) (sqT_keep hqx tupK frzK) (sqT_keep hqy tupK frzK) upd_same rfl (fun j v hj => by simp at hj) fun s2 H2 vs J1 J2 J3 J4 J5 => ⟨rfl, hQ s2 H2 vs hfr J1 J2 J3 J4 (gr.trans J5)⟩⟩
  rw [upd_ne (fun q : c = s.heap.objs.size => hSf (by rw [← q]; exact hc))]
  exact (hf c hc).1
def tLstZip (K : PySem.W.Frag) (ta : TA) : TE := fun σ H Q => ta σ H fun vs H1 => ∃ a b xs ys, vs = [.ref a, .ref b] ∧ SqT K H1 a xs ∧ SqT K H1 b ys ∧ ∀ S H2 vs', H1 S = none → H2 S = some (.lst vs') → vs'.length = min xs.length ys.length → PairsIn H2 xs ys vs' → Grow S H1 H2 → Q (.ref S) H2
theorem pe_listZip {e e2 : Expr} {ta : TA} {p p1 pos q : Pos} (hc : X.calm = true) (hl : Gl X "list") (hml : X.mg "list" = none) (hg : Gl X "zip") (hm : X.mg "zip" = none) (ha : PA X [e, e2] ta) (hs : starEach [e, e2] X.env = (false, eval e X.env) :: starEach [e2] X.env) (hpl : ∀ pos, (backTo pos (starEach [e2] X.env)).any (·.1) = false) :
    PE X (.Call (.Name "list" p) [.Call (.Name "zip" p1) [e, e2] [] q] [] pos) (tLstZip X.K ta) := by
  refine ⟨fun pins s σ H Q I h => ?_⟩
  have na : starEach [Expr.Call (.Name "zip" p1) [e, e2] [] q] X.env = (false, eval (.Call (.Name "zip" p1) [e, e2] [] q) X.env) :: starEach [] X.env := rfl
  refine Call_ (ld_blt I hl hml boot_list (PyProof.Rows.callWith_type1 (args_cons ?_ na) na))
  refine Call_ (ld_blt I hg hm PyProof.Rows.boot_zip (PyProof.Rows.callWith_type1 (thn (ha.run q pins s σ H _ I h) fun us s1 ⟨vs, H1, I1, r1, q1⟩ => ?_) hs (hpl q)))
  obtain ⟨a, b, xs, ys, ex, hqx, hqy, qq⟩ := q1
  subst ex
  obtain ⟨u1, u2, rfl, r1, r2⟩ := vals2 r1
  cases (show u1 = Value.ref a from r1)
  cases (show u2 = Value.ref b from r2)
  refine zip_made I1 hqx hqy fun z TI TO i1 i2 s2 D I2 st hf => args_nil ?_
  exact call_list_zip (I2.ok.hd hc) D I2 (fun c hc => (hf c hc).1) st hqx hqy fun s3 H3 vs' hn I3 e3 hl3 hp3 g3 => ⟨.ref s2.heap.objs.size, H3, I3, rfl, qq _ H3 vs' hn e3 hl3 hp3 g3⟩
end
end PX

end

section
set_option Elab.async false
set_option linter.all false
set_option autoImplicit false
set_option maxRecDepth 100000
namespace PX
open PySem PySem.Spec PyProof.Rows L2
section
variable {N : Nm} {Wx : WX} {X : Cx} {σ : L2.St} {ρ ρ1 : Ev} {H H0 H1 : Hp} {W W1 T : Addr → Prop}
variable (C : Call) (G : Nat → D)
/-- what is looked at: a slot's own thing, or a kept one -/
def AR (N : Nm) (σ : L2.St) (a : E) (ρ : Ev) (H : Hp) (W : Addr → Prop) (d : D) (v : V) : Prop := RR N H W d v ∧ ((∃ i p e, a = .var i ∧ σ[i]? = some (some v) ∧ ρ[i]? = some (Cell.own p e)) ∨ Rep N H W d v)
theorem RelS.rdA (rel : RelS N H W σ ρ) {i : Nat} {d : D} (h : PX.rd i ρ = .ok d ρ) : ∃ v, σ[i]? = some (some v) ∧ AR N σ (.var i) ρ H W d v := by
  unfold PX.rd at h
  cases q : ρ[i]? with
  | none => rw [q] at h; cases h
  | some c =>
    rw [q] at h
    have s := rel.slot i c q
    cases c with
    | unset => cases h
    | val d' =>
      cases h
      obtain ⟨v, e, r⟩ := s
      exact ⟨v, e, r.rr, .inr r⟩
    | own p d' =>
      cases h
      obtain ⟨a, e, w, r⟩ := s
      exact ⟨_, e, r.rr, .inl ⟨i, p, _, rfl, e, q⟩⟩
theorem Rdr.rdA {e : Expr} {a : E} {r : Ev → Res (D × Bool)} (h : Rdr N Wx X e a r) : ∃ t, PE X e t ∧ ∀ σ H (R : VK), (∃ W ρ, RelS N H W σ ρ ∧ Cont N Wx σ ρ H W (fun d ρ1 H1 W1 => ∀ v, AR N σ a ρ1 H1 W1 d v → R v H1) (rdOr a r ρ)) → t σ H R := by
  rcases var_or a with ⟨i, rfl⟩ | hv
  · refine ⟨_, h.var i rfl, fun σ H R hq => ?_⟩
    obtain ⟨W, ρ, rel, c⟩ := hq
    have c0 : Cont N Wx σ ρ H W (fun d ρ1 H1 W1 => ∀ v, AR N σ (.var i) ρ1 H1 W1 d v → R v H1) (PX.rd i ρ) := c
    rcases rd_cases i ρ with ⟨d, e1⟩ | e1
    · rw [e1] at c0
      obtain ⟨v, ev1, ar⟩ := rel.rdA e1
      exact ⟨v, ev1, c0.here rel v ar⟩
    · rw [e1] at c0
      exact c0.elim
  · refine ⟨_, h.ev, fun σ H R hq => TEv.kp ?_⟩
    obtain ⟨W, ρ, rel, c⟩ := hq
    rw [rdOr_nv hv] at c
    exact ⟨W, ρ, rel, c.mono fun d ρ1 H1 W1 s k v rp => k v ⟨rp.rr, .inr rp⟩⟩
theorem pe_twoA {ea eb : Expr} {a b : E} {ra rb : Ev → Res (D × Bool)} (ha : Rdr N Wx X ea a ra) (hb : Rdr N Wx X eb b rb) : ∃ ta tb, PE X ea ta ∧ PE X eb tb ∧
    ∀ σ H (R : V → V → Hp → Prop), (∃ W ρ, RelS N H W σ ρ ∧ Cont N Wx σ ρ H W (fun p ρ1 H1 W1 => ∀ x y, AR N σ a ρ1 H1 W1 p.1 x → AR N σ b ρ1 H1 W1 p.2 y → Trk H1 W1 → R x y H1) (two a b ra rb ρ)) → ta σ H fun x H1 => tb σ H1 fun y H2 => R x y H2 := by
  obtain ⟨tb, pb, lb⟩ := hb.rdA
  rcases var_or a with ⟨i, rfl⟩ | hv
  · refine ⟨_, _, ha.var i rfl, pb, fun σ H R hq => ?_⟩
    obtain ⟨W, ρ, rel, c⟩ := hq
    have c0 : Cont N Wx σ ρ H W (fun p ρ1 H1 W1 => ∀ x y, AR N σ (.var i) ρ1 H1 W1 p.1 x → AR N σ b ρ1 H1 W1 p.2 y → Trk H1 W1 → R x y H1) ((PX.rd i ρ).bind fun _ ρ => (rdOr b rb ρ).bind fun y ρ => (PX.rd i ρ).bind fun x ρ => .ok (x, y) ρ) := c
    rcases rd_cases i ρ with ⟨d, e1⟩ | e1
    · rw [e1] at c0
      obtain ⟨_, v, ev, rr⟩ := rel.rd e1
      have c1 : Cont N Wx σ ρ H W (fun p ρ1 H1 W1 => ∀ x y, AR N σ (.var i) ρ1 H1 W1 p.1 x → AR N σ b ρ1 H1 W1 p.2 y → Trk H1 W1 → R x y H1) ((rdOr b rb ρ).bind fun y ρ => (PX.rd i ρ).bind fun x ρ => .ok (x, y) ρ) := c0
      refine ⟨v, ev, lb σ H _ ⟨W, ρ, rel, (c1.bind rel).mono fun y ρ2 H2 W2 s2 ⟨_, c2⟩ u hu => ?_⟩⟩
      rcases rd_cases i ρ2 with ⟨d2, e2⟩ | e2
      · rw [e2] at c2
        obtain ⟨v2, ev2, ar⟩ := s2.rel.rdA e2
        rw [ev] at ev2
        cases ev2
        exact Cont.here (N := N) (Wx := Wx) (a := (d2, y)) s2.rel c2 v u ar hu s2.rel.tr
      · rw [e2] at c2
        exact c2.elim
    · rw [e1] at c0
      exact c0.elim
  · refine ⟨_, _, ha.ev, pb, fun σ H R hq => ?_⟩
    obtain ⟨W, ρ, rel, c⟩ := hq
    rw [two_nv hv, bind_fst (F := fun x ρ => (rdOr b rb ρ).bind fun y ρ => .ok (x, y) ρ)] at c
    refine TEv.kp ⟨W, ρ, rel, (c.bind rel).mono fun d ρ1 H1 W1 s ⟨_, c1⟩ v hv => ?_⟩
    refine lb σ H1 _ ⟨W1, ρ1, s.rel, (c1.bind s.rel).mono fun y ρ2 H2 W2 s2 ⟨_, c2⟩ u hu => ?_⟩
    have rp := s2.rep s.rel hv
    exact c2.here s2.rel v u ⟨rp.rr, .inr rp⟩ hu s2.rel.tr
/-! ### what is walked -/
/-- the walk's items stand in all that comes -/
def WkR (N : Nm) (T : Addr → Prop) (ds : List D) (J : It) (H : Hp) (W : Addr → Prop) : Prop := ∀ H1 W1, Ext T H W H1 W1 → Trk H1 W1 →
  (∀ i, i < ds.length → J.go i H1) ∧ J.stop ds.length H1 ∧ ∀ i x H2, i < ds.length → J.yld i H1 x H2 → ∃ d, ds[i]? = some d ∧ Nw H1 W1 H2 W1 ∧ Rep N H2 W1 d x
variable (N Wx) in
def TIt (r : Ev → Res (List D × List Nat)) : TI := fun σ H R => ∃ W ρ, RelS N H W σ ρ ∧ Cont N Wx σ ρ H W (fun q ρ1 H1 W1 => ∀ J, WkR N (Own (PX.wipe ρ1 q.2) σ) q.1 J H1 W1 → R J H1) (r ρ)
theorem sqL_ext {b : Addr} {xs : List V} (x : Ext T H W H1 W1) (n : ¬ T b) (h : SqL N.K H b xs) : SqL N.K H1 b xs := sqL_keep h fun o e => x.keep b o e n
theorem sqT_ext {b : Addr} {xs : List V} (x : Ext T H W H1 W1) (h : SqT N.K H b xs) : SqT N.K H1 b xs := sqT_keep h x.tup x.frz
theorem wipe_get (ρ : Ev) (j : Nat) : ∀ vs : List Nat, (PX.wipe ρ vs)[j]? = if j ∈ vs then (ρ[j]?).map (fun _ => Cell.unset) else ρ[j]?
  | [] => by simp [PX.wipe]
  | v :: vs => by
    show ((PX.wipe ρ vs).set v .unset)[j]? = _
    have len : ∀ vs : List Nat, (PX.wipe ρ vs).length = ρ.length := fun vs => by
      induction vs with
      | nil => rfl
      | cons a l ih => show ((PX.wipe ρ l).set a .unset).length = _; rw [List.length_set, ih]
    by_cases hj : v = j
    · subst hj
      rw [if_pos List.mem_cons_self]
      by_cases hl : v < ρ.length
      · rw [List.getElem?_set_self (by rw [len]; exact hl), List.getElem?_eq_getElem hl] <;> rfl
      · rw [List.getElem?_eq_none (by rw [List.length_set, len]; omega), List.getElem?_eq_none (by omega)] <;> rfl
    · rw [List.getElem?_set_ne hj, wipe_get ρ j vs]
      have : j ∈ v :: vs ↔ j ∈ vs := by
        rw [List.mem_cons]
        exact ⟨fun z => z.resolve_left (fun e => hj e.symm), .inr⟩
      simp only [this]
theorem wipe_own {vs : List Nat} {j : Nat} {p : Bool} {d : D} (h : (PX.wipe ρ vs)[j]? = some (Cell.own p d)) : j ∉ vs ∧ ρ[j]? = some (Cell.own p d) := by
  rw [wipe_get] at h
  by_cases hj : j ∈ vs
  · rw [if_pos hj] at h
    cases q : ρ[j]? <;> rw [q] at h <;> cases h
  · rw [if_neg hj] at h
    exact ⟨hj, h⟩
/-- a kept list is none of one's own -/
theorem rep_not {d : D} {b : Addr} (tr : Trk H W) (rp : Rep N H W d (.ref b)) (nt : d.isLst = true) : ¬ W b := fun w => by
  cases d with
  | lst _ => obtain ⟨a', xs, e', nw, _⟩ := rp; cases e'; exact nw w
  | _ => cases nt
/-- the hidden slot's list is none of the others' -/
theorem hid_own (rel : RelS N H W σ ρ) {a : E} {d : D} {b : Addr} {vs : List Nat} (hs : ∀ i ∈ hid a ρ, i ∈ vs) (ar : AR N σ a ρ H W d (.ref b)) (nt : d.isLst = true) : ¬ Own (PX.wipe ρ vs) σ b := by
  rintro ⟨j, p, e, h1, h2⟩
  obtain ⟨hj, h3⟩ := wipe_own h1
  have w : W b := rel.own ⟨j, p, e, h3, h2⟩
  rcases ar.2 with ⟨i, q, z, rfl, hi, hq⟩ | rp
  · have : i = j := rel.apart i j _ _ _ _ b hq h3 hi h2
    subst this
    refine hj (hs i ?_)
    show i ∈ (match ρ[i]? with | some (.own _ _) => [i] | _ => [])
    rw [hq]
    exact List.mem_singleton.mpr rfl
  · exact rep_not rel.tr rp nt w
theorem wipe_sub {vs : List Nat} {b : Addr} (h : Own (PX.wipe ρ vs) σ b) : Own ρ σ b := by
  obtain ⟨j, p, d, h1, h2⟩ := h
  exact ⟨j, p, d, (wipe_own h1).2, h2⟩
/-- a sequence as it stands: its cell, its items, and where it stands later -/
theorem seq_at (rel : RelS N H W σ ρ) {a : E} {d : D} {l : List D} {v : V} {vs : List Nat} (hs : ∀ i ∈ hid a ρ, i ∈ vs) (ar : AR N σ a ρ H W d v) (hl : seqOf d = some l) : ∃ b xs, v = .ref b ∧ Reps N H W l xs ∧
    (if d.isTup = true then SqT N.K H b xs ∧ ∀ H1 W1, Ext (Own (PX.wipe ρ vs) σ) H W H1 W1 → SqT N.K H1 b xs else SqL N.K H b xs ∧ ∀ H1 W1, Ext (Own (PX.wipe ρ vs) σ) H W H1 W1 → SqL N.K H1 b xs) := by
  cases d with
  | tup m =>
    cases hl
    obtain ⟨b, xs, rfl, s, r⟩ := ar.1
    exact ⟨b, xs, rfl, r, s, fun H1 W1 x => sqT_ext x s⟩
  | lst m =>
    cases hl
    obtain ⟨b, xs, rfl, s, r⟩ := id ar.1
    exact ⟨b, xs, rfl, r, .of s, fun H1 W1 x => sqL_ext x (hid_own rel hs ar rfl) (.of s)⟩
  | scr m =>
    cases hl
    obtain ⟨b, xs, rfl, s, r⟩ := id ar.1
    exact ⟨b, xs, rfl, r, s.sq, fun H1 W1 x => (s.keep x.frz).sq⟩
  | _ => cases hl
/-- walks to readings -/
theorem WkR.of {ds : List D} {xs : List V} {J : It} {n : Nat} {g : Hp → Prop} {Y : Nat → Hp → V → Hp → Prop} (hT : ∀ x, T x → W x) (r : Reps N H W ds xs) (w : Walk J n g Y) (hn : n = ds.length) (hg : ∀ H1 W1, Ext T H W H1 W1 → g H1)
    (hy : ∀ i H1 W1 x H2, Trk H1 W1 → Reps N H1 W1 ds xs → i < ds.length → Y i H1 x H2 → ∃ d, ds[i]? = some d ∧ Nw H1 W1 H2 W1 ∧ Rep N H2 W1 d x) : WkR N T ds J H W := by
  subst hn
  intro H1 W1 x t
  refine ⟨fun i hi => w.goes i H1 hi (hg H1 W1 x), w.stops H1 (hg H1 W1 x), fun i v H2 hi y => hy i H1 W1 v H2 t (x.reps hT r) hi (w.yields i H1 v H2 hi (hg H1 W1 x) y)⟩
theorem reps_lt {ds : List D} {xs : List V} (r : Reps N H W ds xs) {i : Nat} (hi : i < ds.length) {x : V} (hx : xs[i]? = some x) : ∃ d, ds[i]? = some d ∧ Rep N H W d x := by
  obtain ⟨v, h1, h2⟩ := r.get (List.getElem?_eq_getElem hi)
  rw [hx] at h1
  cases h1
  exact ⟨_, List.getElem?_eq_getElem hi, h2⟩
theorem wk_at {ds : List D} {xs : List V} (i : Nat) (H1 : Hp) (W1 : Addr → Prop) (x : V) (H2 : Hp) (t : Trk H1 W1) (r : Reps N H1 W1 ds xs) (hi : i < ds.length) (y : YAt xs i H1 x H2) : ∃ d, ds[i]? = some d ∧ Nw H1 W1 H2 W1 ∧ Rep N H2 W1 d x := by
  obtain ⟨rfl, hx⟩ := y
  obtain ⟨d, h1, h2⟩ := reps_lt r hi hx
  exact ⟨d, h1, .refl t, h2⟩
theorem enumF_length : ∀ (k : Nat) (l : List D), (enumF k l).length = l.length
  | _, [] => rfl
  | k, _ :: r => congrArg (· + 1) (enumF_length (k + 1) r)
theorem enumF_get : ∀ (k : Nat) (l : List D) (i : Nat), (enumF k l)[i]? = (l[i]?).map fun d => .tup [.int ((k + i : Nat) : Int), d]
  | _, [], i => by simp [enumF]
  | k, d :: r, 0 => by simp [enumF]
  | k, d :: r, i + 1 => by
    have e : (enumF k (d :: r))[i + 1]? = (enumF (k + 1) r)[i]? := rfl
    rw [e, enumF_get (k + 1) r i, show k + 1 + i = k + (i + 1) by omega] <;> rfl
theorem zipD_length : ∀ (l m : List D), (zipD l m).length = min l.length m.length
  | [], m => by cases m <;> simp [zipD]
  | a :: l, [] => by simp [zipD]
  | a :: l, b :: m => by
    show (zipD l m).length + 1 = min (l.length + 1) (m.length + 1)
    rw [zipD_length l m]; omega
theorem zipD_get : ∀ (l m : List D) (i : Nat) (a b : D), l[i]? = some a → m[i]? = some b → (zipD l m)[i]? = some (.tup [a, b])
  | [], _, _, _, _, h, _ => by simp at h
  | _ :: _, [], _, _, _, _, h => by simp at h
  | a :: l, b :: m, 0, _, _, h1, h2 => by
    simp at h1 h2
    subst h1 h2
    rfl
  | _ :: l, _ :: m, i + 1, a, b, h1, h2 => zipD_get l m i a b (by simpa using h1) (by simpa using h2)
/-- a new pair -/
theorem pair_new {p : Addr} {x y : V} {a b : D} (t : Trk H W) (hp : H p = none) (hx : Rep N H W a x) (hy : Rep N H W b y) : Nw H W (upd H p (.tup [x, y])) W ∧ Rep N (upd H p (.tup [x, y])) W (.tup [a, b]) (.ref p) := by
  have n : Nw H W (upd H p (.tup [x, y])) W := .new t hp
  exact ⟨n, p, [x, y], rfl, .inl (.inl upd_same), ⟨x, [y], rfl, n.rep hx, y, [], rfl, n.rep hy, rfl⟩⟩
theorem walk_enumT {K : PySem.W.Frag} {a : Addr} {xs : List V} : Walk (IteT K a) xs.length (fun H => SqT K H a xs) (YPair (fun i => some (.int (i : Nat))) (fun i => xs[i]?)) := by
  refine ⟨fun i _ hi q => ⟨xs, xs[i], q, by simp [hi]⟩, fun _ q => ⟨xs, q, Nat.le_refl _⟩, fun i H v H' _ q y => ?_⟩
  obtain ⟨T, x, h1, h2, h3, h4⟩ := y
  exact ⟨T, .int (i : Nat), x, h1, h2, h3, rfl, h4 xs q⟩
theorem walk_zipT {K : PySem.W.Frag} {a b : Addr} {xs ys : List V} {n : Nat} (hn : n = min xs.length ys.length) : Walk (RZ.ItzT K a b) n (fun H => SqT K H a xs ∧ SqT K H b ys) (YPair (fun i => xs[i]?) (fun i => ys[i]?)) := by
  subst hn
  refine ⟨fun i _ hi q => ?_, fun _ q => ⟨xs, ys, q.1, q.2, by omega⟩, fun i H v H' _ q y => ?_⟩
  · have h1 : i < xs.length := by omega
    have h2 : i < ys.length := by omega
    exact ⟨xs, ys, xs[i], ys[i], q.1, q.2, by simp [h1], by simp [h2]⟩
  · obtain ⟨T, x, z, h1, h2, h3, h4, h5⟩ := y
    exact ⟨T, x, z, h1, h2, h3, h4 xs q.1, h5 ys q.2⟩
theorem walk_revT {K : PySem.W.Frag} {a : Addr} {xs : List V} : Walk (RT.ItvT K a xs.length) xs.length (fun H => SqT K H a xs) (fun i H x H' => H' = H ∧ xs[xs.length - 1 - i]? = some x) :=
  ⟨fun i _ hi q => ⟨hi, xs, xs[xs.length - 1 - i]'(by omega), q, by simp [show xs.length - 1 - i < xs.length by omega]⟩, fun _ _ => Nat.le_refl _, fun _ _ _ _ _ q y => ⟨y.1, y.2 xs q⟩⟩
theorem piImp {tg e : Expr} {t t' : TI} (h : PI X tg e t) (i : ∀ σ H R, t' σ H R → t σ H R) : PI X tg e t' := ⟨fun pins s σ H R I hw => h.run pins s σ H R I (i σ H R hw)⟩
theorem i_seq {tg e : Expr} {a : E} (hK : X.K = N.K) (ha : Rdr N Wx X e a (ev C G a)) : PI X tg e (TIt N Wx (evI C G (.isq a))) := by
  obtain ⟨t, pt, le⟩ := ha.rdA
  refine piImp (pi_seqA pt) fun σ H R hq => le σ H _ ?_
  obtain ⟨W, ρ, rel, c⟩ := hq
  have c' : Cont N Wx σ ρ H W (fun q ρ1 H1 W1 => ∀ J, WkR N (Own (PX.wipe ρ1 q.2) σ) q.1 J H1 W1 → R J H1) ((rdOr a (ev C G a) ρ).bind fun d ρ => (ofO (seqOf d) ρ).bind fun l ρ => .ok (l, hid a ρ) ρ) := c
  refine ⟨W, ρ, rel, (c'.bind rel).mono fun d ρ1 H1 W1 s ⟨_, c1⟩ v hv => ?_⟩
  obtain ⟨l, hl, c2⟩ := c1.ofO
  have c3 := c2.here s.rel
  obtain ⟨b, xs, rfl, r, q⟩ := seq_at s.rel (fun _ z => z) hv hl
  have hT : ∀ x, Own (PX.wipe ρ1 (hid a ρ1)) σ x → W1 x := fun x h => s.rel.own (wipe_sub h)
  by_cases ht : d.isTup = true
  · rw [if_pos ht] at q
    exact ⟨b, xs, rfl, .inr ⟨by rw [hK]; exact q.1, c3 _ (WkR.of hT r (by rw [hK]; exact walk_tup) r.length.symm q.2 wk_at)⟩⟩
  · rw [if_neg ht] at q
    exact ⟨b, xs, rfl, .inl ⟨by rw [hK]; exact q.1, c3 _ (WkR.of hT r (by rw [hK]; exact walk_list) r.length.symm q.2 wk_at)⟩⟩
theorem i_enum {e : Expr} {a : E} {x : Str} {elts : List Expr} {k : Nat} {tpos p pos : Pos} (hK : X.K = N.K) (hx : x = "enumerate") (hg : Gl X x) (hm : X.mg x = none) (hn : notStar e = true) (ha : Rdr N Wx X e a (ev C G a)) :
    PI X (.Tuple elts k tpos) (.Call (.Name x p) [e] [] pos) (TIt N Wx (evI C G (.enum a))) := by
  subst hx
  obtain ⟨t, pt, le⟩ := ha.rdA
  refine piImp (pi_enumA hg hm (pa_cons pt pa_nil (star_cons hn _ _)) (star_cons hn _ _)) fun σ H R hq => le σ H _ ?_
  obtain ⟨W, ρ, rel, c⟩ := hq
  have c' : Cont N Wx σ ρ H W (fun q ρ1 H1 W1 => ∀ J, WkR N (Own (PX.wipe ρ1 q.2) σ) q.1 J H1 W1 → R J H1) (((rdOr a (ev C G a) ρ).bind fun d ρ => (ofO (seqOf d) ρ).bind fun l ρ => .ok (l, hid a ρ) ρ).bind fun q ρ => .ok (enumF 0 q.1, q.2) ρ) := c
  have e1 : (((rdOr a (ev C G a) ρ).bind fun d ρ => (ofO (seqOf d) ρ).bind fun l ρ => Res.ok (l, hid a ρ) ρ).bind fun q ρ => Res.ok (enumF 0 q.1, q.2) ρ) = (rdOr a (ev C G a) ρ).bind fun d ρ => (ofO (seqOf d) ρ).bind fun l ρ => Res.ok (enumF 0 l, hid a ρ) ρ := by
    cases rdOr a (ev C G a) ρ with
    | ok d ρ2 =>
      show Res.bind (Res.bind (ofO (seqOf d) ρ2) _) _ = Res.bind (ofO (seqOf d) ρ2) _
      cases seqOf d <;> rfl
    | exc c fs => rfl
    | bad => rfl
  rw [e1] at c'
  refine ⟨W, ρ, rel, (c'.bind rel).mono fun d ρ1 H1 W1 s ⟨_, c1⟩ v hv => ?_⟩
  obtain ⟨l, hl, c2⟩ := c1.ofO
  have c3 := c2.here s.rel
  obtain ⟨b, xs, rfl, r, q⟩ := seq_at s.rel (fun _ z => z) hv hl
  have hT : ∀ x, Own (PX.wipe ρ1 (hid a ρ1)) σ x → W1 x := fun x h => s.rel.own (wipe_sub h)
  have hy : ∀ {J : It} {g : Hp → Prop}, Walk J xs.length g (YPair (fun i => some (.int (i : Nat))) (fun i => xs[i]?)) → (∀ H2 W2, Ext (Own (PX.wipe ρ1 (hid a ρ1)) σ) H1 W1 H2 W2 → g H2) → WkR N (Own (PX.wipe ρ1 (hid a ρ1)) σ) (enumF 0 l) J H1 W1 := fun {J g} w hg H2 W2 x t => by
    have n : (enumF 0 l).length = xs.length := by rw [enumF_length, r.length]
    rw [n]
    refine ⟨fun i hi => w.goes i H2 hi (hg _ _ x), w.stops H2 (hg _ _ x), fun i v H3 hi y => ?_⟩
    obtain ⟨T, u, z, rfl, hp, rfl, h1, h2⟩ := w.yields i H2 v H3 hi (hg _ _ x) y
    cases h1
    obtain ⟨d, h3, h4⟩ := reps_lt (x.reps hT r) (by rw [r.length]; exact hi) h2
    obtain ⟨nw, rp⟩ := pair_new (N := N) (a := .int (i : Nat)) t hp rfl h4
    exact ⟨_, by rw [enumF_get, h3, Nat.zero_add] <;> rfl, nw, rp⟩
  by_cases ht : d.isTup = true
  · rw [if_pos ht] at q
    exact ⟨b, xs, rfl, .inr ⟨by rw [hK]; exact q.1, c3 _ (hy (by rw [hK]; exact walk_enumT) q.2)⟩⟩
  · rw [if_neg ht] at q
    exact ⟨b, xs, rfl, .inl ⟨by rw [hK]; exact q.1, c3 _ (hy (by rw [hK]; exact walk_enum) q.2)⟩⟩
end
end PX

end

section
set_option Elab.async false
set_option linter.all false
set_option autoImplicit false
set_option maxRecDepth 100000
namespace PX
open PySem PySem.Spec PyProof.Rows L2
section
variable {N : Nm} {Wx : WX} {X : Cx} {σ : L2.St} {ρ ρ1 : Ev} {H H0 H1 : Hp} {W W1 T : Addr → Prop}
variable (C : Call) (G : Nat → D)
/-- a walk's wish -/
abbrev KI (N : Nm) (σ : L2.St) (R : It → Hp → Prop) : List D × List Nat → Ev → Hp → (Addr → Prop) → Prop := fun q ρ1 H1 W1 => ∀ J, WkR N (Own (PX.wipe ρ1 q.2) σ) q.1 J H1 W1 → R J H1
theorem irange_length {i j : Int} : (irange i j).length = (j - i).toNat := by unfold irange; rw [List.length_map, List.length_range]
theorem irange_get {i j : Int} {k : Nat} (h : k < (j - i).toNat) : (irange i j)[k]? = some (.int (i + (k : Nat))) := by
  unfold irange
  rw [List.getElem?_map, List.getElem?_range h] <;> rfl
theorem wk_range {i j : Int} : WkR N T (irange i j) (Itr i (j - i).toNat) H W := by
  intro H1 W1 x t
  rw [irange_length]
  refine ⟨fun k hk => hk, Nat.le_refl _, fun k v H2 hk y => ?_⟩
  obtain ⟨rfl, rfl⟩ := y
  exact ⟨_, irange_get hk, .refl t, rfl⟩
theorem i_rng1 {tg e : Expr} {a : E} {x : Str} {p pos : Pos} (hx : x = "range") (hg : Gl X x) (hm : X.mg x = none) (hn : notStar e = true) (ha : Rdr N Wx X e a (ev C G a)) : PI X tg (.Call (.Name x p) [e] [] pos) (TIt N Wx (evI C G (.rng1 a))) := by
  subst hx
  refine piImp (pi_range1 hg hm (pa_cons ha.rd pa_nil (star_cons hn _ _)) (star_cons hn _ _)) fun σ H R hq => ?_
  obtain ⟨W, ρ, rel, c⟩ := hq
  have c' : Cont N Wx σ ρ H W (KI N σ R) ((rdOr a (ev C G a) ρ).bind fun d ρ => match d with
    | .int i => if rOk 0 i then .ok (irange 0 i, []) ρ else .bad
    | _ => .bad) := c
  refine ⟨W, ρ, rel, (c'.bind rel).mono fun d ρ1 H1 W1 s ⟨_, c1⟩ v hv => ?_⟩
  cases d with
  | int i =>
    by_cases ho : rOk 0 i = true
    · have c2 : Cont N Wx σ ρ1 H1 W1 (KI N σ R) (if rOk 0 i then .ok (irange 0 i, []) ρ1 else .bad) := c1
      rw [if_pos ho] at c2
      obtain ⟨b1, b2, b3, b4, b5⟩ := rgOk_of ho
      have hv' : v = .int i := hv
      subst hv'
      have e : i.toNat = (i - 0).toNat := by rw [Int.sub_zero]
      exact ⟨i, rfl, b3, b4, by rw [e]; exact c2.here s.rel _ wk_range⟩
    · have c2 : Cont N Wx σ ρ1 H1 W1 (KI N σ R) (if rOk 0 i then .ok (irange 0 i, []) ρ1 else .bad) := c1
      rw [if_neg ho] at c2
      exact c2.elim
  | _ => exact c1.elim
theorem i_rng2 {tg ea eb : Expr} {a b : E} {x : Str} {p pos : Pos} (hx : x = "range") (hg : Gl X x) (hm : X.mg x = none) (hn : notStar ea = true) (hn' : notStar eb = true) (ha : Rdr N Wx X ea a (ev C G a)) (hb : Rdr N Wx X eb b (ev C G b)) :
    PI X tg (.Call (.Name x p) [ea, eb] [] pos) (TIt N Wx (evI C G (.rng2 a b))) := by
  subst hx
  obtain ⟨ta, tb, pa, pb, le⟩ := pe_two ha hb
  refine piImp (pi_range2 hg hm (pa_cons pa (pa_cons pb pa_nil (star_cons hn' _ _)) (star_cons hn _ _)) (by rw [star_cons hn, star_cons hn'] <;> rfl) (star_cons hn' _ _)) fun σ H R hq => le σ H _ ?_
  obtain ⟨W, ρ, rel, c⟩ := hq
  have c' : Cont N Wx σ ρ H W (KI N σ R) ((two a b (ev C G a) (ev C G b) ρ).bind fun p ρ => match p.1, p.2 with
    | .int i, .int j => if rOk i j then .ok (irange i j, []) ρ else .bad
    | _, _ => .bad) := c
  refine ⟨W, ρ, rel, (c'.bind rel).mono fun d ρ1 H1 W1 s ⟨_, c1⟩ v u hv hu t => ?_⟩
  obtain ⟨d1, d2⟩ := d
  cases d1 with
  | int i => cases d2 with
    | int j =>
      have c2 : Cont N Wx σ ρ1 H1 W1 (KI N σ R) (if rOk i j then .ok (irange i j, []) ρ1 else .bad) := c1
      by_cases ho : rOk i j = true
      · rw [if_pos ho] at c2
        obtain ⟨b1, b2, b3, b4, b5⟩ := rgOk_of ho
        have hv' : v = .int i := hv
        have hu' : u = .int j := hu
        subst hv' hu'
        exact ⟨i, j, rfl, ⟨b1, b2, b3, b4⟩, c2.here s.rel _ wk_range⟩
      · rw [if_neg ho] at c2
        exact c2.elim
    | _ => exact c1.elim
  | _ => exact c1.elim
theorem wk_down {i j : Int} : WkR N T (irange (j + 1) (i + 1)).reverse (Itc i (-1) (i - j).toNat) H W := by
  intro H1 W1 x t
  have n : (irange (j + 1) (i + 1)).length = (i - j).toNat := by rw [irange_length]; omega
  rw [List.length_reverse, n]
  refine ⟨fun k hk => hk, Nat.le_refl _, fun k v H2 hk y => ?_⟩
  obtain ⟨rfl, rfl⟩ := y
  refine ⟨_, by rw [List.getElem?_reverse (by rw [n]; exact hk), n, irange_get (by omega)], .refl t, ?_⟩
  show V.int _ = V.int _
  congr 1
  omega
theorem i_rng3 {tg ea eb ec : Expr} {a b d : E} {x : Str} {p pos : Pos} (hx : x = "range") (hg : Gl X x) (hm : X.mg x = none) (hn : notStar ea = true) (hn' : notStar eb = true) (hn'' : notStar ec = true) (ha : Rdr N Wx X ea a (ev C G a)) (hb : Rdr N Wx X eb b (ev C G b)) (hd : Rdr N Wx X ec d (ev C G d)) :
    PI X tg (.Call (.Name x p) [ea, eb, ec] [] pos) (TIt N Wx (evI C G (.rng3 a b d))) := by
  subst hx
  obtain ⟨ta, tb, pa, pb, le⟩ := pe_two ha hb
  refine piImp (pi_range3 hg hm (pa_cons pa (pa_cons pb (pa_cons hd.ev pa_nil (star_cons hn'' _ _)) (star_cons hn' _ _)) (star_cons hn _ _)) (star_cons hn _ _) (star_any (by simp [hn', hn'']))) fun σ H R hq => le σ H _ ?_
  obtain ⟨W, ρ, rel, c⟩ := hq
  have c' : Cont N Wx σ ρ H W (KI N σ R) ((two a b (ev C G a) (ev C G b) ρ).bind fun p ρ => (ev C G d ρ).bind fun z ρ => match p.1, p.2, z.1 with
    | .int i, .int j, .int (-1) => if rOk j i then .ok ((irange (j + 1) (i + 1)).reverse, []) ρ else .bad
    | _, _, _ => .bad) := c
  refine ⟨W, ρ, rel, (c'.bind rel).mono fun q ρ1 H1 W1 s ⟨_, c1⟩ v u hv hu t => ?_⟩
  refine TEv.keep (F := fun z ρ => match q.1, q.2, z with
    | .int i, .int j, .int (-1) => if rOk j i then .ok ((irange (j + 1) (i + 1)).reverse, []) ρ else .bad
    | _, _, _ => .bad) s.rel c1 fun z ρ2 H2 W2 w s2 hw c2 => ?_
  obtain ⟨d1, d2⟩ := q
  cases d1 with
  | int i => cases d2 with
    | int j => cases z with
      | int m =>
        by_cases hm1 : m = -1
        · subst hm1
          have c3 : Cont N Wx σ ρ2 H2 W2 (KI N σ R) (if rOk j i then .ok ((irange (j + 1) (i + 1)).reverse, []) ρ2 else .bad) := c2
          by_cases ho : rOk j i = true
          · rw [if_pos ho] at c3
            obtain ⟨b1, b2, b3, b4, b5⟩ := rgOk_of ho
            have hv' : v = .int i := hv
            have hu' : u = .int j := hu
            have hw' : w = .int (-1) := hw
            subst hv' hu' hw'
            exact ⟨i, j, -1, _, rfl, .neg b3 b4 b1 b2, c3.here s2.rel _ wk_down⟩
          · rw [if_neg ho] at c3
            exact c3.elim
        · split at c2
          · rename_i h1 h2 h3
            cases h3
            exact absurd rfl hm1
          · exact c2.elim
      | _ => exact c2.elim
    | _ => exact c2.elim
  | _ => exact c2.elim
theorem i_rev {tg e : Expr} {a : E} {x : Str} {p pos : Pos} (hK : X.K = N.K) (hx : x = "reversed") (hg : Gl X x) (hm : X.mg x = none) (hn : notStar e = true) (ha : Rdr N Wx X e a (ev C G a)) : PI X tg (.Call (.Name x p) [e] [] pos) (TIt N Wx (evI C G (.rev a))) := by
  subst hx
  obtain ⟨t, pt, le⟩ := ha.rdA
  refine piImp (RT.pi_revA hg hm pt (star_cons hn _ _)) fun σ H R hq => le σ H _ ?_
  obtain ⟨W, ρ, rel, c⟩ := hq
  have c' : Cont N Wx σ ρ H W (KI N σ R) (((rdOr a (ev C G a) ρ).bind fun d ρ => (ofO (seqOf d) ρ).bind fun l ρ => .ok (l, hid a ρ) ρ).bind fun q ρ => .ok (q.1.reverse, q.2) ρ) := c
  have e1 : (((rdOr a (ev C G a) ρ).bind fun d ρ => (ofO (seqOf d) ρ).bind fun l ρ => Res.ok (l, hid a ρ) ρ).bind fun q ρ => Res.ok (q.1.reverse, q.2) ρ) = (rdOr a (ev C G a) ρ).bind fun d ρ => (ofO (seqOf d) ρ).bind fun l ρ => Res.ok (l.reverse, hid a ρ) ρ := by
    cases rdOr a (ev C G a) ρ with
    | ok d ρ2 =>
      show Res.bind (Res.bind (ofO (seqOf d) ρ2) _) _ = Res.bind (ofO (seqOf d) ρ2) _
      cases seqOf d <;> rfl
    | exc c fs => rfl
    | bad => rfl
  rw [e1] at c'
  refine ⟨W, ρ, rel, (c'.bind rel).mono fun d ρ1 H1 W1 s ⟨_, c1⟩ v hv => ?_⟩
  obtain ⟨l, hl, c2⟩ := c1.ofO
  have c3 := c2.here s.rel
  obtain ⟨b, xs, rfl, r, q⟩ := seq_at s.rel (fun _ z => z) hv hl
  have hT : ∀ x, Own (PX.wipe ρ1 (hid a ρ1)) σ x → W1 x := fun x h => s.rel.own (wipe_sub h)
  have hy : ∀ {J : It} {g : Hp → Prop}, Walk J xs.length g (fun i H x H' => H' = H ∧ xs[xs.length - 1 - i]? = some x) → (∀ H2 W2, Ext (Own (PX.wipe ρ1 (hid a ρ1)) σ) H1 W1 H2 W2 → g H2) → WkR N (Own (PX.wipe ρ1 (hid a ρ1)) σ) l.reverse J H1 W1 := fun {J g} w hg H2 W2 x t => by
    have n : l.reverse.length = xs.length := by rw [List.length_reverse, r.length]
    rw [n]
    refine ⟨fun i hi => w.goes i H2 hi (hg _ _ x), w.stops H2 (hg _ _ x), fun i v H3 hi y => ?_⟩
    obtain ⟨rfl, h2⟩ := w.yields i H2 v H3 hi (hg _ _ x) y
    have hl := r.length
    obtain ⟨d, h3, h4⟩ := reps_lt (x.reps hT r) (by omega) h2
    exact ⟨d, by rw [List.getElem?_reverse (by omega), hl]; exact h3, .refl t, h4⟩
  by_cases ht : d.isTup = true
  · rw [if_pos ht] at q
    exact ⟨b, xs, rfl, .inr ⟨by rw [hK]; exact q.1, c3 _ (hy (by rw [hK]; exact walk_revT) q.2)⟩⟩
  · rw [if_neg ht] at q
    exact ⟨b, xs, rfl, .inl ⟨by rw [hK]; exact q.1, c3 _ (hy (by rw [hK]; exact walk_rev) q.2)⟩⟩
theorem i_zip {ea eb : Expr} {a b : E} {x : Str} {elts : List Expr} {k : Nat} {tpos p pos : Pos} (hK : X.K = N.K) (hx : x = "zip") (hg : Gl X x) (hm : X.mg x = none) (hn : notStar ea = true) (hn' : notStar eb = true) (ha : Rdr N Wx X ea a (ev C G a)) (hb : Rdr N Wx X eb b (ev C G b)) :
    PI X (.Tuple elts k tpos) (.Call (.Name x p) [ea, eb] [] pos) (TIt N Wx (evI C G (.zip a b))) := by
  subst hx
  obtain ⟨ta, tb, pa, pb, le⟩ := pe_twoA ha hb
  refine piImp (RZ.pi_zipA hg hm (pa_cons pa (pa_cons pb pa_nil (star_cons hn' _ _)) (star_cons hn _ _)) (star_cons hn _ _) (star_any (by simp [hn']))) fun σ H R hq => le σ H _ ?_
  obtain ⟨W, ρ, rel, c⟩ := hq
  have c' : Cont N Wx σ ρ H W (KI N σ R) ((two a b (ev C G a) (ev C G b) ρ).bind fun p ρ => (ofO (seqOf p.1) ρ).bind fun l ρ => (ofO (seqOf p.2) ρ).bind fun m ρ => if p.1.isTup == p.2.isTup then .ok (zipD l m, hid a ρ ++ hid b ρ) ρ else .bad) := c
  refine ⟨W, ρ, rel, (c'.bind rel).mono fun d ρ1 H1 W1 s ⟨_, c1⟩ v u hv hu t => ?_⟩
  obtain ⟨l, hl, c2⟩ := c1.ofO
  obtain ⟨m, hm', c3⟩ := c2.ofO
  by_cases hs : (d.1.isTup == d.2.isTup) = true
  · rw [if_pos hs] at c3
    have c4 := c3.here s.rel
    obtain ⟨b1, xs, rfl, r1, q1⟩ := seq_at (vs := hid a ρ1 ++ hid b ρ1) s.rel (fun _ z => List.mem_append_left _ z) hv hl
    obtain ⟨b2, ys, rfl, r2, q2⟩ := seq_at (vs := hid a ρ1 ++ hid b ρ1) s.rel (fun _ z => List.mem_append_right _ z) hu hm'
    have hT : ∀ x, Own (PX.wipe ρ1 (hid a ρ1 ++ hid b ρ1)) σ x → W1 x := fun x h => s.rel.own (wipe_sub h)
    have hy : ∀ {J : It} {g : Hp → Prop}, Walk J (min xs.length ys.length) g (YPair (fun i => xs[i]?) (fun i => ys[i]?)) → (∀ H2 W2, Ext (Own (PX.wipe ρ1 (hid a ρ1 ++ hid b ρ1)) σ) H1 W1 H2 W2 → g H2) → WkR N (Own (PX.wipe ρ1 (hid a ρ1 ++ hid b ρ1)) σ) (zipD l m) J H1 W1 := fun {J g} w hg H2 W2 x t => by
      have n : (zipD l m).length = min xs.length ys.length := by rw [zipD_length, r1.length, r2.length]
      rw [n]
      refine ⟨fun i hi => w.goes i H2 hi (hg _ _ x), w.stops H2 (hg _ _ x), fun i v H3 hi y => ?_⟩
      obtain ⟨T, z1, z2, rfl, hp, rfl, h1, h2⟩ := w.yields i H2 v H3 hi (hg _ _ x) y
      obtain ⟨d1, h3, h4⟩ := reps_lt (x.reps hT r1) (by rw [r1.length]; omega) h1
      obtain ⟨d2, h5, h6⟩ := reps_lt (x.reps hT r2) (by rw [r2.length]; omega) h2
      obtain ⟨nw, rp⟩ := pair_new (N := N) t hp h4 h6
      exact ⟨_, zipD_get l m i d1 d2 h3 h5, nw, rp⟩
    by_cases ht : d.1.isTup = true
    · have ht2 : d.2.isTup = true := by rw [ht] at hs; revert hs; cases d.2.isTup <;> decide
      rw [if_pos ht] at q1
      rw [if_pos ht2] at q2
      exact ⟨b1, b2, xs, ys, rfl, .inr ⟨by rw [hK]; exact q1.1, by rw [hK]; exact q2.1, c4 _ (hy (g := fun H => SqT N.K H b1 xs ∧ SqT N.K H b2 ys) (by rw [hK]; exact walk_zipT rfl) fun H2 W2 x => ⟨q1.2 _ _ x, q2.2 _ _ x⟩)⟩⟩
    · have ht2 : ¬ d.2.isTup = true := fun z => ht (by rw [z] at hs; revert hs; cases d.1.isTup <;> decide)
      rw [if_neg ht] at q1
      rw [if_neg ht2] at q2
      exact ⟨b1, b2, xs, ys, rfl, .inl ⟨by rw [hK]; exact q1.1, by rw [hK]; exact q2.1, c4 _ (hy (g := fun H => SqL N.K H b1 xs ∧ SqL N.K H b2 ys) (by rw [hK]; exact walk_zip rfl) fun H2 W2 x => ⟨q1.2 _ _ x, q2.2 _ _ x⟩)⟩⟩
  · rw [if_neg hs] at c3
    exact c3.elim
end
end PX

end

section
set_option Elab.async false
set_option linter.all false
set_option autoImplicit false
set_option maxRecDepth 100000
namespace PX
open PySem PySem.Spec PyProof.Rows L2
section
variable {N : Nm} {Wx : WX} {X : Cx} {σ : L2.St} {ρ ρ1 : Ev} {H H0 H1 : Hp} {W W1 : Addr → Prop}
variable (C : Call) (G : Nat → D)
/-- for p in zip(a, b), two tuples -/
theorem i_zipN {ea eb : Expr} {a b : E} {x n : Str} {np p pos : Pos} (hK : X.K = N.K) (hx : x = "zip") (hg : Gl X x) (hm : X.mg x = none) (hn : notStar ea = true) (hn' : notStar eb = true) (ha : Rdr N Wx X ea a (ev C G a)) (hb : Rdr N Wx X eb b (ev C G b)) :
    PI X (.Name n np) (.Call (.Name x p) [ea, eb] [] pos) (TIt N Wx (evI C G (.zipN a b))) := by
  subst hx
  obtain ⟨ta, tb, pa, pb, le⟩ := pe_two ha hb
  refine piImp (pi_zipN hg hm (pa_cons pa (pa_cons pb pa_nil (star_cons hn' _ _)) (star_cons hn _ _)) (star_cons hn _ _) (star_any (by simp [hn']))) fun σ H R hq => le σ H _ ?_
  obtain ⟨W, ρ, rel, c⟩ := hq
  have c' : Cont N Wx σ ρ H W (KI N σ R) ((two a b (ev C G a) (ev C G b) ρ).bind fun p ρ => match p.1, p.2 with
    | .tup l, .tup m => .ok (zipD l m, []) ρ
    | _, _ => .bad) := c
  refine ⟨W, ρ, rel, (c'.bind rel).mono fun d ρ1 H1 W1 s ⟨_, c1⟩ v u hv hu t => ?_⟩
  obtain ⟨d1, d2⟩ := d
  have e1 : ∃ l, d1 = .tup l := by cases d1 <;> first | exact ⟨_, rfl⟩ | exact c1.elim
  obtain ⟨l, rfl⟩ := e1
  have e2 : ∃ m, d2 = .tup m := by cases d2 <;> first | exact ⟨_, rfl⟩ | exact c1.elim
  obtain ⟨m, rfl⟩ := e2
  have c4 : KI N σ R (zipD l m, []) ρ1 H1 W1 := Cont.here (N := N) (Wx := Wx) (a := ((zipD l m, []) : List D × List Nat)) s.rel c1
  obtain ⟨b1, xs, rfl, q1, r1⟩ := hv
  obtain ⟨b2, ys, rfl, q2, r2⟩ := hu
  have hT : ∀ x, Own (PX.wipe ρ1 []) σ x → W1 x := fun x h => s.rel.own h
  have hy : WkR N (Own (PX.wipe ρ1 []) σ) (zipD l m) (RZ.ItzT N.K b1 b2) H1 W1 := fun H2 W2 x t => by
    have n : (zipD l m).length = min xs.length ys.length := by rw [zipD_length, r1.length, r2.length]
    have w := walk_zipT (K := N.K) (a := b1) (b := b2) (xs := xs) (ys := ys) rfl
    have g : SqT N.K H2 b1 xs ∧ SqT N.K H2 b2 ys := ⟨sqT_ext x q1, sqT_ext x q2⟩
    rw [n]
    refine ⟨fun i hi => w.goes i H2 hi g, w.stops H2 g, fun i v H3 hi y => ?_⟩
    obtain ⟨T, z1, z2, rfl, hp, rfl, h1, h2⟩ := w.yields i H2 v H3 hi g y
    obtain ⟨e1, h3, h4⟩ := reps_lt (x.reps hT r1) (by rw [r1.length]; omega) h1
    obtain ⟨e2, h5, h6⟩ := reps_lt (x.reps hT r2) (by rw [r2.length]; omega) h2
    obtain ⟨nw, rp⟩ := pair_new (N := N) t hp h4 h6
    exact ⟨_, zipD_get l m i e1 e2 h3 h5, nw, rp⟩
  exact ⟨b1, b2, xs, ys, rfl, by rw [hK]; exact q1, by rw [hK]; exact q2, c4 _ (by rw [hK]; exact hy)⟩
theorem pairs_reps : ∀ {l m : List D} {xs ys vs : List V} {H2 : Hp} {W2 : Addr → Prop} (k : Nat), Reps N H2 W2 l (xs.drop k) → Reps N H2 W2 m (ys.drop k) → vs.length = min xs.length ys.length - k → (∀ (j : Nat) (v : V), vs[j]? = some v → ∃ T x y, v = .ref T ∧ xs[k + j]? = some x ∧ ys[k + j]? = some y ∧ H2 T = some (.tup [x, y])) → Reps N H2 W2 (zipD l m) vs
  | [], m, xs, ys, vs, H2, W2, k, h1, h2, hl, hp => by
    have e : xs.drop k = [] := h1
    have : xs.length ≤ k := by simpa using e
    have : vs = [] := List.eq_nil_of_length_eq_zero (by omega)
    subst this
    cases m <;> rfl
  | d :: l, [], xs, ys, vs, H2, W2, k, h1, h2, hl, hp => by
    have e : ys.drop k = [] := h2
    have : ys.length ≤ k := by simpa using e
    have : vs = [] := List.eq_nil_of_length_eq_zero (by omega)
    subst this
    rfl
  | d :: l, e :: m, xs, ys, vs, H2, W2, k, ⟨x, r, e1, h1, h1'⟩, ⟨y, r', e2, h2, h2'⟩, hl, hp => by
    have hx : k < xs.length := by
      refine Nat.lt_of_not_le fun z => ?_
      rw [List.drop_eq_nil_of_le z] at e1; cases e1
    have hy : k < ys.length := by
      refine Nat.lt_of_not_le fun z => ?_
      rw [List.drop_eq_nil_of_le z] at e2; cases e2
    rw [List.drop_eq_getElem_cons hx] at e1
    rw [List.drop_eq_getElem_cons hy] at e2
    cases e1; cases e2
    cases vs with
    | nil => simp at hl; omega
    | cons v vs =>
      obtain ⟨T, x', y', rfl, q1, q2, q3⟩ := hp 0 v rfl
      rw [Nat.add_zero, List.getElem?_eq_getElem hx] at q1
      rw [Nat.add_zero, List.getElem?_eq_getElem hy] at q2
      cases q1; cases q2
      refine ⟨.ref T, vs, rfl, ⟨T, _, rfl, .inl (.inl q3), _, _, rfl, h1, _, _, rfl, h2, rfl⟩, pairs_reps (k + 1) h1' h2' (by simp at hl; omega) fun j v hv => ?_⟩
      obtain ⟨T', x', y', q1, q2, q3, q4⟩ := hp (j + 1) v (by simpa using hv)
      exact ⟨T', x', y', q1, by rw [show k + 1 + j = k + (j + 1) by omega]; exact q2, by rw [show k + 1 + j = k + (j + 1) by omega]; exact q3, q4⟩
/-- list(zip(a, b)), two tuples -/
theorem r_lzip {ea eb : Expr} {a b : E} {x y : Str} {p p1 pos q : Pos} (hK : X.K = N.K) (hc : X.calm = true) (hx : x = "list") (hg : Gl X x) (hm : X.mg x = none) (hy : y = "zip") (hgy : Gl X y) (hmy : X.mg y = none) (hn : notStar ea = true) (hn' : notStar eb = true)
    (ha : Rdr N Wx X ea a (ev C G a)) (hb : Rdr N Wx X eb b (ev C G b)) :
    Rdr N Wx X (.Call (.Name x p) [.Call (.Name y p1) [ea, eb] [] q] [] pos) (.bi .lzip (.cons a (.cons b .nil))) (ev C G (.bi .lzip (.cons a (.cons b .nil)))) := by
  subst hx hy
  obtain ⟨ta, tb, pa, pb, le⟩ := pe_two ha hb
  have hs : [eb].all notStar = true := by rw [List.all_cons, hn'] <;> rfl
  refine r_of (peImp (pe_listZip hc hg hm hgy hmy (pa_cons pa (pa_cons pb pa_nil (star_cons hn' _ _)) (star_cons hn _ _)) (star_cons hn _ _) (fun _ => star_any hs)) fun σ H Q hq => le σ H _ ?_) fun _ e => nomatch e
  obtain ⟨W, ρ, rel, c⟩ := hq
  have c' := rg2_cont (N := N) (Wx := Wx) C G c
  refine ⟨W, ρ, rel, (c'.bind rel).mono fun d ρ1 H1 W1 s ⟨_, c1⟩ v u hv hu t => ?_⟩
  obtain ⟨z, hz, c2⟩ := c1.ofO0
  obtain ⟨d1, d2⟩ := d
  have e1 : ∃ l, d1 = .tup l := by cases d1 <;> first | exact ⟨_, rfl⟩ | cases hz
  obtain ⟨l, rfl⟩ := e1
  have e2 : ∃ m, d2 = .tup m := by cases d2 <;> first | exact ⟨_, rfl⟩ | cases hz
  obtain ⟨m, rfl⟩ := e2
  cases hz
  obtain ⟨b1, xs, rfl, q1, r1⟩ := hv
  obtain ⟨b2, ys, rfl, q2, r2⟩ := hu
  refine ⟨b1, b2, xs, ys, rfl, by rw [hK]; exact q1, by rw [hK]; exact q2, fun S H2 vs' hS eS hl hp g => ?_⟩
  have nw : Nw H1 W1 H2 (fun b => W1 b ∨ b = S) := by
    have ne : ∀ b o, H1 b = some o → b ≠ S := fun b o e z => by rw [z, hS] at e; cases e
    refine ⟨⟨fun b o e _ => g.keep b o (ne b o e) e, fun b w => ?_, fun b w _ => .inl w, fun b o u e => g.keep b _ (ne b _ e) e, fun b xs e => g.keep b _ (ne b _ e) e, fun b e => g.there b e⟩, fun b w => ?_⟩
    · rcases w with w | rfl
      · exact .inl w
      · exact .inr hS
    · rcases w with w | rfl
      · obtain ⟨o, e, mo⟩ := t b w
        exact ⟨o, g.keep b o (ne b o e) e, mo⟩
      · exact ⟨_, eS, trivial⟩
  have rp : Reps N H2 (fun b => W1 b ∨ b = S) (zipD l m) vs' := pairs_reps 0 (nw.reps r1) (nw.reps r2) hl fun j v hv => by
    obtain ⟨T, x, y, e1, e2, e3, e4⟩ := hp j v hv
    exact ⟨T, x, y, e1, by rw [Nat.zero_add]; exact e2, by rw [Nat.zero_add]; exact e3, e4⟩
  exact Gv.mk (H0 := H) s c2 _ _ _ nw ⟨S, rfl, .inr rfl, ⟨vs', eS, rp⟩, hS⟩
end
end PX

end

section
set_option Elab.async false
set_option linter.all false
set_option autoImplicit false
set_option maxRecDepth 100000
namespace PX
open PySem PySem.Spec PyProof.Rows L2
section
variable {N : Nm} {Wx : WX} {X : Cx} {σ σ1 σ2 : L2.St} {ρ ρ1 ρ2 : Ev} {H H0 H1 H2 : Hp} {W W1 W2 T T1 : Addr → Prop}
variable (C : Call) (G : Nat → D)
/-! ### a step that stores -/
structure Sst (N : Nm) (σ : L2.St) (ρ : Ev) (H : Hp) (W : Addr → Prop) (σ1 : L2.St) (ρ1 : Ev) (H1 : Hp) (W1 : Addr → Prop) : Prop where
  rel : RelS N H1 W1 σ1 ρ1
  ext : Ext (Own ρ σ) H W H1 W1
  sub : ∀ a, Own ρ1 σ1 a → Own ρ σ a ∨ H a = none
  par : ∀ (i : Nat) (d : D), ρ[i]? = some (Cell.own true d) → ∃ d', ρ1[i]? = some (Cell.own true d') ∧ σ1[i]? = σ[i]?
  uns : ∀ (i : Nat), ρ1[i]? = some Cell.unset → ρ[i]? = some Cell.unset ∧ σ1[i]? = σ[i]?
  len : σ1.length = σ.length
theorem Stp.sst (s : Stp N σ ρ H W ρ1 H1 W1) : Sst N σ ρ H W σ ρ1 H1 W1 := ⟨s.rel, s.ext, fun a h => .inl (s.sub a h), fun i d h => let ⟨d', h'⟩ := s.par i d h; ⟨d', h', rfl⟩, fun i h => ⟨s.uns i h, rfl⟩, rfl⟩
theorem Sst.refl (r : RelS N H W σ ρ) : Sst N σ ρ H W σ ρ H W := (Stp.refl r).sst
theorem Sst.trans (r : RelS N H W σ ρ) (a : Sst N σ ρ H W σ1 ρ1 H1 W1) (b : Sst N σ1 ρ1 H1 W1 σ2 ρ2 H2 W2) : Sst N σ ρ H W σ2 ρ2 H2 W2 :=
  ⟨b.rel, a.ext.trans b.ext (fun _ h => r.own h) a.sub (fun x w => let ⟨o, e, _⟩ := r.tr x w; ⟨o, e⟩), fun x h => (b.sub x h).elim (fun z => a.sub x z) (fun z => .inr (a.ext.there x z)),
    fun i d h => let ⟨d1, h1, e1⟩ := a.par i d h; let ⟨d2, h2, e2⟩ := b.par i d1 h1; ⟨d2, h2, e2.trans e1⟩, fun i h => let ⟨h1, e1⟩ := b.uns i h; let ⟨h2, e2⟩ := a.uns i h1; ⟨h2, e1.trans e2⟩, b.len.trans a.len⟩
theorem Ext.wide (hT : ∀ x, T x → T1 x) (a : Ext T H W H1 W1) : Ext T1 H W H1 W1 := ⟨fun b o e n => a.keep b o e fun z => n (hT b z), a.own, fun b w n => a.stay b w fun z => n (hT b z), a.frz, a.tup, a.there⟩
theorem set_get {α : Type} {l : List α} {i j : Nat} {x y : α} (h : (l.set i x)[j]? = some y) : (j = i ∧ y = x) ∨ (j ≠ i ∧ l[j]? = some y) := by
  by_cases e : j = i
  · subst e
    have hl : j < (l.set j x).length := (List.getElem?_eq_some_iff.mp h).1
    rw [List.length_set] at hl
    rw [List.getElem?_set_self hl] at h
    cases h
    exact .inl ⟨rfl, rfl⟩
  · rw [List.getElem?_set_ne (Ne.symm e)] at h
    exact .inr ⟨e, h⟩
theorem put_ok {i : Nat} {c : Cell} (h : put i c ρ = .ok () ρ1) : i < ρ.length ∧ ρ1 = ρ.set i c ∧ ∀ d, ρ[i]? ≠ some (Cell.own true d) := by
  unfold put at h
  cases q : ρ[i]? with
  | none => rw [q] at h; cases h
  | some z =>
    rw [q] at h
    have l := (List.getElem?_eq_some_iff.mp q).1
    cases z with
    | unset => cases h; exact ⟨l, rfl, fun d e => by cases e⟩
    | val d => cases h; exact ⟨l, rfl, fun d e => by cases e⟩
    | own p d => cases p with
      | true => cases h
      | false => cases h; exact ⟨l, rfl, fun d e => by cases e⟩
theorem RelS.put (rel : RelS N H W σ ρ) {i : Nat} {d : D} {v : V} (h : PX.put i (.val d) ρ = .ok () ρ1) (rp : Rep N H W d v) : Sst N σ ρ H W (σ.set i (some v)) ρ1 H W := by
  obtain ⟨hl, rfl, np⟩ := put_ok h
  refine ⟨⟨by rw [List.length_set, List.length_set]; exact rel.len, fun j c ej => ?_, fun j k q q' d1 d2 b h1 h2 h3 h4 => ?_, rel.tr⟩, .refl, fun a h => .inl ?_, fun j d' h => ⟨d', ?_⟩, fun j h => ?_, List.length_set⟩
  · rcases set_get ej with ⟨rfl, rfl⟩ | ⟨hj, ej⟩
    · exact ⟨v, List.getElem?_set_self (by rw [← rel.len]; exact hl), rp⟩
    · have s := rel.slot j c ej
      cases c with
      | unset => trivial
      | val d' => exact let ⟨v, q1, q2⟩ := s; ⟨v, by rw [List.getElem?_set_ne (Ne.symm hj)]; exact q1, q2⟩
      | own q d' => exact let ⟨b, q1, q2, q3⟩ := s; ⟨b, by rw [List.getElem?_set_ne (Ne.symm hj)]; exact q1, q2, q3⟩
  · rcases set_get h1 with ⟨_, e⟩ | ⟨n1, h1⟩
    · cases e
    · rcases set_get h2 with ⟨_, e⟩ | ⟨n2, h2⟩
      · cases e
      · rw [List.getElem?_set_ne (Ne.symm n1)] at h3
        rw [List.getElem?_set_ne (Ne.symm n2)] at h4
        exact rel.apart j k q q' d1 d2 b h1 h2 h3 h4
  · obtain ⟨j, q, d1, h1, h2⟩ := h
    rcases set_get h1 with ⟨_, e⟩ | ⟨n1, h1⟩
    · cases e
    · rw [List.getElem?_set_ne (Ne.symm n1)] at h2
      exact ⟨j, q, d1, h1, h2⟩
  · have : j ≠ i := fun e => np d' (e ▸ h)
    exact ⟨by rw [List.getElem?_set_ne (Ne.symm this)]; exact h, List.getElem?_set_ne (Ne.symm this)⟩
  · rcases set_get h with ⟨_, e⟩ | ⟨n1, h1⟩
    · cases e
    · exact ⟨h1, List.getElem?_set_ne (Ne.symm n1)⟩
/-- a new list of one's own is stored -/
theorem RelS.putO (rel : RelS N H W σ ρ) {i : Nat} {d : D} {a : Addr} (h : PX.put i (.own false d) ρ = .ok () ρ1) (w : W a) (o : OwnR N H W a d) (n : ¬ Own ρ σ a) : RelS N H W (σ.set i (some (.ref a))) ρ1 ∧ (∀ b, Own ρ1 (σ.set i (some (.ref a))) b → Own ρ σ b ∨ b = a) ∧
    ∀ (j : Nat) (d' : D), ρ[j]? = some (Cell.own true d') → (ρ1[j]? = some (Cell.own true d') ∧ (σ.set i (some (.ref a)))[j]? = σ[j]?) := by
  obtain ⟨hl, rfl, np⟩ := put_ok h
  refine ⟨⟨by rw [List.length_set, List.length_set]; exact rel.len, fun j c ej => ?_, fun j k q q' d1 d2 b h1 h2 h3 h4 => ?_, rel.tr⟩, fun b h => ?_, fun j d' h => ?_⟩
  · rcases set_get ej with ⟨rfl, rfl⟩ | ⟨hj, ej⟩
    · exact ⟨a, List.getElem?_set_self (by rw [← rel.len]; exact hl), w, o⟩
    · have s := rel.slot j c ej
      cases c with
      | unset => trivial
      | val d' => exact let ⟨v, q1, q2⟩ := s; ⟨v, by rw [List.getElem?_set_ne (Ne.symm hj)]; exact q1, q2⟩
      | own q d' => exact let ⟨b, q1, q2, q3⟩ := s; ⟨b, by rw [List.getElem?_set_ne (Ne.symm hj)]; exact q1, q2, q3⟩
  · have hs : ∀ {j : Nat} {x : Option V}, (σ.set i (some (V.ref a)))[j]? = some x → j = i → x = some (V.ref a) := fun {j x} h e => by
      subst e
      rw [List.getElem?_set_self (by rw [← rel.len]; exact hl)] at h
      cases h; rfl
    rcases set_get h1 with ⟨e1, _⟩ | ⟨n1, h1⟩
    · rcases set_get h2 with ⟨e2, _⟩ | ⟨n2, h2⟩
      · rw [e1, e2]
      · cases hs h3 e1
        rw [List.getElem?_set_ne (Ne.symm n2)] at h4
        exact absurd ⟨k, q', d2, h2, h4⟩ n
    · rcases set_get h2 with ⟨e2, _⟩ | ⟨n2, h2⟩
      · cases hs h4 e2
        rw [List.getElem?_set_ne (Ne.symm n1)] at h3
        exact absurd ⟨j, q, d1, h1, h3⟩ n
      · rw [List.getElem?_set_ne (Ne.symm n1)] at h3
        rw [List.getElem?_set_ne (Ne.symm n2)] at h4
        exact rel.apart j k q q' d1 d2 b h1 h2 h3 h4
  · obtain ⟨j, q, d1, h1, h2⟩ := h
    rcases set_get h1 with ⟨e, _⟩ | ⟨n1, h1⟩
    · subst e
      rw [List.getElem?_set_self (by rw [← rel.len]; exact hl)] at h2
      cases h2
      exact .inr rfl
    · rw [List.getElem?_set_ne (Ne.symm n1)] at h2
      exact .inl ⟨j, q, d1, h1, h2⟩
  · have : j ≠ i := fun e => np d' (e ▸ h)
    exact ⟨by rw [List.getElem?_set_ne (Ne.symm this)]; exact h, List.getElem?_set_ne (Ne.symm this)⟩
/-! ### targets -/
def tgSlots : Tg → List Nat
  | .name i => [i]
  | .tup l => l
theorem lwipe_get (σ : L2.St) (j : Nat) : ∀ vs : List Nat, (L2.wipe σ vs)[j]? = if j ∈ vs then (σ[j]?).map (fun _ => none) else σ[j]?
  | [] => by simp [L2.wipe]
  | v :: vs => by
    show ((L2.wipe σ vs).set v none)[j]? = _
    by_cases hj : v = j
    · subst hj
      rw [if_pos List.mem_cons_self]
      by_cases hl : v < σ.length
      · rw [List.getElem?_set_self (by rw [wipe_length]; exact hl), List.getElem?_eq_getElem hl] <;> rfl
      · rw [List.getElem?_eq_none (by rw [List.length_set, wipe_length]; omega), List.getElem?_eq_none (by omega)] <;> rfl
    · rw [List.getElem?_set_ne hj, lwipe_get σ j vs]
      have : j ∈ v :: vs ↔ j ∈ vs := by
        rw [List.mem_cons]
        exact ⟨fun z => z.resolve_left (fun e => hj e.symm), .inr⟩
      simp only [this]
theorem lwipe_set {i : Nat} {x : Option V} {vs : List Nat} (h : i ∈ vs) : L2.wipe (σ.set i x) vs = L2.wipe σ vs := by
  refine List.ext_getElem? fun j => ?_
  rw [lwipe_get, lwipe_get]
  by_cases hj : j ∈ vs
  · rw [if_pos hj, if_pos hj]
    by_cases e : i = j
    · subst e
      by_cases hl : i < σ.length
      · rw [List.getElem?_set_self hl, List.getElem?_eq_getElem hl] <;> rfl
      · rw [List.getElem?_eq_none (by rw [List.length_set]; omega), List.getElem?_eq_none (by omega)]
    · rw [List.getElem?_set_ne e]
  · rw [if_neg hj, if_neg hj, List.getElem?_set_ne (fun e : i = j => hj (e ▸ h))]
/-- a target's reading -/
def TGt (N : Nm) (t : Tg) : TG := fun v σ H Q => ∃ W ρ d ρ1, RelS N H W σ ρ ∧ Rep N H W d v ∧ bindT t d ρ = .ok () ρ1 ∧ ∀ σ1, Sst N σ ρ H W σ1 ρ1 H W → (∀ vs, (∀ i ∈ tgSlots t, i ∈ vs) → L2.wipe σ1 vs = L2.wipe σ vs) → Q σ1 H
theorem pgImp {e : Expr} {t t' : TG} (h : PG X e t) (i : ∀ v σ H Q, t' v σ H Q → t v σ H Q) : PG X e t' := ⟨fun pins s σ H v u Q I r hw => h.run pins s σ H v u Q I r (i v σ H Q hw)⟩
theorem g_name {i : Nat} {x : Str} {p : Pos} (hN : X.N.Nodup) (hi : X.N[i]? = some x) (hx : Loc X.env.scope x) (hf : X.fn x = true ∨ X.env.scope.names.lookup x = some .local) : PG X (.Name x p) (TGt N (.name i)) := by
  refine pgImp (pg_name hN hi hx hf) fun v σ H Q hq => ?_
  obtain ⟨W, ρ, d, ρ1, rel, rp, hb, q⟩ := hq
  exact q _ (rel.put hb rp) fun vs hv => lwipe_set (hv i (List.mem_singleton.mpr rfl))
/-- names and their slots -/
inductive NmEs (X : Cx) : List Expr → List Nat → Prop where
  | nil : NmEs X [] []
  | cons {i : Nat} {x : Str} {p : Pos} {es : List Expr} {l : List Nat} (hi : X.N[i]? = some x) (hx : Loc X.env.scope x) (hf : X.fn x = true ∨ X.env.scope.names.lookup x = some .local) (r : NmEs X es l) : NmEs X (.Name x p :: es) (i :: l)
def TGts (N : Nm) (l : List Nat) : TGs := fun vs σ H Q => ∃ W ρ ds ρ1, RelS N H W σ ρ ∧ Reps N H W ds vs ∧ putAll l ds ρ = .ok () ρ1 ∧ ∀ σ1, Sst N σ ρ H W σ1 ρ1 H W → (∀ vs, (∀ i ∈ l, i ∈ vs) → L2.wipe σ1 vs = L2.wipe σ vs) → Q σ1 H
theorem NmEs.pgs (hN : X.N.Nodup) {es : List Expr} {l : List Nat} (h : NmEs X es l) : PGs X es (TGts N l) := by
  induction h with
  | nil =>
    refine ⟨fun pins s σ H vs us Q I r hq => pgs_nil.run pins s σ H vs us Q I r ?_⟩
    obtain ⟨W, ρ, ds, ρ1, rel, rp, hb, q⟩ := hq
    cases ds with
    | nil =>
      cases hb
      exact ⟨rp, q σ (.refl rel) fun _ _ => rfl⟩
    | cons _ _ => cases hb
  | @cons i x p es l hi hx hf r ih =>
    refine ⟨fun pins s σ H vs us Q I rr hq => (pgs_cons (g_name (N := N) hN hi hx hf) ih rfl).run pins s σ H vs us Q I rr ?_⟩
    obtain ⟨W, ρ, ds, ρ1, rel, rp, hb, q⟩ := hq
    cases ds with
    | nil => cases hb
    | cons d ds =>
      have hb' : ((put i (.val d) ρ).bind fun _ ρ => putAll l ds ρ) = .ok () ρ1 := hb
      obtain ⟨_, ρ2, h1, h2⟩ := Res.bind_ok hb'
      obtain ⟨v, vs', rfl, hv, hvs⟩ := rp
      refine ⟨v, vs', rfl, W, ρ, d, ρ2, rel, hv, h1, fun σ1 s1 w1 => ⟨W, ρ2, ds, ρ1, s1.rel, hvs, h2, fun σ2 s2 w2 => q σ2 (s1.trans rel s2) fun vs hv => ?_⟩⟩
      rw [w2 vs fun j hj => hv j (List.mem_cons_of_mem _ hj), w1 vs fun j hj => hv j (by rw [List.mem_singleton.mp hj]; exact List.mem_cons_self)]
theorem NmEs.each {es : List Expr} {l : List Nat} (h : NmEs X es l) : (assignEach es X.env).length = l.length ∧ (assignEach es X.env).findIdx? (·.1) = none := by
  induction h with
  | nil => exact ⟨rfl, rfl⟩
  | @cons i x p es l hi hx hf r ih =>
    refine ⟨congrArg (· + 1) ih.1, ?_⟩
    show List.findIdx? (·.1) ((false, assign (.Name x p) X.env) :: assignEach es X.env) = none
    rw [List.findIdx?_cons, ih.2] <;> rfl
theorem putAll_len : ∀ {l : List Nat} {ds : List D} {ρ ρ1 : Ev}, putAll l ds ρ = .ok () ρ1 → ds.length = l.length
  | [], [], _, _, _ => rfl
  | [], _ :: _, _, _, h => nomatch h
  | _ :: _, [], _, _, h => nomatch h
  | i :: l, d :: ds, ρ, ρ1, h => by
    have h' : ((put i (.val d) ρ).bind fun _ ρ => putAll l ds ρ) = .ok () ρ1 := h
    obtain ⟨_, ρ2, h1, h2⟩ := Res.bind_ok h'
    exact congrArg (· + 1) (putAll_len h2)
theorem g_tup {es : List Expr} {l : List Nat} {k : Nat} {p : Pos} (hK : X.K = N.K) (hc : X.calm = true) (hN : X.N.Nodup) (h : NmEs X es l) : PG X (.Tuple es k p) (TGt N (.tup l)) := by
  refine pgImp (pg_tup hc (h.pgs (N := N) hN) h.each.1 h.each.2) fun v σ H Q hq => ?_
  obtain ⟨W, ρ, d, ρ1, rel, rp, hb, q⟩ := hq
  cases d with
  | tup ds =>
    have hb' : putAll l ds ρ = .ok () ρ1 := hb
    obtain ⟨a, xs, rfl, s, r⟩ := rp
    exact ⟨a, xs, rfl, by rw [hK]; exact s, by rw [← r.length]; exact putAll_len hb', W, ρ, ds, ρ1, rel, r, hb', q⟩
  | _ => cases hb
end
end PX

end

section
set_option Elab.async false
set_option linter.all false
set_option autoImplicit false
set_option maxRecDepth 100000
namespace PX
open PySem PySem.Spec PyProof.Rows L2
section
variable {N : Nm} {Wx : WX} {X : Cx} {σ σ1 σ2 : L2.St} {ρ ρ1 ρ2 : Ev} {H H0 H1 H2 : Hp} {W W1 W2 T T1 : Addr → Prop}
variable (C : Call) (G : Nat → D)
theorem wipe_len (ρ : Ev) : ∀ vs : List Nat, (PX.wipe ρ vs).length = ρ.length
  | [] => rfl
  | v :: vs => by show ((PX.wipe ρ vs).set v .unset).length = _; rw [List.length_set, wipe_len ρ vs]
theorem RelS.wipe (rel : RelS N H W σ ρ) (vs : List Nat) : RelS N H W (L2.wipe σ vs) (PX.wipe ρ vs) := by
  refine ⟨by rw [wipe_len, wipe_length]; exact rel.len, fun j c ej => ?_, fun j k q q' d1 d2 b h1 h2 h3 h4 => ?_, rel.tr⟩
  · rw [wipe_get] at ej
    by_cases hj : j ∈ vs
    · rw [if_pos hj] at ej
      cases q : ρ[j]? with
      | none => rw [q] at ej; cases ej
      | some z => rw [q] at ej; cases ej; trivial
    · rw [if_neg hj] at ej
      have s := rel.slot j c ej
      cases c with
      | unset => trivial
      | val d' => exact let ⟨v, q1, q2⟩ := s; ⟨v, by rw [lwipe_get, if_neg hj]; exact q1, q2⟩
      | own q d' => exact let ⟨b, q1, q2, q3⟩ := s; ⟨b, by rw [lwipe_get, if_neg hj]; exact q1, q2, q3⟩
  · obtain ⟨n1, h1⟩ := wipe_own h1
    obtain ⟨n2, h2⟩ := wipe_own h2
    rw [lwipe_get, if_neg n1] at h3
    rw [lwipe_get, if_neg n2] at h4
    exact rel.apart j k q q' d1 d2 b h1 h2 h3 h4
/-- one's own slots are forgotten, the values stand -/
theorem RelS.hide (rel : RelS N H W σ ρ) (vs : List Nat) : RelS N H W σ (PX.wipe ρ vs) := by
  refine ⟨by rw [wipe_len]; exact rel.len, fun j c ej => ?_, fun j k q q' d1 d2 b h1 h2 h3 h4 => ?_, rel.tr⟩
  · rw [wipe_get] at ej
    by_cases hj : j ∈ vs
    · rw [if_pos hj] at ej
      cases q : ρ[j]? with
      | none => rw [q] at ej; cases ej
      | some z => rw [q] at ej; cases ej; trivial
    · rw [if_neg hj] at ej
      exact rel.slot j c ej
  · exact rel.apart j k q q' d1 d2 b (wipe_own h1).2 (wipe_own h2).2 h3 h4
theorem own_wipe {vs : List Nat} {b : Addr} (h : Own (PX.wipe ρ vs) (L2.wipe σ vs) b) : Own (PX.wipe ρ vs) σ b := by
  obtain ⟨j, p, d, h1, h2⟩ := h
  have n := (wipe_own h1).1
  rw [lwipe_get, if_neg n] at h2
  exact ⟨j, p, d, h1, h2⟩
theorem own_wipe' {vs : List Nat} {b : Addr} (h : Own (PX.wipe ρ vs) σ b) : Own (PX.wipe ρ vs) (L2.wipe σ vs) b := by
  obtain ⟨j, p, d, h1, h2⟩ := h
  have n := (wipe_own h1).1
  exact ⟨j, p, d, h1, by rw [lwipe_get, if_neg n]; exact h2⟩
theorem back_len (ρ ρ1 : Ev) : ∀ vs : List Nat, (PX.back ρ ρ1 vs).length = ρ1.length
  | [] => rfl
  | v :: vs => by show ((PX.back ρ ρ1 vs).set v _).length = _; rw [List.length_set, back_len ρ ρ1 vs]
theorem back_get {j : Nat} (hl : ρ1.length = ρ.length) : ∀ vs : List Nat, (PX.back ρ ρ1 vs)[j]? = if j ∈ vs then ρ[j]? else ρ1[j]?
  | [] => by simp [PX.back]
  | v :: vs => by
    show ((PX.back ρ ρ1 vs).set v (ρ.getD v .unset))[j]? = _
    by_cases hj : v = j
    · subst hj
      rw [if_pos List.mem_cons_self]
      by_cases h : v < ρ.length
      · rw [List.getElem?_set_self (by rw [back_len, hl]; exact h), List.getElem?_eq_getElem h, List.getD_eq_getElem?_getD, List.getElem?_eq_getElem h] <;> rfl
      · rw [List.getElem?_eq_none (by rw [List.length_set, back_len]; omega), List.getElem?_eq_none (by omega)]
    · rw [List.getElem?_set_ne hj, back_get hl vs]
      have : j ∈ v :: vs ↔ j ∈ vs := by
        rw [List.mem_cons]
        exact ⟨fun z => z.resolve_left (fun e => hj e.symm), .inr⟩
      simp only [this]
/-- a block has ended: what was hidden stands again -/
theorem RelS.unhide (rel : RelS N H W σ ρ) {us : List Nat} (hσ : ∀ j, j ∉ us → σ1[j]? = σ2[j]?) (h2 : ∀ j, j ∈ us → σ2[j]? = σ[j]?) (rel1 : RelS N H1 W1 σ1 ρ1) (x : Ext T H W H1 W1) (hT : ∀ b, T b → Own (PX.wipe ρ us) σ b) (sub : ∀ j p d b, j ∉ us → ρ1[j]? = some (Cell.own p d) → σ1[j]? = some (some (V.ref b)) → Own (PX.wipe ρ us) σ b ∨ H b = none)
    (hl : σ2.length = σ1.length) (hl1 : ρ1.length = ρ.length) : RelS N H1 W1 σ2 (PX.back ρ ρ1 us) := by
  have hidden : ∀ {j : Nat} {p : Bool} {d : D} {b : Addr}, j ∈ us → ρ[j]? = some (Cell.own p d) → σ[j]? = some (some (V.ref b)) → ¬ Own (PX.wipe ρ us) σ b := fun {j p d b} hj h1 h2 ⟨k, q, e, h3, h4⟩ => by
    obtain ⟨n, h5⟩ := wipe_own h3
    exact n (rel.apart j k p q d e b h1 h5 h2 h4 ▸ hj)
  refine ⟨by rw [back_len, hl]; exact rel1.len, fun j c ej => ?_, fun j k q q' d1 d2 b e1 e2 e3 e4 => ?_, rel1.tr⟩
  · rw [back_get hl1] at ej
    by_cases hj : j ∈ us
    · rw [if_pos hj] at ej
      have s := rel.slot j c ej
      cases c with
      | unset => trivial
      | val d' => exact let ⟨v, q1, q2⟩ := s; ⟨v, by rw [h2 j hj]; exact q1, x.rep (fun b h => rel.own (wipe_sub (hT b h))) q2⟩
      | own q d' =>
        obtain ⟨b, q1, q2, q3⟩ := s
        have nb := hidden hj ej q1
        exact ⟨b, by rw [h2 j hj]; exact q1, x.stay b q2 (fun z => nb (hT b z)), x.ownR (fun b h => rel.own (wipe_sub (hT b h))) (fun z => nb (hT b z)) q3⟩
    · rw [if_neg hj] at ej
      have s := rel1.slot j c ej
      cases c with
      | unset => trivial
      | val d' => exact let ⟨v, q1, q2⟩ := s; ⟨v, by rw [← hσ j hj]; exact q1, q2⟩
      | own q d' => exact let ⟨b, q1, q2, q3⟩ := s; ⟨b, by rw [← hσ j hj]; exact q1, q2, q3⟩
  · rw [back_get hl1] at e1 e2
    have mixed : ∀ {j k : Nat} {p q : Bool} {d e : D}, j ∈ us → k ∉ us → ρ[j]? = some (Cell.own p d) → ρ1[k]? = some (Cell.own q e) → σ[j]? = some (some (V.ref b)) → σ1[k]? = some (some (V.ref b)) → False := fun {j k p q d e} hj hk g1 g2 g3 g4 => by
      rcases sub k q e b hk g2 g4 with z | z
      · exact hidden hj g1 g3 z
      · obtain ⟨o, ho, _⟩ := rel.tr b (rel.own ⟨j, p, d, g1, g3⟩)
        rw [z] at ho; cases ho
    by_cases hj : j ∈ us
    · rw [if_pos hj] at e1
      rw [h2 j hj] at e3
      by_cases hk : k ∈ us
      · rw [if_pos hk] at e2
        rw [h2 k hk] at e4
        exact rel.apart j k q q' d1 d2 b e1 e2 e3 e4
      · rw [if_neg hk] at e2
        rw [← hσ k hk] at e4
        exact (mixed hj hk e1 e2 e3 e4).elim
    · rw [if_neg hj] at e1
      rw [← hσ j hj] at e3
      by_cases hk : k ∈ us
      · rw [if_pos hk] at e2
        rw [h2 k hk] at e4
        exact (mixed hk hj e2 e1 e4 e3).elim
      · rw [if_neg hk] at e2
        rw [← hσ k hk] at e4
        exact rel1.apart j k q q' d1 d2 b e1 e2 e3 e4
end
end PX

end

section
set_option Elab.async false
set_option linter.all false
set_option autoImplicit false
set_option maxRecDepth 100000
namespace PX
open PySem PySem.Spec PyProof.Rows L2
section
variable {N : Nm} {Wx : WX} {X : Cx} {σ σ1 σ2 : L2.St} {ρ ρ1 ρ2 : Ev} {H H0 H1 H2 : Hp} {W W1 W2 T T1 : Addr → Prop}
variable (C : Call) (G : Nat → D)
/-- no exception leaves it -/
def WF : WX := fun _ _ _ _ => False
variable (N) in
def TTs (r : Ev → Res Bool) : TT := TTt N WF r
theorem pts_of {ifs : List Expr} {c : E} (h : (ifs = [] ∧ c = .nil) ∨ ∃ e a b, ifs = [e] ∧ c = .cons a b ∧ PT X e (TTt N WF (evT C G a))) : PTs X ifs (TTt N WF (evC C G c)) := by
  rcases h with ⟨rfl, rfl⟩ | ⟨e, a, b, rfl, rfl, h⟩
  · refine ⟨fun pins s σ H Q I hq => pts_nil.run pins s σ H Q I ?_⟩
    obtain ⟨W, ρ, rel, c⟩ := hq
    have c' : Cont N WF σ ρ H W (fun b _ H1 W1 => Q b H1) (.ok true ρ) := c
    exact c'.here rel
  · exact pts_one h
/-- an expression's value, given away -/
theorem ok_cont {α : Type} {K : α → Ev → Hp → (Addr → Prop) → Prop} {r : Res α} {a : α} {ρ1 : Ev} (h : r = .ok a ρ1) (k : ∀ H1 W1, Stp N σ ρ H W ρ1 H1 W1 → K a ρ1 H1 W1) : Cont N Wx σ ρ H W K r := by
  rw [h]; exact k
theorem r_comp {elt tg iter : Expr} {ifs : List Expr} {scope : Scope} {own : List (Str × Nat)} {pos : Pos} {e it c : E} {t : Tg} {vs : List Nat} (hc : X.calm = true) (hN : X.N.Nodup) (hi : PI X tg iter (TIt N Wx (evI C G it))) (ok : BlkOk X.N X.env.scope scope own) (hvs : own.map (·.2) = vs)
    (ht : ∀ i ∈ tgSlots t, i ∈ vs)
    (hg : ∀ (s : Shared) (H : Hp) (C : Addr) (cl : List (Str × Addr)) (fp : List Addr), PG (X.blk s H scope (compEnvC scope cl C X.env) fp) tg (TGt N t))
    (hts : ∀ (s : Shared) (H : Hp) (Ca : Addr) (cl : List (Str × Addr)) (fp : List Addr), PTs (X.blk s H scope (compEnvC scope cl Ca X.env) fp) ifs (TTt N WF (evC C G c)))
    (he : ∀ (s : Shared) (H : Hp) (Ca : Addr) (cl : List (Str × Addr)) (fp : List Addr), PE (X.blk s H scope (compEnvC scope cl Ca X.env) fp) elt (TEv N WF (ev C G e))) (hs : ∀ x, foldedSetIterable iter X.env x = pure x) :
    PE X (.ListComp elt [⟨tg, iter, ifs, 0⟩] scope pos) (tLc (TIt N Wx (evI C G it)) (TGt N t) (TTt N WF (evC C G c)) (TEv N WF (ev C G e)) vs) := by
  subst hvs
  exact pe_lc hc hN hi ok hg hts he hs
theorem compL_cons {tf : D → Ev → Res Bool} {ef : D → Ev → Res D} {d : D} {ds : List D} {ρ ρe : Ev} {r : List D} (h : compL tf ef (d :: ds) ρ = .ok r ρe) :
    ∃ b ρ1, tf d ρ = .ok b ρ1 ∧ ((b = false ∧ compL tf ef ds ρ1 = .ok r ρe) ∨ (b = true ∧ ∃ y ρ2 r', ef d ρ1 = .ok y ρ2 ∧ compL tf ef ds ρ2 = .ok r' ρe ∧ r = y :: r')) := by
  have h' : ((tf d ρ).bind fun b ρ => if b then (ef d ρ).bind fun y ρ => (compL tf ef ds ρ).bind fun r ρ => .ok (y :: r) ρ else compL tf ef ds ρ) = .ok r ρe := h
  obtain ⟨b, ρ1, h1, h2⟩ := Res.bind_ok h'
  refine ⟨b, ρ1, h1, ?_⟩
  cases b with
  | false => exact .inl ⟨rfl, h2⟩
  | true =>
    obtain ⟨y, ρ2, h3, h4⟩ := Res.bind_ok h2
    obtain ⟨r', ρ3, h5, h6⟩ := Res.bind_ok h4
    cases h6
    exact .inr ⟨rfl, y, ρ2, r', h3, h5, rfl⟩
/-- the list that a block makes, as it grows -/
structure CompI (N : Nm) (σ' : L2.St) (ρ0 : Ev) (H1 : Hp) (W1 : Addr → Prop) (vs : List Nat) (D : Addr) (H : Hp) (W : Addr → Prop) (ρ : Ev) (acc : List V) (done : List PX.D) : Prop where
  rel : RelS N H W σ' (PX.wipe ρ vs)
  ext : Ext (Own ρ0 σ') H1 W1 H W
  sub : ∀ a, Own (PX.wipe ρ vs) σ' a → Own ρ0 σ' a
  par : ∀ (j : Nat) (d : PX.D), ρ0[j]? = some (Cell.own true d) → ∃ d', (PX.wipe ρ vs)[j]? = some (Cell.own true d')
  uns : ∀ (j : Nat), j ∉ vs → ρ[j]? = some Cell.unset → ρ0[j]? = some Cell.unset
  own : W D
  at_ : H D = some (.lst acc)
  reps : Reps N H W done acc
theorem lwipe2 (σ : L2.St) (vs : List Nat) : L2.wipe (L2.wipe σ vs) vs = L2.wipe σ vs := by
  refine List.ext_getElem? fun j => ?_
  rw [lwipe_get, lwipe_get]
  by_cases hj : j ∈ vs
  · rw [if_pos hj, if_pos hj]
    cases σ[j]? <;> rfl
  · rw [if_neg hj, if_neg hj]
theorem back_wipe {us vs : List Nat} (hl : ρ1.length = ρ.length) (hv : ∀ j ∈ vs, j ∈ us) : PX.back ρ (PX.wipe ρ1 vs) us = PX.back ρ ρ1 us := by
  refine List.ext_getElem? fun j => ?_
  rw [back_get (by rw [wipe_len]; exact hl), back_get hl, wipe_get]
  by_cases hj : j ∈ us
  · rw [if_pos hj, if_pos hj]
  · rw [if_neg hj, if_neg hj, if_neg fun z => hj (hv j z)]
theorem wipe_wipe_own {us vs : List Nat} {j : Nat} {p : Bool} {d : D} (h : (PX.wipe (PX.wipe ρ us) vs)[j]? = some (Cell.own p d)) : (PX.wipe ρ (vs ++ us))[j]? = some (Cell.own p d) := by
  obtain ⟨n1, h1⟩ := wipe_own h
  obtain ⟨n2, h2⟩ := wipe_own h1
  rw [wipe_get, if_neg (fun z => (List.mem_append.mp z).elim n1 n2)]
  exact h2
theorem CompI.nope {ρ0 : Ev} {vs : List Nat} {A : Addr} {Hi : Hp} {Wi : Addr → Prop} {ρi : Ev} {acc : List V} {done : List D} {σ' : L2.St} (rel0 : RelS N H1 W1 σ' ρ0) (hD : H1 A = none) (I : CompI N σ' ρ0 H1 W1 vs A Hi Wi ρi acc done) : ¬ Own (PX.wipe ρi vs) σ' A := fun z => by
  obtain ⟨o, e, _⟩ := rel0.tr A (rel0.own (I.sub A z))
  rw [hD] at e; cases e
/-- one turn that gives nothing, or its first half -/
theorem CompI.step {ρ0 : Ev} {vs : List Nat} {A : Addr} {ρi ρb : Ev} {Hi H' H3 : Hp} {Wi W3 : Addr → Prop} {acc : List V} {done : List D} {σ' : L2.St} (rel0 : RelS N H1 W1 σ' ρ0) (hD : H1 A = none)
    (I : CompI N σ' ρ0 H1 W1 vs A Hi Wi ρi acc done) (nw : Nw Hi Wi H' Wi) (s1 : Sst N σ' (PX.wipe ρi vs) H' Wi σ1 ρb H' Wi) (s3 : Stp N σ1 ρb H' Wi ρ1 H3 W3) (hw : L2.wipe σ1 vs = σ') :
    CompI N σ' ρ0 H1 W1 vs A H3 W3 ρ1 acc done := by
  have S : Sst N σ' (PX.wipe ρi vs) Hi Wi σ1 ρ1 H3 W3 := ((nw.stp I.rel).sst.trans I.rel s1).trans I.rel s3.sst
  have tr0 : ∀ x, W1 x → ∃ o, H1 x = some o := fun x w => let ⟨o, e, _⟩ := rel0.tr x w; ⟨o, e⟩
  have nD := CompI.nope rel0 hD I
  refine ⟨hw ▸ s3.rel.wipe vs, I.ext.trans S.ext (fun x h => rel0.own h) (fun x h => .inl (I.sub x h)) tr0, fun a h => ?_, fun j d h => ?_, fun j hj h => ?_, S.ext.stay A I.own nD, S.ext.keep A _ I.at_ nD, S.ext.reps (fun x h => I.rel.own h) I.reps⟩
  · rw [← hw] at h
    have h1 := s3.sub a (wipe_sub (own_wipe h))
    rcases s1.sub a h1 with z | z
    · exact I.sub a z
    · obtain ⟨o, e, _⟩ := s1.rel.tr a (s1.rel.own h1)
      rw [z] at e; cases e
  · obtain ⟨d1, h1⟩ := I.par j d h
    obtain ⟨d2, h2, _⟩ := s1.par j d1 h1
    obtain ⟨d3, h3⟩ := s3.par j d2 h2
    exact ⟨d3, by rw [wipe_get, if_neg (wipe_own h1).1]; exact h3⟩
  · have h1 := (s1.uns j (s3.uns j h)).1
    rw [wipe_get, if_neg hj] at h1
    exact I.uns j hj h1
/-- an item is laid at the new list's end -/
theorem CompI.add {ρ0 : Ev} {vs : List Nat} {A : Addr} {Hi : Hp} {Wi : Addr → Prop} {ρi : Ev} {acc : List V} {done : List D} {σ' : L2.St} (rel0 : RelS N H1 W1 σ' ρ0) (hD : H1 A = none) (I : CompI N σ' ρ0 H1 W1 vs A Hi Wi ρi acc done) {y : D} {v : V} (rv : Rep N Hi Wi y v) :
    CompI N σ' ρ0 H1 W1 vs A (upd Hi A (.lst (acc ++ [v]))) Wi ρi (acc ++ [v]) (done ++ [y]) := by
  have tr0 : ∀ x, W1 x → ∃ o, H1 x = some o := fun x w => let ⟨o, e, _⟩ := rel0.tr x w; ⟨o, e⟩
  have nD := CompI.nope rel0 hD I
  have x : Ext (fun b => b = A) Hi Wi (upd Hi A (.lst (acc ++ [v]))) Wi := Ext.write I.at_ trivial rfl
  have hT : ∀ b, b = A → Wi b := fun b e => e ▸ I.own
  refine ⟨I.rel.ext x hT (fun b h e => nD (e ▸ h)) fun b w => ?_, I.ext.trans x (fun x h => rel0.own h) (fun b e => .inr (e ▸ hD)) tr0, I.sub, I.par, I.uns, I.own, upd_same, Reps.append (x.reps hT I.reps) ⟨v, [], rfl, x.rep hT rv, rfl⟩⟩
  by_cases e : b = A
  · subst e; exact ⟨_, upd_same, trivial⟩
  · obtain ⟨o, h, m⟩ := I.rel.tr b w
    exact ⟨o, by rw [upd_ne e]; exact h, m⟩
/-- [elt for .. in ..] -/
theorem lc_imp {e it c : E} {t : Tg} {vs : List Nat} (ht : ∀ i ∈ tgSlots t, i ∈ vs) {σ : L2.St} {H : Hp} {Q : VK} (hq : TEv N Wx (ev C G (.comp e t it c vs)) σ H Q) : tLc (TIt N Wx (evI C G it)) (TGt N t) (TTt N WF (evC C G c)) (TEv N WF (ev C G e)) vs σ H Q := by
  obtain ⟨W, ρ, rel, c0⟩ := hq
  generalize htf : (fun d ρ => (bindT t d (PX.wipe ρ vs)).bind fun _ ρ => evC C G c ρ) = tf
  generalize hef : (fun (_ : D) ρ => (ev C G e ρ).bind fun y ρ => Res.ok y.1 ρ) = ef
  have c' : Cont N Wx σ ρ H W (KE N H Q) ((evI C G it ρ).bind fun q ρ₀ => if q.1.length ≤ lim then (nox (compL tf ef q.1 (PX.wipe ρ₀ q.2))).bind fun r ρ => .ok (.lst r, true) (PX.back ρ₀ ρ (vs ++ q.2)) else .bad) := by
    subst htf hef
    exact c0
  refine ⟨W, ρ, rel, (c'.bind rel).mono fun q ρ₀ H1 W1 s ⟨_, c1⟩ J wk A hD => ?_⟩
  by_cases hlim : q.1.length ≤ lim
  case neg => rw [if_neg hlim] at c1; exact c1.elim
  rw [if_pos hlim] at c1
  have hr : ∃ r ρe, compL tf ef q.1 (PX.wipe ρ₀ q.2) = .ok r ρe ∧ Cont N Wx σ ρ₀ H1 W1 (KE N H Q) (.ok (.lst r, true) (PX.back ρ₀ ρe (vs ++ q.2))) := by
    cases hcl : compL tf ef q.1 (PX.wipe ρ₀ q.2) with
    | ok r ρe => rw [hcl] at c1; exact ⟨r, ρe, rfl, c1⟩
    | exc cc fs => rw [hcl] at c1; exact c1.elim
    | bad => rw [hcl] at c1; exact c1.elim
  obtain ⟨r, ρe, hrun, c2⟩ := hr
  have rel0 : RelS N H1 W1 (L2.wipe σ vs) (PX.wipe (PX.wipe ρ₀ q.2) vs) := (s.rel.hide q.2).wipe vs
  have hsub : ∀ b, Own (PX.wipe (PX.wipe ρ₀ q.2) vs) (L2.wipe σ vs) b → Own (PX.wipe ρ₀ q.2) σ b := fun b h => wipe_sub (own_wipe h)
  have tr0 : ∀ x, W1 x → ∃ o, H1 x = some o := fun x w => let ⟨o, e, _⟩ := s.rel.tr x w; ⟨o, e⟩
  refine ⟨fun i m Hi => m = q.1.length - i ∧ i ≤ q.1.length ∧ ∃ Wi ρi acc done rest, CompI N (L2.wipe σ vs) (PX.wipe (PX.wipe ρ₀ q.2) vs) H1 W1 vs A Hi Wi ρi acc done ∧ compL tf ef (q.1.drop i) ρi = .ok rest ρe ∧ done ++ rest = r ∧ acc.length ≤ i, ⟨q.1.length, by simp, Nat.zero_le _, ?_⟩, ?_⟩
  · have n := rel0.newO (o := .lst []) hD trivial
    exact ⟨fun b => W1 b ∨ b = A, PX.wipe ρ₀ q.2, [], [], r, ⟨n.rel, n.ext, n.sub, n.par, fun j hj h => by rw [wipe_get, if_neg hj]; exact h, .inr rfl, upd_same, rfl⟩, by simpa using hrun, rfl, Nat.le_refl _⟩
  · rintro i m Hi ⟨rfl, hi, Wi, ρi, acc, done, rest, I, run, all, few⟩
    obtain ⟨goes, stops, yields⟩ := wk Hi Wi (I.ext.wide hsub) I.rel.tr
    by_cases hlt : i < q.1.length
    · refine .inr ⟨goes i hlt, fun H' => ∃ W' ρ' acc done rest, CompI N (L2.wipe σ vs) (PX.wipe (PX.wipe ρ₀ q.2) vs) H1 W1 vs A H' W' ρ' acc done ∧ compL tf ef (q.1.drop (i + 1)) ρ' = .ok rest ρe ∧ done ++ rest = r ∧ acc.length ≤ i + 1,
        fun H' ⟨W', ρ', acc, done, rest, I'⟩ => ⟨q.1.length - (i + 1), by omega, rfl, hlt, W', ρ', acc, done, rest, I'⟩, fun x H' y => ?_⟩
      obtain ⟨d, hd, nw, rp⟩ := yields i x H' hlt y
      have hdrop : q.1.drop i = d :: q.1.drop (i + 1) := by
        rw [List.drop_eq_getElem_cons hlt]
        rw [List.getElem?_eq_getElem hlt] at hd
        cases hd; rfl
      rw [hdrop] at run
      obtain ⟨b, ρ1, h1, h2⟩ := compL_cons run
      have h1' : ((bindT t d (PX.wipe ρi vs)).bind fun _ ρ => evC C G c ρ) = .ok b ρ1 := by rw [← htf] at h1; exact h1
      obtain ⟨_, ρb, hb, hc⟩ := Res.bind_ok h1'
      refine ⟨Wi, PX.wipe ρi vs, d, ρb, (nw.stp I.rel).rel, rp, hb, fun σ1 s1 w1 => ?_⟩
      have hw : L2.wipe σ1 vs = L2.wipe σ vs := (w1 vs ht).trans (lwipe2 σ vs)
      refine ⟨hw, Wi, ρb, s1.rel, ok_cont hc fun H3 W3 s3 => ?_⟩
      rcases h2 with ⟨rfl, h2⟩ | ⟨rfl, y, ρ2, r', h3, h4, hr'⟩
      · rw [if_neg (by decide)]
        exact ⟨W3, ρ1, acc, done, rest, I.step rel0 hD nw s1 s3 hw, h2, all, Nat.le_succ_of_le few⟩
      · rw [if_pos rfl]
        have h3' : ((ev C G e ρ1).bind fun y ρ => .ok y.1 ρ) = .ok y ρ2 := by rw [← hef] at h3; exact h3
        obtain ⟨yf, ρ2', h5, h6⟩ := Res.bind_ok h3'
        cases h6
        refine ⟨W3, ρ1, s3.rel, ok_cont h5 fun H4 W4 s4 v hv => ?_⟩
        obtain ⟨W5, s5, rv⟩ := s4.freeze s3.rel hv
        have I5 := I.step rel0 hD nw s1 (s3.trans s1.rel s5) hw
        refine ⟨acc, I5.at_, by rw [← lim_eq]; omega, W5, ρ2, acc ++ [v], done ++ [yf.1], r', I5.add rel0 hD rv, h4, ?_, by rw [List.length_append]; exact Nat.succ_le_succ few⟩
        rw [List.append_assoc, ← all, hr'] <;> rfl
    · have hin : i = q.1.length := by omega
      subst hin
      rw [List.drop_length] at run
      cases run
      rw [List.append_nil] at all
      subst all
      refine .inl ⟨stops, ?_⟩
      have hσl : (L2.wipe σ vs).length = σ.length := wipe_length σ vs
      have hρl : ρe.length = ρ₀.length := by rw [← wipe_len ρe vs, I.rel.len, hσl, s.rel.len]
      have hown : ∀ b, Own (PX.wipe (PX.wipe ρ₀ q.2) vs) (L2.wipe σ vs) b → Own (PX.wipe ρ₀ (vs ++ q.2)) σ b := fun b h => by
        obtain ⟨j, p, d, h1, h2⟩ := own_wipe h
        exact ⟨j, p, d, wipe_wipe_own h1, h2⟩
      have relF : RelS N Hi Wi σ (PX.back ρ₀ ρe (vs ++ q.2)) := by
        rw [← back_wipe (vs := vs) hρl fun j h => List.mem_append_left _ h]
        refine RelS.unhide s.rel (fun j hj => ?_) (fun _ _ => rfl) I.rel I.ext hown (fun j p d b hj h1 h2 => .inl ?_) hσl.symm (by rw [wipe_len]; exact hρl)
        · rw [lwipe_get, if_neg fun z => hj (List.mem_append_left _ z)]
        · exact hown b (I.sub b ⟨j, p, d, h1, h2⟩)
      have stp : Stp N σ ρ₀ H1 W1 (PX.back ρ₀ ρe (vs ++ q.2)) Hi Wi := by
        refine ⟨relF, I.ext.wide fun b h => wipe_sub (hown b h), fun b h => ?_, fun j d h => ?_, fun j h => ?_⟩
        · obtain ⟨j, p, d, h1, h2⟩ := h
          rw [back_get hρl] at h1
          by_cases hj : j ∈ vs ++ q.2
          · rw [if_pos hj] at h1
            exact ⟨j, p, d, h1, h2⟩
          · rw [if_neg hj] at h1
            have nj : j ∉ vs := fun z => hj (List.mem_append_left _ z)
            exact wipe_sub (hown b (I.sub b ⟨j, p, d, by rw [wipe_get, if_neg nj]; exact h1, by rw [lwipe_get, if_neg nj]; exact h2⟩))
        · rw [back_get hρl]
          by_cases hj : j ∈ vs ++ q.2
          · rw [if_pos hj]; exact ⟨d, h⟩
          · rw [if_neg hj]
            have n1 : j ∉ vs := fun z => hj (List.mem_append_left _ z)
            have n2 : j ∉ q.2 := fun z => hj (List.mem_append_right _ z)
            obtain ⟨d', h'⟩ := I.par j d (by rw [wipe_get, if_neg n1, wipe_get, if_neg n2]; exact h)
            exact ⟨d', (wipe_own h').2⟩
        · rw [back_get hρl] at h
          by_cases hj : j ∈ vs ++ q.2
          · rw [if_pos hj] at h; exact h
          · rw [if_neg hj] at h
            have n1 : j ∉ vs := fun z => hj (List.mem_append_left _ z)
            have n2 : j ∉ q.2 := fun z => hj (List.mem_append_right _ z)
            have h2 := I.uns j n1 h
            rw [wipe_get, if_neg n1, wipe_get, if_neg n2] at h2
            exact h2
      have vr : VR N H Hi Wi (.lst done) true (.ref A) := by
        have : ∃ a, V.ref A = .ref a ∧ Wi a ∧ OwnR N Hi Wi a (.lst done) ∧ H a = none := ⟨A, rfl, I.own, ⟨acc, I.at_, I.reps⟩, s.ext.there A hD⟩
        exact this
      exact c2 Hi Wi stp (.ref A) vr
theorem r_lc {ex : Expr} {e it c : E} {t : Tg} {vs : List Nat} (ht : ∀ i ∈ tgSlots t, i ∈ vs)
    (h : PE X ex (tLc (TIt N Wx (evI C G it)) (TGt N t) (TTt N WF (evC C G c)) (TEv N WF (ev C G e)) vs)) : Rdr N Wx X ex (.comp e t it c vs) (ev C G (.comp e t it c vs)) :=
  r_of (peImp h fun σ H Q hq => lc_imp C G ht hq) fun _ e => nomatch e
end
end PX

end

section
set_option Elab.async false
set_option linter.all false
set_option autoImplicit false
set_option maxRecDepth 100000
namespace PX
open PySem PySem.Spec PyProof.Rows L2
section
variable {N : Nm} {Wx : WX} {X : Cx} {σ σ1 σ2 : L2.St} {ρ ρ1 ρ2 : Ev} {H H0 H1 H2 : Hp} {W W1 W2 T T1 : Addr → Prop}
/-! ### what a def promises -/
def CellR (N : Nm) (H : Hp) (W : Addr → Prop) : Cell → V → Prop
  | .unset, _ => False
  | .val d, v => Rep N H W d v
  | .own _ d, v => ∃ a, v = .ref a ∧ W a ∧ OwnR N H W a d
inductive CellsR (N : Nm) (H : Hp) (W : Addr → Prop) : List Cell → List V → Prop where
  | nil : CellsR N H W [] []
  | cons {c : Cell} {v : V} {cs : List Cell} {vs : List V} : CellR N H W c v → CellsR N H W cs vs → CellsR N H W (c :: cs) (v :: vs)
theorem CellsR.length {cs : List Cell} {vs : List V} (h : CellsR N H W cs vs) : cs.length = vs.length := by
  induction h with
  | nil => rfl
  | cons _ _ ih => exact congrArg (· + 1) ih
theorem CellsR.get {cs : List Cell} {vs : List V} (h : CellsR N H W cs vs) : ∀ {i : Nat} {c : Cell}, cs[i]? = some c → ∃ v, vs[i]? = some v ∧ CellR N H W c v := by
  induction h with
  | nil => intro i c e; simp at e
  | @cons c v cs vs r _ ih =>
    intro i c' e
    cases i with
    | zero => simp at e; subst e; exact ⟨v, rfl, r⟩
    | succ i => obtain ⟨u, h1, h2⟩ := ih (by simpa using e); exact ⟨u, by simpa using h1, h2⟩
def CellOwn (cs : List Cell) (vs : List V) (a : Addr) : Prop := ∃ (i : Nat) (p : Bool) (d : D), cs[i]? = some (Cell.own p d) ∧ vs[i]? = some (V.ref a)
def Apart (cs : List Cell) (vs : List V) : Prop := ∀ (i j : Nat) (p q : Bool) (d e : D) (a : Addr), cs[i]? = some (Cell.own p d) → cs[j]? = some (Cell.own q e) → vs[i]? = some (V.ref a) → vs[j]? = some (V.ref a) → i = j
def OutsR (N : Nm) (H : Hp) (W : Addr → Prop) (cs outs : List Cell) (vs : List V) : Prop := outs.length = cs.length ∧ ∀ (i : Nat) (p : Bool) (d : D), cs[i]? = some (Cell.own p d) → ∃ a d', outs[i]? = some (Cell.own true d') ∧ vs[i]? = some (V.ref a) ∧ W a ∧ OwnR N H W a d'
def CRk (N : Nm) (H : Hp) (W : Addr → Prop) (cs : List Cell) (vs : List V) (Q : VK) (E : XK) : CRes → Prop
  | .ok d fr outs => ∀ v H1 W1, Ext (CellOwn cs vs) H W H1 W1 → Trk H1 W1 → OutsR N H1 W1 cs outs vs → VR N H H1 W1 d fr v → Q v H1
  | .exc c fs => ∀ x H1 W1, Ext (CellOwn cs vs) H W H1 W1 → ExcR N H1 W1 c fs x → E (.ref (N.exc c)) (some x) H1
  | .bad => False
def spC (N : Nm) (C : Call) (f : Nat) : Sp := fun vs H Q E => ∃ W cs, CellsR N H W cs vs ∧ Trk H W ∧ Apart cs vs ∧ CRk N H W cs vs Q E (C f cs)
/-! ### arguments -/
def ArgR (N : Nm) (σ : L2.St) (H : Hp) (W : Addr → Prop) : Arg → V → Prop
  | .val d, v => Rep N H W d v
  | .slot i, v => σ[i]? = some (some v)
inductive ArgsR (N : Nm) (σ : L2.St) (H : Hp) (W : Addr → Prop) : List Arg → List V → Prop where
  | nil : ArgsR N σ H W [] []
  | cons {c : Arg} {v : V} {cs : List Arg} {vs : List V} : ArgR N σ H W c v → ArgsR N σ H W cs vs → ArgsR N σ H W (c :: cs) (v :: vs)
theorem ArgR.stp (rel : RelS N H W σ ρ) (s : Stp N σ ρ H W ρ1 H1 W1) : ∀ {c : Arg} {v : V}, ArgR N σ H W c v → ArgR N σ H1 W1 c v
  | .val _, _, h => s.rep rel h
  | .slot _, _, h => h
/-- the cells that are handed over -/
theorem args_cells (rel : RelS N H W σ ρ) {args : List Arg} {vs : List V} (h : ArgsR N σ H W args vs) : ∀ {cs : List Cell}, argCells ρ args = some cs → CellsR N H W cs vs ∧ (∀ (k : Nat) (p : Bool) (d : D), cs[k]? = some (Cell.own p d) → ∃ i q, args[k]? = some (.slot i) ∧ ρ[i]? = some (Cell.own q d) ∧ ∀ v, vs[k]? = some v → σ[i]? = some (some v)) ∧ cs.length = args.length := by
  induction h with
  | nil =>
    intro cs e
    cases e
    exact ⟨.nil, fun k p d h => by simp at h, rfl⟩
  | @cons c v cs' vs' r _ ih =>
    intro cs e
    cases c with
    | val d =>
      have e' : (argCells ρ cs').map (Cell.val d :: ·) = some cs := e
      cases q : argCells ρ cs' with
      | none => rw [q] at e'; cases e'
      | some cs2 =>
        rw [q] at e'
        cases e'
        obtain ⟨h1, h2, h3⟩ := ih q
        refine ⟨.cons r h1, fun k p d' hk => ?_, congrArg (· + 1) h3⟩
        cases k with
        | zero => simp at hk
        | succ k =>
          obtain ⟨i, q', g1, g2, g3⟩ := h2 k p d' (by simpa using hk)
          exact ⟨i, q', by simpa using g1, g2, fun v hv => g3 v (by simpa using hv)⟩
    | slot i =>
      have e' : (match ρ[i]? with
        | some (.own p d) => (argCells ρ cs').map (.own true d :: ·)
        | _ => none) = some cs := e
      cases qi : ρ[i]? with
      | none => rw [qi] at e'; cases e'
      | some ci =>
        rw [qi] at e'
        cases ci with
        | own p d =>
          have e2 : (argCells ρ cs').map (Cell.own true d :: ·) = some cs := e'
          cases q : argCells ρ cs' with
          | none => rw [q] at e2; cases e2
          | some cs2 =>
            rw [q] at e2
            cases e2
            obtain ⟨h1, h2, h3⟩ := ih q
            obtain ⟨a, ea, w, o⟩ := rel.slot i _ qi
            have hv : σ[i]? = some (some v) := r
            rw [hv] at ea
            cases ea
            refine ⟨.cons ⟨a, rfl, w, o⟩ h1, fun k p' d' hk => ?_, congrArg (· + 1) h3⟩
            cases k with
            | zero =>
              simp at hk
              obtain ⟨rfl, rfl⟩ := hk
              exact ⟨i, p, rfl, qi, fun u hu => by simp at hu; subst hu; exact hv⟩
            | succ k =>
              obtain ⟨i', q', g1, g2, g3⟩ := h2 k p' d' (by simpa using hk)
              exact ⟨i', q', by simpa using g1, g2, fun v hv => g3 v (by simpa using hv)⟩
        | _ => cases e'
theorem nodup_slots : ∀ {args : List Arg} {j k : Nat} {i : Nat}, nodupB (slotsOf args) = true → args[j]? = some (.slot i) → args[k]? = some (.slot i) → j = k
  | [], j, k, i, _, h, _ => by simp at h
  | .val d :: r, j, k, i, hn, h1, h2 => by
    cases j with
    | zero => simp at h1
    | succ j => cases k with
      | zero => simp at h2
      | succ k => exact congrArg (· + 1) (nodup_slots (args := r) hn (by simpa using h1) (by simpa using h2))
  | .slot m :: r, j, k, i, hn, h1, h2 => by
    have hn' : (!(slotsOf r).elem m) = true ∧ nodupB (slotsOf r) = true := by
      have z : (!(slotsOf r).elem m && nodupB (slotsOf r)) = true := hn
      rw [Bool.and_eq_true] at z; exact z
    have mem : ∀ {r : List Arg} {k : Nat}, r[k]? = some (.slot i) → i ∈ slotsOf r := fun {r} => by
      induction r with
      | nil => intro k h; simp at h
      | cons c r ih =>
        intro k h
        cases k with
        | zero => simp at h; subst h; exact List.mem_cons_self
        | succ k =>
          have z := ih (k := k) (by simpa using h)
          cases c with
          | val d => exact z
          | slot m => exact List.mem_cons_of_mem _ z
    have no : m ∉ slotsOf r := fun z => by
      have := hn'.1
      rw [List.elem_eq_mem, decide_eq_true z] at this
      cases this
    cases j with
    | zero =>
      simp at h1
      cases k with
      | zero => rfl
      | succ k => subst h1; exact absurd (mem (by simpa using h2)) no
    | succ j => cases k with
      | zero => simp at h2; subst h2; exact absurd (mem (by simpa using h1)) no
      | succ k => exact congrArg (· + 1) (nodup_slots (args := r) hn'.2 (by simpa using h1) (by simpa using h2))
/-- what was lent has come back -/
theorem give_back : ∀ {args : List Arg} {outs : List Cell} {ρ ρ1 : Ev}, nodupB (slotsOf args) = true → giveBack args outs ρ = some ρ1 → ρ1.length = ρ.length ∧ (∀ j, j ∉ slotsOf args → ρ1[j]? = ρ[j]?) ∧
    ∀ j ∈ slotsOf args, ∃ (k : Nat) (p : Bool) (d : D) (q : Bool) (d' : D), args[k]? = some (.slot j) ∧ outs[k]? = some (Cell.own q d') ∧ ρ[j]? = some (Cell.own p d) ∧ ρ1[j]? = some (Cell.own p d')
  | [], [], ρ, ρ1, _, h => by cases h; exact ⟨rfl, fun _ _ => rfl, fun j hj => by cases hj⟩
  | [], _ :: _, _, _, _, h => nomatch h
  | .val d :: r, [], _, _, _, h => nomatch h
  | .val d :: r, o :: outs, ρ, ρ1, hn, h => by
    obtain ⟨a, b, c⟩ := give_back (args := r) (outs := outs) hn h
    refine ⟨a, b, fun j hj => ?_⟩
    obtain ⟨k, p, d1, q, d', g1, g2, g3, g4⟩ := c j hj
    exact ⟨k + 1, p, d1, q, d', by simpa using g1, by simpa using g2, g3, g4⟩
  | .slot i :: r, [], _, _, _, h => nomatch h
  | .slot i :: r, .unset :: outs, _, _, _, h => nomatch h
  | .slot i :: r, .val _ :: outs, _, _, _, h => nomatch h
  | .slot i :: r, .own q d' :: outs, ρ, ρ1, hn, h => by
    have hn' : (!(slotsOf r).elem i) = true ∧ nodupB (slotsOf r) = true := by
      have z : (!(slotsOf r).elem i && nodupB (slotsOf r)) = true := hn
      rw [Bool.and_eq_true] at z; exact z
    have no : i ∉ slotsOf r := fun z => by
      have := hn'.1
      rw [List.elem_eq_mem, decide_eq_true z] at this
      cases this
    have h' : (match ρ[i]? with
      | some (.own p _) => giveBack r outs (ρ.set i (.own p d'))
      | _ => none) = some ρ1 := h
    cases qi : ρ[i]? with
    | none => rw [qi] at h'; cases h'
    | some ci =>
      rw [qi] at h'
      cases ci with
      | own p d =>
        obtain ⟨a, b, c⟩ := give_back (args := r) (outs := outs) hn'.2 h'
        have hl : i < ρ.length := (List.getElem?_eq_some_iff.mp qi).1
        rw [List.length_set] at a
        refine ⟨a, fun j hj => ?_, fun j hj => ?_⟩
        · have n1 : j ≠ i := fun e => hj (e ▸ List.mem_cons_self)
          have n2 : j ∉ slotsOf r := fun e => hj (List.mem_cons_of_mem _ e)
          rw [b j n2, List.getElem?_set_ne (Ne.symm n1)]
        · rcases List.mem_cons.mp hj with e | e
          · subst e
            exact ⟨0, p, d, q, d', rfl, rfl, qi, by rw [b j no, List.getElem?_set_self hl]⟩
          · obtain ⟨k, p1, d1, q1, d2, g1, g2, g3, g4⟩ := c j e
            have n1 : j ≠ i := fun z => no (z ▸ e)
            rw [List.getElem?_set_ne (Ne.symm n1)] at g3
            exact ⟨k + 1, p1, d1, q1, d2, by simpa using g1, by simpa using g2, g3, g4⟩
      | _ => cases h'
theorem arg_cell : ∀ {args : List Arg} {cs : List Cell} {k j : Nat}, argCells ρ args = some cs → args[k]? = some (.slot j) → ∃ (p : Bool) (d : D), ρ[j]? = some (Cell.own p d) ∧ cs[k]? = some (Cell.own true d)
  | [], _, _, _, _, h => by simp at h
  | .val d :: r, cs, k, j, hc, h => by
    have e' : (argCells ρ r).map (Cell.val d :: ·) = some cs := hc
    cases q : argCells ρ r with
    | none => rw [q] at e'; cases e'
    | some cs2 =>
      rw [q] at e'
      cases e'
      cases k with
      | zero => simp at h
      | succ k =>
        obtain ⟨p, d2, h1, h2⟩ := arg_cell (k := k) q (by simpa using h)
        exact ⟨p, d2, h1, by simpa using h2⟩
  | .slot m :: r, cs, k, j, hc, h => by
    have e' : (match ρ[m]? with
      | some (.own p d) => (argCells ρ r).map (.own true d :: ·)
      | _ => none) = some cs := hc
    cases qi : ρ[m]? with
    | none => rw [qi] at e'; cases e'
    | some ci =>
      rw [qi] at e'
      cases ci with
      | own p d =>
        have e2 : (argCells ρ r).map (Cell.own true d :: ·) = some cs := e'
        cases q : argCells ρ r with
        | none => rw [q] at e2; cases e2
        | some cs2 =>
          rw [q] at e2
          cases e2
          cases k with
          | zero => simp at h; subst h; exact ⟨p, d, qi, rfl⟩
          | succ k =>
            obtain ⟨p2, d2, h1, h2⟩ := arg_cell (k := k) q (by simpa using h)
            exact ⟨p2, d2, h1, by simpa using h2⟩
      | _ => cases e'
theorem slot_mem : ∀ {args : List Arg} {k j : Nat}, args[k]? = some (.slot j) → j ∈ slotsOf args
  | [], k, j, h => by simp at h
  | c :: r, 0, j, h => by simp at h; subst h; exact List.mem_cons_self
  | .val d :: r, k + 1, j, h => slot_mem (args := r) (k := k) (by simpa using h)
  | .slot m :: r, k + 1, j, h => List.mem_cons_of_mem _ (slot_mem (args := r) (k := k) (by simpa using h))
/-- behind a call: the slots stand -/
theorem call_stp (rel : RelS N H W σ ρ) {args : List Arg} {vs : List V} {cs outs : List Cell} (ha : ArgsR N σ H W args vs) (hn : nodupB (slotsOf args) = true) (hc : argCells ρ args = some cs) (hg : giveBack args outs ρ = some ρ1) (x : Ext (CellOwn cs vs) H W H1 W1) (t : Trk H1 W1)
    (ho : OutsR N H1 W1 cs outs vs) : Stp N σ ρ H W ρ1 H1 W1 := by
  obtain ⟨cr, co, cl⟩ := args_cells rel ha hc
  obtain ⟨gl, g1, g2⟩ := give_back hn hg
  have sub : ∀ a, CellOwn cs vs a → Own ρ σ a := fun a ⟨k, p, d, h1, h2⟩ => by
    obtain ⟨i, q, _, h4, h5⟩ := co k p d h1
    exact ⟨i, q, d, h4, h5 _ h2⟩
  have hT : ∀ a, CellOwn cs vs a → W a := fun a h => rel.own (sub a h)
  -- a lent slot's cell
  have lent : ∀ {j : Nat}, j ∈ slotsOf args → ∃ p d a d', ρ[j]? = some (Cell.own p d) ∧ σ[j]? = some (some (V.ref a)) ∧ ρ1[j]? = some (Cell.own p d') ∧ W1 a ∧ OwnR N H1 W1 a d' := fun {j} hj => by
    obtain ⟨k, p, d, q, d', e1, e2, e3, e4⟩ := g2 j hj
    obtain ⟨p2, d2, e5, e6⟩ := arg_cell hc e1
    obtain ⟨a, d3, e7, e8, w, o⟩ := ho.2 k _ _ e6
    rw [e2] at e7
    cases e7
    obtain ⟨i, q2, e9, e10, e11⟩ := co k _ _ e6
    rw [e1] at e9
    cases e9
    exact ⟨p, d, a, d', e3, e11 _ e8, e4, w, o⟩
  -- an own slot's list that is not lent is none of those
  have keep : ∀ {j : Nat} {p : Bool} {d : D} {a : Addr}, j ∉ slotsOf args → ρ[j]? = some (Cell.own p d) → σ[j]? = some (some (V.ref a)) → ¬ CellOwn cs vs a := fun {j p d a} hj h1 h2 ⟨k, q, e, h3, h4⟩ => by
    obtain ⟨i, q2, e9, e10, e11⟩ := co k _ _ h3
    have := rel.apart j i _ _ _ _ a h1 e10 h2 (e11 _ h4)
    subst this
    exact hj (slot_mem e9)
  refine ⟨⟨by rw [gl]; exact rel.len, fun j c ej => ?_, fun j k p q d e a h1 h2 h3 h4 => ?_, t⟩, x.wide sub, fun a h => ?_, fun j d h => ?_, fun j h => ?_⟩
  · by_cases hj : j ∈ slotsOf args
    · obtain ⟨p, d, a, d', e1, e2, e3, w, o⟩ := lent hj
      rw [e3] at ej
      cases ej
      exact ⟨a, e2, w, o⟩
    · rw [g1 j hj] at ej
      have s := rel.slot j c ej
      cases c with
      | unset => trivial
      | val d' => exact let ⟨v, q1, q2⟩ := s; ⟨v, q1, x.rep hT q2⟩
      | own q d' =>
        obtain ⟨b, q1, q2, q3⟩ := s
        have nb := keep hj ej q1
        exact ⟨b, q1, x.stay b q2 nb, x.ownR hT nb q3⟩
  · have un : ∀ {j : Nat} {p : Bool} {d : D}, ρ1[j]? = some (Cell.own p d) → ∃ q e, ρ[j]? = some (Cell.own q e) := fun {j p d} h => by
      by_cases hj : j ∈ slotsOf args
      · obtain ⟨p, d, _, _, e1, _⟩ := lent hj
        exact ⟨p, d, e1⟩
      · rw [g1 j hj] at h; exact ⟨p, d, h⟩
    obtain ⟨_, _, k1⟩ := un h1
    obtain ⟨_, _, k2⟩ := un h2
    exact rel.apart j k _ _ _ _ a k1 k2 h3 h4
  · obtain ⟨j, p, d, h1, h2⟩ := h
    by_cases hj : j ∈ slotsOf args
    · obtain ⟨p, d, _, _, e1, _⟩ := lent hj
      exact ⟨j, p, d, e1, h2⟩
    · rw [g1 j hj] at h1; exact ⟨j, p, d, h1, h2⟩
  · by_cases hj : j ∈ slotsOf args
    · obtain ⟨p, d2, _, d', e1, _, e3, _⟩ := lent hj
      rw [h] at e1
      cases e1
      exact ⟨d', e3⟩
    · exact ⟨d, by rw [g1 j hj]; exact h⟩
  · by_cases hj : j ∈ slotsOf args
    · obtain ⟨p, d2, _, d', e1, _, e3, _⟩ := lent hj
      rw [h] at e3; cases e3
    · rw [g1 j hj] at h; exact h
theorem cells_apart (rel : RelS N H W σ ρ) {args : List Arg} {vs : List V} {cs : List Cell} (ha : ArgsR N σ H W args vs) (hn : nodupB (slotsOf args) = true) (hc : argCells ρ args = some cs) : Apart cs vs := by
  obtain ⟨cr, co, cl⟩ := args_cells rel ha hc
  intro i j p q d e a h1 h2 h3 h4
  obtain ⟨m, q1, e1, e2, e3⟩ := co i _ _ h1
  obtain ⟨m', q2, f1, f2, f3⟩ := co j _ _ h2
  have := rel.apart m m' _ _ _ _ a e2 f2 (e3 _ h3) (f3 _ h4)
  subst this
  exact nodup_slots hn e1 f1
/-- the call's promise, from where the arguments stand -/
theorem call_ok {C : Call} {f : Nat} {args : List Arg} {vs : List V} {Q : VK} (rel : RelS N H W σ ρ) (ha : ArgsR N σ H W args vs) (c : Cont N Wx σ ρ H W (KE N H Q) (doCall C f args ρ)) : spC N C f vs H Q (fun cls d H => Wx cls d σ H) := by
  unfold doCall at c
  by_cases hn : nodupB (slotsOf args) = true
  case neg => rw [if_neg hn] at c; exact c.elim
  rw [if_pos hn] at c
  cases hc : argCells ρ args with
  | none => rw [hc] at c; exact c.elim
  | some cs =>
    rw [hc] at c
    obtain ⟨cr, co, cl⟩ := args_cells rel ha hc
    have sub : ∀ a, CellOwn cs vs a → Own ρ σ a := fun a ⟨k, p, d, h1, h2⟩ => by
      obtain ⟨i, q, _, h4, h5⟩ := co k p d h1
      exact ⟨i, q, d, h4, h5 _ h2⟩
    refine ⟨W, cs, cr, rel.tr, cells_apart rel ha hn hc, ?_⟩
    have c' : Cont N Wx σ ρ H W (KE N H Q) (match C f cs with
      | .ok d fr outs => (match giveBack args outs ρ with
        | some ρ' => .ok (d, fr) ρ'
        | none => .bad)
      | .exc c fs => .exc c fs
      | .bad => .bad) := c
    revert c'
    cases C f cs with
    | bad => exact fun c' => c'
    | exc cc fs => exact fun c' x H1 W1 e r => c' x H1 W1 (e.wide sub) r
    | ok d fr outs =>
      intro c' v H1 W1 x t o vr
      cases hg : giveBack args outs ρ with
      | none =>
        have c2 : Cont N Wx σ ρ H W (KE N H Q) (match giveBack args outs ρ with
          | some ρ' => .ok (d, fr) ρ'
          | none => .bad) := c'
        rw [hg] at c2; exact c2.elim
      | some ρ' =>
        have c2 : Cont N Wx σ ρ H W (KE N H Q) (match giveBack args outs ρ with
          | some ρ' => .ok (d, fr) ρ'
          | none => .bad) := c'
        rw [hg] at c2
        exact c2 H1 W1 (call_stp rel ha hn hc hg x t o) v vr
end
end PX

end

section
set_option Elab.async false
set_option linter.all false
set_option autoImplicit false
set_option maxRecDepth 100000
/-! what a def promises where no repr is under way (the layer's FnOk, with that known of the surroundings) -/
namespace PX
open PySem PySem.Spec PyProof.Rows L2
structure RoomG (k : Nat) (A : Around) : Prop where
  room : Room k A
  gd : A.guards = some []
theorem RoomG.mono {j k : Nat} {A : Around} (r : RoomG k A) (h : j ≤ k) : RoomG j A := ⟨r.room.mono h, r.gd⟩
theorem RoomG.deeper {k : Nat} {A : Around} (r : RoomG (k + 1) A) (env : Env) : RoomG k (A.deeper env) := ⟨r.room.deeper env, r.gd⟩
theorem RoomG.make {k : Nat} {A : Around} (r : RoomG (k + 1) A) (C : Addr) (us : List Value) (kw : List (Str × Value)) : RoomG k (A.under (.builtin "type.__call__" ⟨.ref C :: us, kw⟩)) := ⟨r.room.make C us kw, by
  have := r.gd
  first | exact this | simpa [Around.under, Code.guards, pushGuards] using this⟩
structure FnG (P : Program) (w : World) (K : PySem.W.Frag) (mg : Str → Option Value) (base : Heap) (CX : CXT) (k : Nat) (f : Addr) (fd : FuncData) (ps : List Str) (sp : Sp) : Prop where
  len : ∀ vs H Q E, sp vs H Q E → vs.length = ps.length
  run : ∀ (A : Around) (outer : List Env) (s : Shared) (H : Hp) (args : Args) (us : List Value) (vs : List V) (Q : VK) (E : XK), RoomG k A → Env0 P w K mg base A outer s H → BindsTo s fd args (ps.zip us) → Vals vs us → sp vs H Q E →
    codeAny (model P w) A (.call (.ref f) args) (CR CX outer P w H s Q E) s
theorem fnG_of {CX : CXT} {P : Program} {w : World} {K : PySem.W.Frag} {mg : Str → Option Value} {base : Heap} {k : Nat} {f : Addr} {name qual : Str} {params : Arguments} {body : List Stmt} {scope : Scope} {dV kV doc pm cdv ct oc : Value} {an od : Option Addr}
    {osl : Array (Option Value)} {N ps : List Str} {sp : Sp} (lk : K.lookup f = some ⟨oc, od, .func (PySem.W.fnOf name qual params body scope dV kV doc pm an cdv ct), osl⟩) (hcd : PySem.W.codeIn K cdv qual = true) (S : FnScope N ps scope)
    (len : ∀ vs H Q E, sp vs H Q E → vs.length = ps.length)
    (hbody : ∀ (A : Around) (outer : List Env) (s : Shared) (H : Hp) (vs : List V) (Q : VK) (E : XK), RoomG k (A.deeper (envOfC qual scope s.heap.objs.size f cdv)) → sp vs H Q E →
      ∃ t, PSs (cxOf CX P w K mg base N qual scope f cdv A outer s H E) body t ∧ t { nx := fun _ H' => Q .non H', rt := Q } (start N vs) H) :
    FnG P w K mg base CX (k + 1) f (PySem.W.fnOf name qual params body scope dV kV doc pm an cdv ct) ps sp := by
  refine ⟨len, fun A outer s H args us vs Q E hr e0 hb r hsp => ?_⟩
  have hl := len _ _ _ _ hsp
  have KX : K.In s.heap := e0.mod.kin.keeps fun b o e => (e0.bs b o e).1
  have lim : s.heap.NoLimit := e0.mod.nolimit.keeps fun b o e => (e0.bs b o e).1
  have hkind : ∀ y ∈ ps.zip us, scope.names.lookup y.1 = some .local ∨ (scope.names.lookup y.1 = some .cell ∧ ((cellsFrom (s.heap.objs.size + 1) scope.names []).lookup y.1).isSome = true) := fun ⟨n, v⟩ hy => by
    rcases S.par n (List.of_mem_zip hy).1 with q | q
    · exact .inl q
    · exact .inr ⟨q, PySem.W.cellsFrom_some _ _ _ (.inl q)⟩
  refine codeAny_call_function hr.room.depth (KX _ _ lk) rfl S.co S.gen rfl (PySem.W.codeRec_of KX hcd) (hb _ _ _ _ ?_)
  refine wpAny_newFunctionEnv_cells S.kind hkind fun env he s1 x => ?_
  subst he
  refine ⟨lim.keeps x.toInCall.keep, codeAny_func ?_⟩
  obtain ⟨t, ht, hq⟩ := hbody A outer s H vs Q E (hr.deeper _) hsp
  have I : Inv (cxOf CX P w K mg base N qual scope f cdv A outer s H E) [] (start N vs) H s1 := inv_start S hr.room.hd e0 hl r x
  refine wpAny_mono (ht.run [] s1 (start N vs) H _ I hq) (fun fl s' hs => ?_) fun e s' hs => hs
  have fin : ∀ {σ' : L2.St} {H' : Hp} {v : V} {u : Value}, Inv (cxOf CX P w K mg base N qual scope f cdv A outer s H E) [] σ' H' s' → RelV v u → Q v H' → CE outer P w H s Q u s' :=
    fun {σ' H' v u} J rv q => ⟨v, H', J.os, J.bare, J.base, J.hok, rv, q⟩
  cases fl with
  | ret u =>
    obtain ⟨v, σ', H', J, rv, q⟩ := hs
    exact fin J rv q
  | next =>
    obtain ⟨σ', H', J, q⟩ := hs
    exact fin (v := V.non) (u := Value.none) J rfl q
  | brk =>
    obtain ⟨_, _, _, q⟩ := hs
    exact False.elim q
  | cont =>
    obtain ⟨_, _, _, q⟩ := hs
    exact False.elim q
theorem law_callG {P : Program} {w : World} {K : PySem.W.Frag} {mg mb : Str → Option Value} {CX : CXT} {k : Nat} {fa a : Addr} {fd : FuncData} {x : Str} {sp : Sp} {s₁ : Shared} {vs : List Value} {ns : List Int}
    (KX : K.In s₁.heap) (hns : s₁.heap.Ns mainGlobals mg) (hb : s₁.heap.Ns builtinsNs mb) (hbb : ∀ x : Str, x ≠ "__name__" → mb x = bootBuiltins x) (hlim : s₁.heap.NoLimit) (hg : s₁.gens = #[])
    (ha : s₁.heap.get? a = some { cls := .type "list", data := .seq vs.toArray }) (hi : IntsAre vs ns) (hl : ns.length ≤ sizeLine) (hr : RoomG k callerA)
    (F : ∀ base : Heap, K.In base → base.Ns mainGlobals mg → FnG P w K mg base CX k fa fd [x] sp) (hbind : ∀ (s : Shared) (u : Value), BindsTo s fd ⟨[u], []⟩ [(x, u)])
    (hsp : ∀ H : Hp, Only H → SqL K H a (ns.map V.int) → sp [.ref a] H (fun v _ => v = .bl true) fun _ _ _ => False)
    (hCX : ∀ H e s', CX [] H s₁ (fun _ _ _ => False) e s' → False) :
    codeAny (model P w) callerA (.call (.ref fa) ⟨[.ref a], []⟩) (fun r s' => r = .ok (.ret (.bool true)) ∧ OldK s₁.heap s'.heap ∧ s'.os = s₁.os ∧ AllBare s'.gens) s₁ := by
  have rv := vals_ints hi
  have lenV := hi.length
  -- from an abstract heap in which nothing but the script may be tracked
  have core : ∀ H : Hp, Only H → SqL K H a (ns.map V.int) → HOk P w H s₁.heap → (∀ b, H b ≠ none → b = a) → (H a ≠ none → K.lookup a = none) →
      codeAny (model P w) callerA (.call (.ref fa) ⟨[.ref a], []⟩) (fun r s' => r = .ok (.ret (.bool true)) ∧ OldK s₁.heap s'.heap ∧ s'.os = s₁.os ∧ AllBare s'.gens) s₁ := by
    intro H hO hS hok hA hK
    have base_of : ∀ {b : Addr} {o : Obj}, s₁.heap.get? b = some o → H b = none → (hidT s₁.heap H).get? b = some o := fun e n => hidT_get e n
    have noA : ∀ {b : Addr} {o : Obj} {es : Array DictEntry} {ep : Nat}, s₁.heap.get? b = some o → o.data = .dict es ep → H b = none := fun {b o es ep} e d => by
      cases q : H b with
      | none => rfl
      | some u =>
        have e' : b = a := hA b (by rw [q]; simp)
        subst e'
        rw [ha] at e; cases e
        have d' : Data.seq vs.toArray _ = Data.dict es ep := d
        cases d'
    have nsK : ∀ {b : Addr} {m : Str → Option Value}, s₁.heap.Ns b m → (hidT s₁.heap H).Ns b m := fun {b m} ⟨o, es, ep, e, d, r⟩ => ⟨o, es, ep, base_of e (noA e d), d, r⟩
    have hKb : K.In (hidT s₁.heap H) := fun b o e => base_of (KX b o e) (by
      cases q : H b with
      | none => rfl
      | some u =>
        have e' : b = a := hA b (by rw [q]; simp)
        subst e'
        rw [hK (by rw [q]; simp)] at e; cases e)
    have hM : Mod K mg (hidT s₁.heap H) := ⟨hKb, nsK hns, ⟨mb, nsK hb, hbb⟩, let ⟨mc, h1, h2⟩ := hlim; ⟨mc, nsK h1, h2⟩⟩
    have e0 : Env0 P w K mg (hidT s₁.heap H) callerA [] s₁ H := ⟨rfl, hM, fun b o e => of_hidT e, Nat.le_of_eq (hidT_size _ _), trivial, fun b hb => absurd (show b ∈ ([] : List Addr) from hb) (by simp), hok, .of_eq hg⟩
    refine codeAny_mono ((F _ hKb (nsK hns)).run callerA [] s₁ H ⟨[.ref a], []⟩ [.ref a] [.ref a] _ _ hr e0 (hbind s₁ (.ref a)) (.cons rfl .nil) (hsp H hO hS)) fun r s' h => ?_
    cases r with
    | error e => exact (hCX H e s' h).elim
    | ok fl =>
      cases fl with
      | next => exact False.elim h
      | brk => exact False.elim h
      | cont => exact False.elim h
      | ret u =>
        obtain ⟨v, H', os, bare, un, hok', r', q⟩ := h
        have q' : v = .bl true := q
        subst q'
        obtain rfl : u = Value.bool true := r'
        refine ⟨rfl, OldK.of_keep fun b o e => ?_, os, bare⟩
        cases q : H b with
        | none => exact un.keep b o e q (by intro z; exact absurd (show b ∈ ([] : List Addr) from z) (by simp)) (by simp)
        | some u =>
          rcases hO b with z | ⟨ob, xs, z⟩
          · rw [q] at z; cases z
          · have z2 := un.frzs b ob _ z
            obtain ⟨e1, _⟩ := hok b _ z
            obtain ⟨e2, _⟩ := hok' b _ z2
            rw [e] at e1; cases e1
            exact e2
  cases hk : K.lookup a with
  | some o =>
    -- the script is one of the module's own objects
    have e := KX a o hk
    rw [ha] at e
    cases e
    refine core (fun _ => none) (fun _ => .inl rfl) (.inr ⟨_, vs.toArray, _, hk, rfl, rfl, rfl, by rw [List.size_toArray, lenV]; exact hl, by simpa using rv⟩) (fun b u z => by have z' : (none : Option HO) = some u := z; cases z') (fun b z => absurd rfl z) fun z => absurd rfl z
  | none =>
    refine core (fun b => if b = a then some (.frz { cls := .type "list", data := .seq vs.toArray } (.lst (ns.map V.int))) else none) (fun b => ?_) (.inl (.inr ⟨{ cls := .type "list", data := .seq vs.toArray }, if_pos rfl⟩)) (fun b u z => ?_) (fun b z => ?_) fun _ => hk
    · by_cases hb : b = a
      · exact .inr ⟨_, _, if_pos hb⟩
      · exact .inl (if_neg hb)
    · by_cases hb : b = a
      · have z' := (if_pos hb).symm.trans z
        cases z'
        subst hb
        exact ⟨ha, by rw [List.length_map]; exact hl, vs, _, rv, ha⟩
      · have z' := (if_neg hb).symm.trans z
        cases z'
    · by_cases hb : b = a
      · exact hb
      · exact absurd (if_neg hb) z
theorem walk_G {l : PySem.W.OpenLaw} {n k : Nat} {q : Program} {loose : List Str} {XP : (Str → Option Value) → Heap → Prop} {YP : World → Heap → Prop} {d : DefRec} {CX : World → CXT} {x : Str}
    (hn : l.most = some n) (hn2 : n ≤ sizeLine) (hdf : d.params.defaults = []) (hr : RoomG k callerA)
    (F : ∀ (w : World) (mg : Str → Option Value) (fa : Addr) (h : Heap), YP w h → h.Ns mainGlobals mg → mg d.name = some (.ref fa) →
      ∃ (K : PySem.W.Frag) (fd : FuncData) (sp : Sp), K.In h ∧ (∀ (s : Shared) (u : Value), BindsTo s fd ⟨[u], []⟩ [(x, u)]) ∧
        (∀ (H : Hp) (a : Addr) (ns : List Int), ns.length ≤ n → Only H → SqL K H a (ns.map V.int) → sp [.ref a] H (fun v _ => v = .bl true) fun _ _ _ => False) ∧
        ∀ base : Heap, K.In base → base.Ns mainGlobals mg → FnG l.prog w K mg base (CX w) k fa fd [x] sp)
    (hCX : ∀ (w : World) (H : Hp) (s : Shared) (e : Value) (s' : Shared), CX w [] H s (fun _ _ _ => False) e s' → False) :
    PySem.W.WalkO q loose XP YP l.row.toRowW d [] (fun f vs => PySem.call f vs) := by
  refine Att.attach_call hn hdf fun w s₀ s₁ mg mb fa o pm cd doc a vs ns G Y ho hd hcd hmg hobj hints hlen hg => ?_
  obtain ⟨K, fd, sp, KX, hb, hsp, hF⟩ := F w mg fa _ Y G.T.g hmg
  exact law_callG KX G.T.g G.T.b G.T.builtins G.T.nolimit hg hobj hints (Nat.le_trans hlen hn2) hr hF hb (fun H hO hS => hsp H a ns hlen hO hS) fun H e s' => hCX w H s₁ e s'
end PX

end

section
set_option Elab.async false
set_option linter.all false
set_option autoImplicit false
set_option maxRecDepth 100000
namespace PX
open PySem PySem.Spec PyProof.Rows L2
section
variable {N : Nm} {Wx : WX} {X : Cx} {σ σ1 σ2 : L2.St} {ρ ρ1 ρ2 : Ev} {H H0 H1 H2 : Hp} {W W1 W2 T T1 : Addr → Prop}
variable (C : Call) (G : Nat → D)
variable (N Wx) in
/-- an argument list's reading, the defaults behind it -/
def TAr (r : Ev → Res (List Arg)) (dvs : List V) : TA := fun σ H Q => ∃ W ρ, RelS N H W σ ρ ∧ Cont N Wx σ ρ H W (fun args _ H1 W1 => ∀ vs, ArgsR N σ H1 W1 args (vs ++ dvs) → Q vs H1) (r ρ)
theorem ar_nil {l : E} {cargs : List Arg} {dvs : List V} (hl : ∀ ρ, evA C G l ρ = .ok cargs ρ) (hd : ∀ (σ : L2.St) (H : Hp) (W : Addr → Prop), ArgsR N σ H W cargs dvs) : PA X [] (TAr N Wx (evA C G l) dvs) := by
  refine paImp pa_nil fun σ H Q hq => ?_
  obtain ⟨W, ρ, rel, c⟩ := hq
  rw [hl] at c
  exact c.here rel [] (hd σ H W)
theorem rdr_arg {e : Expr} {a : E} (h : Rdr N Wx X e a (ev C G a)) : ∃ t, PE X e t ∧ ∀ σ H (R : VK), (∃ W ρ, RelS N H W σ ρ ∧ Cont N Wx σ ρ H W (fun x ρ1 H1 W1 => ∀ v, ArgR N σ H1 W1 x v → R v H1) (argOf a (ev C G a) ρ)) → t σ H R := by
  rcases var_or a with ⟨i, rfl⟩ | hv
  · refine ⟨_, h.var i rfl, fun σ H R hq => ?_⟩
    obtain ⟨W, ρ, rel, c⟩ := hq
    have c0 : Cont N Wx σ ρ H W (fun x ρ1 H1 W1 => ∀ v, ArgR N σ H1 W1 x v → R v H1) (match ρ[i]? with
      | some (.val d) => .ok (.val d) ρ
      | some (.own _ _) => .ok (.slot i) ρ
      | _ => .bad) := c
    cases q : ρ[i]? with
    | none => rw [q] at c0; exact c0.elim
    | some z =>
      rw [q] at c0
      have s := rel.slot i z q
      cases z with
      | unset => exact c0.elim
      | val d => exact let ⟨v, e1, r⟩ := s; ⟨v, e1, Cont.here (N := N) (Wx := Wx) (a := Arg.val d) rel c0 v r⟩
      | own p d => exact let ⟨b, e1, _, _⟩ := s; ⟨_, e1, Cont.here (N := N) (Wx := Wx) (a := Arg.slot i) rel c0 _ e1⟩
  · refine ⟨_, h.ev, fun σ H R hq => ?_⟩
    obtain ⟨W, ρ, rel, c⟩ := hq
    have e1 : argOf a (ev C G a) ρ = (ev C G a ρ).bind fun d ρ => .ok (.val d.1) ρ := by cases a <;> first | rfl | exact absurd rfl (hv _)
    rw [e1] at c
    refine TEv.keep (F := fun (d : D) (ρ : Ev) => (Res.ok (Arg.val d) ρ : Res Arg)) rel c fun d ρ1 H1 W1 v s rp c1 => ?_
    exact Cont.here (N := N) (Wx := Wx) (a := Arg.val d) s.rel c1 v rp
theorem ar_cons {e : Expr} {es : List Expr} {a b : E} {dvs : List V} (hn : notStar e = true) (ha : Rdr N Wx X e a (ev C G a)) (hb : PA X es (TAr N Wx (evA C G b) dvs)) : PA X (e :: es) (TAr N Wx (evA C G (.cons a b)) dvs) := by
  obtain ⟨t, pt, le⟩ := rdr_arg C G ha
  refine paImp (pa_cons pt hb (star_cons hn es _)) fun σ H Q hq => le σ H _ ?_
  obtain ⟨W, ρ, rel, c⟩ := hq
  have c' : Cont N Wx σ ρ H W (fun args _ H1 W1 => ∀ vs, ArgsR N σ H1 W1 args (vs ++ dvs) → Q vs H1) ((argOf a (ev C G a) ρ).bind fun d ρ => (evA C G b ρ).bind fun r ρ => .ok (d :: r) ρ) := c
  refine ⟨W, ρ, rel, (c'.bind rel).mono fun d ρ1 H1 W1 s ⟨_, c1⟩ v hv => ?_⟩
  refine ⟨W1, ρ1, s.rel, (c1.bind s.rel).mono fun r ρ2 H2 W2 s2 ⟨_, c2⟩ vs hvs => ?_⟩
  exact c2.here s2.rel (v :: vs) (.cons (hv.stp s.rel s2) hvs)
/-! ### f(..) -/
theorem run_fnG {CX : CXT} {k : Nat} {f : Addr} {fd : FuncData} {ps : List Str} {sp : Sp} {dvs : List V} {ds : List Value} {E : L2.St → XK} {pins : List (Addr × Obj)} {σ : L2.St} {H : Hp} {s : Shared} {Q : VK} {us : List Value} {vs : List V} (F : FnG X.prog X.w X.K X.mg X.base CX k f fd ps sp) (hr : RoomG k X.A) (hb : Binds X.K fd ps ds) (hd : Vals dvs ds) (hx : PassesAt CX X σ (E σ))
    (I : Inv X pins σ H s) (r : Vals vs us) (h : sp (vs ++ dvs) H Q (E σ)) : wpAny (model X.prog X.w) X.A (call (.ref f) us) (EP X pins σ Q) X.xe s := by
  have r2 : Vals (vs ++ dvs) (us ++ ds) := r.append hd
  have hl : (us ++ ds).length = ps.length := by rw [← r2.length]; exact F.len _ _ _ _ h
  refine wpAny_call (codeAny_mono (F.run X.A X.stack s H ⟨us, []⟩ (us ++ ds) (vs ++ dvs) Q (E σ) hr I.env0 (hb s us I.kIn hl) r2 h) fun r s' hq => ?_)
  cases r with
  | error e => exact hx pins H s e s' I hq
  | ok fl =>
    cases fl with
    | ret u => exact I.after hq
    | next => exact False.elim hq
    | brk => exact False.elim hq
    | cont => exact False.elim hq
theorem pe_callG {CX : CXT} {k : Nat} {f : Addr} {fd : FuncData} {ps : List Str} {sp : Sp} {dvs : List V} {ds : List Value} {E : L2.St → XK} {x : Str} {p pos : Pos} {e : Expr} {es : List Expr} {t : TA} (F : FnG X.prog X.w X.K X.mg X.base CX k f fd ps sp) (hr : RoomG k X.A) (hg : Gl X x) (hm : X.mg x = some (.ref f)) (hk : PySem.W.keepIn X.K (.ref f) = true) (hb : Binds X.K fd ps ds) (hd : Vals dvs ds) (hx : ∀ σ, PassesAt CX X σ (E σ))
    (ha : PA X (e :: es) t) (hdb : (x == ("__debug__" : Str)) = false) (he : starEach (e :: es) X.env = (false, eval e X.env) :: starEach es X.env) (hpl : (backTo pos (starEach es X.env)).any (·.1) = false) :
    PE X (.Call (.Name x p) (e :: es) [] pos) (tCallSD sp dvs E t) := by
  refine ⟨fun pins s σ H Q I h => ?_⟩
  refine wpAny_Call_Name_kw (ld_glob I hg hm ?_ hdb)
  refine PySem.W.callWith_K (h₀ := X.base) I.ok.mod.kin hk (thn (ha.run pos pins s σ H _ I h) fun us s1 ⟨vs, H1, I1, r, q⟩ => ⟨I1.kIn, ?_⟩) he hpl
  exact run_fnG F hr hb hd (hx σ) I1 r q
/-- what a call of the text's def f asks of the context -/
structure FOk (N : Nm) (C : Call) (X : Cx) (k f : Nat) (fa : Addr) (dvs : List V) : Prop where
  fn : ∃ (fd : FuncData) (ps : List Str) (ds : List Value), FnG X.prog X.w X.K X.mg X.base (L2.CX X.prog X.w) k fa fd ps (spC N C f) ∧ Binds X.K fd ps ds ∧ Vals dvs ds
theorem r_call {x : Str} {p pos : Pos} {e : Expr} {es : List Expr} {l : E} {f k : Nat} {fa : Addr} {dvs : List V} (F : FOk N C X k f fa dvs) (hr : RoomG k X.A) (tk : Takes X Wx) (hg : Gl X x) (hm : X.mg x = some (.ref fa)) (hk : PySem.W.keepIn X.K (.ref fa) = true) (hdb : (x == ("__debug__" : Str)) = false)
    (hn : (e :: es).all notStar = true) (ha : PA X (e :: es) (TAr N Wx (evA C G l) dvs)) : Rdr N Wx X (.Call (.Name x p) (e :: es) [] pos) (.call f l) (ev C G (.call f l)) := by
  obtain ⟨fd, ps, ds, F, hb, hd⟩ := F.fn
  rw [List.all_cons, Bool.and_eq_true] at hn
  have main : PE X (.Call (.Name x p) (e :: es) [] pos) (tCallSD (spC N C f) dvs (fun σ cls d H => Wx cls d σ H) (TAr N Wx (evA C G l) dvs)) :=
    pe_callG F hr hg hm hk hb hd (fun σ => passAt tk σ) ha hdb (star_cons hn.1 es _) (star_any hn.2)
  refine r_of (peImp main fun σ H Q hq => ?_) fun _ e => nomatch e
  obtain ⟨W, ρ, rel, c⟩ := hq
  have c' : Cont N Wx σ ρ H W (KE N H Q) ((evA C G l ρ).bind fun args ρ => doCall C f args ρ) := c
  refine ⟨W, ρ, rel, (c'.bind rel).mono fun args ρ1 H1 W1 s ⟨_, c1⟩ vs hvs => ?_⟩
  exact call_ok s.rel hvs (Cont.back (α := D) s c1)
theorem r_call0 {x : Str} {p pos : Pos} {l : E} {cargs : List Arg} {f k : Nat} {fa : Addr} {dvs : List V} (F : FOk N C X k f fa dvs) (hr : RoomG k X.A) (tk : Takes X Wx) (hg : Gl X x) (hm : X.mg x = some (.ref fa)) (hk : PySem.W.keepIn X.K (.ref fa) = true) (hdb : (x == ("__debug__" : Str)) = false)
    (hl : ∀ ρ, evA C G l ρ = .ok cargs ρ) (hd : ∀ (σ : L2.St) (H : Hp) (W : Addr → Prop), ArgsR N σ H W cargs dvs) : Rdr N Wx X (.Call (.Name x p) [] [] pos) (.call f l) (ev C G (.call f l)) := by
  obtain ⟨fd, ps, ds, F, hb, hds⟩ := F.fn
  have main : PE X (.Call (.Name x p) [] [] pos) (tCallSD (spC N C f) dvs (fun σ cls d H => Wx cls d σ H) tNil) := by
    refine ⟨fun pins s σ H Q I h => ?_⟩
    refine wpAny_Call_Name_kw (ld_glob I hg hm ?_ hdb)
    exact PySem.W.callWith_K0 I.kIn hk (run_fnG (us := []) F hr hb hds (E := fun σ cls d H => Wx cls d σ H) (passAt tk σ) I .nil h)
  refine r_of (peImp main fun σ H Q hq => ?_) fun _ e => nomatch e
  obtain ⟨W, ρ, rel, c⟩ := hq
  have c' : Cont N Wx σ ρ H W (KE N H Q) ((evA C G l ρ).bind fun args ρ => doCall C f args ρ) := c
  rw [hl] at c'
  exact call_ok rel (hd σ H W) c'
/-! ### o.m(..) -/
theorem meth_eval {o : Expr} {m : Str} {apos pos : Pos} {args : List Expr} {env : Env} (hb : notCall o = true) (hn : args.all notStar = true) (hl : args.length < 30) (hline : (apos.endLine == pos.line) = true) :
    eval (.Call (.Attribute o m apos) args [] pos) env = (do
      let ov ← eval o env
      standAt apos.atName
      let (f, first) ← holding [ov] (getMethod ov m (do return (← importBound o env).getD true))
      callWith pos f first (backTo pos (starEach args env)) (backToKw pos (keywordEach [] env))) := by
  rw [arm_eval_Call, attr_base hb]
  have hform : methodCallForm (args.length + ([] : List Keyword).length) (backTo pos (starEach args env)) (backToKw pos (keywordEach [] env)) = true := by
    unfold methodCallForm
    rw [star_all hn]
    show (true && true && decide (args.length + 0 + 0 < 30)) = true
    rw [decide_eq_true (by omega)] <;> rfl
  have hpos : methodCallPos true o env apos pos = pure pos := by unfold methodCallPos; simp [hline]
  congr 1
  funext ov
  congr 1
  funext _
  unfold methodCall
  rw [hform]
  unfold calleeOf
  simp only [if_true]
  congr 1
  funext x
  rw [hpos]
  rfl

def tMethSD (Ca : Addr) (m : Str) (sp : Sp) (dvs : List V) (E : L2.St → XK) (ta : TE) (t : TA) : TE := fun σ H Q => ta σ H fun x H1 => ∃ a dx fs, x = .ref a ∧ H1 a = some (.ins Ca dx fs) ∧ fs.lookup m = none ∧ t σ H1 fun vs H2 => sp (x :: (vs ++ dvs)) H2 Q (E σ)
theorem pe_methSD {CX : CXT} {k : Nat} {f Ca : Addr} {fd : FuncData} {ps : List Str} {sp : Sp} {dvs : List V} {ds : List Value} {E : L2.St → XK} {m : Str} {apos pos : Pos} {e o : Expr} {es : List Expr} {ta : TE} {t : TA} (he : PE X o ta) (c : Cls X.K Ca) (hm : Meth X.K Ca m f) (F : FnG X.prog X.w X.K X.mg X.base CX k f fd ps sp) (hr : RoomG k X.A) (hb : Binds X.K fd ps ds) (hd : Vals dvs ds) (hx : ∀ σ, PassesAt CX X σ (E σ)) (ha : PA X (e :: es) t)
    (hba : notCall o = true) (hn : (e :: es).all notStar = true) (hle : (e :: es).length < 30) (hline : (apos.endLine == pos.line) = true) :
    PE X (.Call (.Attribute o m apos) (e :: es) [] pos) (tMethSD Ca m sp dvs E ta t) := by
  refine ⟨fun pins s σ H Q I h => ?_⟩
  refine PySem.W.methodCall_KW (thn (he.run pins s σ H _ I h) fun u s1 ⟨x, H1, I1, rx, a, dx, fs, ex, ea, l, q⟩ => ?_) (meth_eval hba hn hle hline)
  subst ex
  obtain rfl : u = Value.ref a := rx
  rw [List.all_cons, Bool.and_eq_true] at hn
  have hst := star_cons hn.1 es X.env
  have hpl := star_any (env := X.env) (p := pos) hn.2
  refine getmeth_ok I1 ea c hm l ?_
  refine PySem.W.callWith_K (first := [.ref a]) (h₀ := X.base) I.ok.mod.kin hm.kp (thn (ha.run pos pins s1 σ H1 _ I1 q) fun us s2 ⟨vs, H2, I2, r, q2⟩ => ⟨I2.kIn, ?_⟩) hst hpl
  exact run_fnG (us := .ref a :: us) (vs := .ref a :: vs) F hr hb hd (hx σ) I2 (.cons rfl r) q2
theorem pe_meth0SD {CX : CXT} {k : Nat} {f Ca : Addr} {fd : FuncData} {ps : List Str} {sp : Sp} {dvs : List V} {ds : List Value} {E : L2.St → XK} {m : Str} {apos pos : Pos} {o : Expr} {ta : TE} (he : PE X o ta) (c : Cls X.K Ca) (hm : Meth X.K Ca m f) (F : FnG X.prog X.w X.K X.mg X.base CX k f fd ps sp) (hr : RoomG k X.A) (hb : Binds X.K fd ps ds) (hd : Vals dvs ds) (hx : ∀ σ, PassesAt CX X σ (E σ)) (hba : notCall o = true) (hline : (apos.endLine == pos.line) = true) :
    PE X (.Call (.Attribute o m apos) [] [] pos) (tMethSD Ca m sp dvs E ta tNil) := by
  refine ⟨fun pins s σ H Q I h => ?_⟩
  refine PySem.W.methodCall_KW (thn (he.run pins s σ H _ I h) fun u s1 ⟨x, H1, I1, rx, a, dx, fs, ex, ea, l, q⟩ => ?_) (meth_eval hba rfl (by decide) hline)
  subst ex
  obtain rfl : u = Value.ref a := rx
  refine getmeth_ok I1 ea c hm l ?_
  exact PySem.W.callWith_K0 (first := [.ref a]) I1.kIn hm.kp (run_fnG (us := [.ref a]) (vs := [.ref a]) F hr hb hd (hx σ) I1 (.cons rfl .nil) q)
theorem no_field {m : Str} (hm : ∀ g, N.fld g ≠ m) : ∀ {fs : List (Nat × D)} {gs : List (Str × V)}, RepsF N H W fs gs → gs.lookup m = none
  | [], gs, h => by rw [show gs = [] from h] <;> rfl
  | (g, d) :: fs, _, ⟨x, r, rfl, _, rs⟩ => by
    have ne : (m == N.fld g) = false := by
      rw [beq_eq_false_iff_ne]
      exact fun z => hm g z.symm
    rw [List.lookup, ne]
    exact no_field hm rs
/-- the object that a method is asked of -/
theorem obj_at (rel : RelS N H W σ ρ) {c : Nat} {x : Arg} {v : V} (ar : ArgR N σ H W x v) (ho : isObj c x ρ = true) : ∃ a dx gs fs, v = .ref a ∧ H a = some (.ins (N.cls c) dx gs) ∧ RepsF N H W fs gs := by
  cases x with
  | val d =>
    cases d with
    | obj c' fs =>
      have e : c' = c := beq_iff_eq.mp (show (c' == c) = true from ho)
      subst e
      obtain ⟨a, dx, gs, e1, _, e2, e3⟩ := ar
      exact ⟨a, dx, gs, fs, e1, e2, e3⟩
    | _ => cases ho
  | slot i =>
    have ho' : (match ρ[i]? with
      | some (.own _ (.obj c' _)) => c' == c
      | _ => false) = true := ho
    cases q : ρ[i]? with
    | none => rw [q] at ho'; cases ho'
    | some z =>
      rw [q] at ho'
      cases z with
      | own p d =>
        cases d with
        | obj c' fs =>
          have e : c' = c := beq_iff_eq.mp (show (c' == c) = true from ho')
          subst e
          obtain ⟨a, e1, w, dx, gs, e2, e3⟩ := rel.slot i _ q
          have ar' : σ[i]? = some (some v) := ar
          rw [e1] at ar'
          cases ar'
          exact ⟨a, dx, gs, fs, rfl, e2, e3⟩
        | _ => cases ho'
      | _ => cases ho'
theorem r_meth {m : Str} {apos pos : Pos} {eo e : Expr} {es : List Expr} {o l : E} {c f k : Nat} {fa : Addr} {dvs : List V} (hK : X.K = N.K) (F : FOk N C X k f fa dvs) (hr : RoomG k X.A) (tk : Takes X Wx) (hcl : Cls N.K (N.cls c)) (hm : Meth N.K (N.cls c) m fa) (hnm : ∀ g, N.fld g ≠ m) (ho : Rdr N Wx X eo o (ev C G o)) (hba : notCall eo = true) (hle : (e :: es).length < 30) (hline : (apos.endLine == pos.line) = true)
    (hn : (e :: es).all notStar = true) (ha : PA X (e :: es) (TAr N Wx (evA C G l) dvs)) : Rdr N Wx X (.Call (.Attribute eo m apos) (e :: es) [] pos) (.meth c f o l) (ev C G (.meth c f o l)) := by
  obtain ⟨fd, ps, ds, F, hb, hd⟩ := F.fn
  obtain ⟨t, pt, le⟩ := rdr_arg C G ho
  have main := pe_methSD (apos := apos) (pos := pos) (E := fun σ cls d H => Wx cls d σ H) pt (by rw [hK]; exact hcl) (by rw [hK]; exact hm) F hr hb hd (fun σ => passAt tk σ) ha hba hn hle hline
  refine r_of (peImp main fun σ H Q hq => le σ H _ ?_) fun _ e => nomatch e
  obtain ⟨W, ρ, rel, cc⟩ := hq
  have c' : Cont N Wx σ ρ H W (KE N H Q) ((argOf o (ev C G o) ρ).bind fun x ρ => if isObj c x ρ then (evA C G l ρ).bind fun args ρ => doCall C f (x :: args) ρ else .bad) := cc
  refine ⟨W, ρ, rel, (c'.bind rel).mono fun x ρ1 H1 W1 s ⟨_, c1⟩ v hv => ?_⟩
  by_cases hob : isObj c x ρ1 = true
  case neg => rw [if_neg hob] at c1; exact c1.elim
  rw [if_pos hob] at c1
  obtain ⟨a, dx, gs, fs, rfl, ea, rf⟩ := obj_at s.rel hv hob
  refine ⟨a, dx, gs, rfl, ea, no_field hnm rf, W1, ρ1, s.rel, (c1.bind s.rel).mono fun args ρ2 H2 W2 s2 ⟨_, c2⟩ vs hvs => ?_⟩
  exact call_ok (args := x :: args) (vs := .ref a :: (vs ++ dvs)) s2.rel (.cons (hv.stp s.rel s2) hvs) (Cont.back (α := D) (s.trans rel s2) c2)
theorem r_meth0 {m : Str} {apos pos : Pos} {eo : Expr} {o l : E} {cargs : List Arg} {c f k : Nat} {fa : Addr} {dvs : List V} (hK : X.K = N.K) (F : FOk N C X k f fa dvs) (hr : RoomG k X.A) (tk : Takes X Wx) (hcl : Cls N.K (N.cls c)) (hm : Meth N.K (N.cls c) m fa) (hnm : ∀ g, N.fld g ≠ m) (ho : Rdr N Wx X eo o (ev C G o)) (hba : notCall eo = true) (hline : (apos.endLine == pos.line) = true)
    (hl : ∀ ρ, evA C G l ρ = .ok cargs ρ) (hdv : ∀ (σ : L2.St) (H : Hp) (W : Addr → Prop), ArgsR N σ H W cargs dvs) : Rdr N Wx X (.Call (.Attribute eo m apos) [] [] pos) (.meth c f o l) (ev C G (.meth c f o l)) := by
  obtain ⟨fd, ps, ds, F, hb, hd⟩ := F.fn
  obtain ⟨t, pt, le⟩ := rdr_arg C G ho
  have main := pe_meth0SD (apos := apos) (pos := pos) (E := fun σ cls d H => Wx cls d σ H) pt (by rw [hK]; exact hcl) (by rw [hK]; exact hm) F hr hb hd (fun σ => passAt tk σ) hba hline
  refine r_of (peImp main fun σ H Q hq => le σ H _ ?_) fun _ e => nomatch e
  obtain ⟨W, ρ, rel, cc⟩ := hq
  have c' : Cont N Wx σ ρ H W (KE N H Q) ((argOf o (ev C G o) ρ).bind fun x ρ => if isObj c x ρ then (evA C G l ρ).bind fun args ρ => doCall C f (x :: args) ρ else .bad) := cc
  refine ⟨W, ρ, rel, (c'.bind rel).mono fun x ρ1 H1 W1 s ⟨_, c1⟩ v hv => ?_⟩
  by_cases hob : isObj c x ρ1 = true
  case neg => rw [if_neg hob] at c1; exact c1.elim
  rw [if_pos hob, hl] at c1
  obtain ⟨a, dx, gs, fs, rfl, ea, rf⟩ := obj_at s.rel hv hob
  refine ⟨a, dx, gs, rfl, ea, no_field hnm rf, ?_⟩
  exact call_ok (args := x :: cargs) (vs := .ref a :: ([] ++ dvs)) s.rel (.cons hv (hdv σ H1 W1)) (Cont.back (α := D) s c1)
/-! ### C(..) -/
def tMakeSD (Ca : Addr) (sp : Sp) (dvs : List V) (E : L2.St → XK) (t : TA) : TE := fun σ H Q => t σ H fun vs H1 => ∀ x dx, H1 x = none → H1 dx = none → dx ≠ x →
  sp (.ref x :: (vs ++ dvs)) (upd (upd H1 dx (.own x)) x (.ins Ca dx [])) (fun v H2 => v = .non ∧ Q (.ref x) H2) (E σ)
theorem run_makeSD {CX : CXT} {k : Nat} {f Ca : Addr} {fd : FuncData} {ps : List Str} {sp : Sp} {dvs : List V} {ds : List Value} {E : L2.St → XK} {pins : List (Addr × Obj)} {s : Shared} {σ : L2.St} {H : Hp} {Q : VK} {us : List Value} {vs : List V} (M : Mk X.K Ca f) (F : FnG X.prog X.w X.K X.mg X.base CX k f fd ps sp) (hr : RoomG (k + 1) X.A) (hb : Binds X.K fd ps ds) (hd : Vals dvs ds)
    (hx : PassesAt CX X σ (E σ)) (I : Inv X pins σ H s) (r : Vals vs us)
    (h : ∀ x dx, H x = none → H dx = none → dx ≠ x → sp (.ref x :: (vs ++ dvs)) (upd (upd H dx (.own x)) x (.ins Ca dx [])) (fun v H2 => v = .non ∧ Q (.ref x) H2) (E σ)) :
    wpAny (model X.prog X.w) X.A (call (.ref Ca) us) (EP X pins σ Q) X.xe s := by
  have hq := h (s.heap.objs.size + 1) s.heap.objs.size (I.hok.fresh (Nat.le_succ _)) (I.hok.fresh (Nat.le_refl _)) (Nat.ne_of_lt (Nat.lt_succ_self _))
  have I2 := Inv.made (C := Ca) I
  have r2 : Vals (V.ref (s.heap.objs.size + 1) :: (vs ++ dvs)) (Value.ref (s.heap.objs.size + 1) :: (us ++ ds)) := .cons rfl (r.append hd)
  have hl : (Value.ref (s.heap.objs.size + 1) :: us ++ ds).length = ps.length := by
    have e := r2.length
    rw [F.len _ _ _ _ hq] at e
    exact e.symm
  refine wpAny_call (make_map (f := f) I.kIn M.makes M.init (beq_iff_eq.mp M.fn) (codeAny_mono (F.run _ X.stack _ _ ⟨Value.ref (s.heap.objs.size + 1) :: us, []⟩ (Value.ref (s.heap.objs.size + 1) :: (us ++ ds)) _ _ (E σ) (hr.make Ca us [])
    (I2.env0.make Ca us []) (hb _ (Value.ref (s.heap.objs.size + 1) :: us) I2.kIn hl) r2 hq) fun r s' hq' => ?_))
  cases r with
  | error e => exact hx pins _ _ e s' I2 hq'
  | ok fl =>
    cases fl with
    | ret u =>
      obtain ⟨v, H', I3, rv, ev, q3⟩ := I2.after hq'
      subst ev
      exact ⟨rv, ⟨V.ref (s.heap.objs.size + 1), H', I3, rfl, q3⟩⟩
    | next => exact False.elim hq'
    | brk => exact False.elim hq'
    | cont => exact False.elim hq'
theorem new_ok {c f : Nat} {args : List Arg} {vs : List V} {Q : VK} {ρ0 : Ev} {W0 : Addr → Prop} (s0 : Stp N σ ρ0 H0 W0 ρ H W) (ha : ArgsR N σ H W args vs) (cc : Cont N Wx σ ρ H W (KE N H0 Q) (doNew C c f args ρ)) {x dx : Addr} (hx : H x = none) (hdx : H dx = none) (hne : dx ≠ x) :
    spC N C f (.ref x :: vs) (upd (upd H dx (.own x)) x (.ins (N.cls c) dx [])) (fun v H2 => v = .non ∧ Q (.ref x) H2) (fun cls d H => Wx cls d σ H) := by
  have rel := s0.rel
  unfold doNew at cc
  by_cases hn : nodupB (slotsOf args) = true
  case neg => rw [if_neg hn] at cc; exact cc.elim
  rw [if_pos hn] at cc
  cases hc : argCells ρ args with
  | none => rw [hc] at cc; exact cc.elim
  | some cs =>
    rw [hc] at cc
    have n1 : Nw H W (upd H dx (.own x)) W := .new rel.tr hdx
    have hx1 : (upd H dx (.own x)) x = none := by rw [upd_ne (Ne.symm hne)]; exact hx
    have n2 : Nw (upd H dx (.own x)) W (upd (upd H dx (.own x)) x (.ins (N.cls c) dx [])) (fun b => W b ∨ b = x) := .newO n1.tr hx1 trivial
    have n := n1.trans n2 rel.tr
    have s1 := n.stp rel
    have rel1 := s1.rel
    have ha1 : ArgsR N σ (upd (upd H dx (.own x)) x (.ins (N.cls c) dx [])) (fun b => W b ∨ b = x) args vs := by
      clear hc hn cc
      induction ha with
      | nil => exact .nil
      | cons r _ ih => exact .cons (r.stp rel s1) ih
    obtain ⟨cr, co, cl⟩ := args_cells rel1 ha1 hc
    have sub : ∀ a, CellOwn cs vs a → Own ρ σ a := fun a ⟨k, p, d, h1, h2⟩ => by
      obtain ⟨i, q, _, h4, h5⟩ := co k p d h1
      exact ⟨i, q, d, h4, h5 _ h2⟩
    have nx : ¬ Own ρ σ x := fun z => by
      obtain ⟨o, e, _⟩ := rel.tr x (rel.own z)
      rw [hx] at e; cases e
    have subx : ∀ a, CellOwn (.own true (.obj c []) :: cs) (.ref x :: vs) a → a = x ∨ CellOwn cs vs a := fun a ⟨k, p, d, h1, h2⟩ => by
      cases k with
      | zero => simp at h2; exact .inl h2.symm
      | succ k => exact .inr ⟨k, p, d, by simpa using h1, by simpa using h2⟩
    refine ⟨fun b => W b ∨ b = x, .own true (.obj c []) :: cs, .cons ⟨x, rfl, .inr rfl, dx, [], upd_same, rfl⟩ cr, n.tr, fun i j p q d e a h1 h2 h3 h4 => ?_, ?_⟩
    · cases i with
      | zero => cases j with
        | zero => rfl
        | succ j =>
          simp at h3
          subst h3
          exact absurd (sub _ ⟨j, q, e, by simpa using h2, by simpa using h4⟩) nx
      | succ i => cases j with
        | zero =>
          simp at h4
          subst h4
          exact absurd (sub _ ⟨i, p, d, by simpa using h1, by simpa using h3⟩) nx
        | succ j => exact congrArg (· + 1) (cells_apart rel1 ha1 hn hc i j p q d e a (by simpa using h1) (by simpa using h2) (by simpa using h3) (by simpa using h4))
    · have c' : Cont N Wx σ ρ H W (KE N H0 Q) (match C f (.own true (.obj c []) :: cs) with
        | .ok .none _ (.own _ o :: outs) => (match giveBack args outs ρ with
          | some ρ' => .ok (o, true) ρ'
          | none => .bad)
        | _ => .bad) := cc
      revert c'
      cases C f (.own true (.obj c []) :: cs) with
      | bad => exact fun c' => c'
      | exc _ _ => exact fun c' => c'.elim
      | ok d fr outs =>
        intro c' v H1 W1 x1 t o vr
        have c2 : Cont N Wx σ ρ H W (KE N H0 Q) (match (CRes.ok d fr outs) with
          | .ok .none _ (.own _ o :: outs) => (match giveBack args outs ρ with
            | some ρ' => .ok (o, true) ρ'
            | none => .bad)
          | _ => .bad) := c'
        cases d with
        | none =>
          cases outs with
          | nil => exact c2.elim
          | cons oc outs =>
            cases oc with
            | own p od =>
              have c3 : Cont N Wx σ ρ H W (KE N H0 Q) (match giveBack args outs ρ with
                | some ρ' => .ok (od, true) ρ'
                | none => .bad) := c2
              cases hg : giveBack args outs ρ with
              | none => rw [hg] at c3; exact c3.elim
              | some ρ' =>
                rw [hg] at c3
                obtain ⟨a, d', g1, g2, w, ow⟩ := o.2 0 true (.obj c []) rfl
                simp at g1 g2
                obtain ⟨rfl, rfl⟩ := g1
                subst g2
                have o2 : OutsR N H1 W1 cs outs vs := ⟨by have := o.1; simpa using this, fun i p d h => by
                  obtain ⟨a, d', e1, e2, e3⟩ := o.2 (i + 1) p d (by simpa using h)
                  exact ⟨a, d', by simpa using e1, by simpa using e2, e3⟩⟩
                refine ⟨?_, ?_⟩
                · cases fr with
                  | false => exact vr
                  | true =>
                    have vr' : ∃ b, v = .ref b ∧ W1 b ∧ OwnR N H1 W1 b D.none ∧ _ = none := vr
                    obtain ⟨_, _, _, z, _⟩ := vr'
                    exact z.elim
                · -- the slots: x is new, the rest as behind a call
                  have y : Ext (fun b => b = x ∨ CellOwn cs vs b) (upd (upd H dx (.own x)) x (.ins (N.cls c) dx [])) (fun b => W b ∨ b = x) H1 W1 := x1.wide subx
                  have xe : Ext (CellOwn cs vs) H W H1 W1 := (n.ext.wide (T1 := CellOwn cs vs) fun _ z => z.elim).trans y (fun b h => rel.own (sub b h)) (fun b h => h.elim (fun z => .inr (z ▸ hx)) .inl) (fun b w => let ⟨o, e, _⟩ := rel.tr b w; ⟨o, e⟩)
                  have stp := call_stp rel ha hn hc hg xe t o2
                  have vr2 : VR N H0 H1 W1 od true (.ref x) := by
                    have : ∃ b, V.ref x = .ref b ∧ W1 b ∧ OwnR N H1 W1 b od ∧ H0 b = none := ⟨x, rfl, w, ow, s0.ext.there x hx⟩
                    exact this
                  exact c3 H1 W1 stp (.ref x) vr2
            | _ => exact c2.elim
        | _ => exact c2.elim
theorem r_new {x : Str} {p pos : Pos} {e : Expr} {es : List Expr} {l : E} {c f k : Nat} {fa : Addr} {dvs : List V} (hK : X.K = N.K) (F : FOk N C X k f fa dvs) (M : Mk N.K (N.cls c) fa) (hr : RoomG (k + 1) X.A) (tk : Takes X Wx) (hg : Gl X x) (hm : X.mg x = some (.ref (N.cls c))) (hdb : (x == ("__debug__" : Str)) = false)
    (hn : (e :: es).all notStar = true) (ha : PA X (e :: es) (TAr N Wx (evA C G l) dvs)) : Rdr N Wx X (.Call (.Name x p) (e :: es) [] pos) (.new c f l) (ev C G (.new c f l)) := by
  obtain ⟨fd, ps, ds, F, hb, hd⟩ := F.fn
  rw [List.all_cons, Bool.and_eq_true] at hn
  have M' : Mk X.K (N.cls c) fa := by rw [hK]; exact M
  have main : PE X (.Call (.Name x p) (e :: es) [] pos) (tMakeSD (N.cls c) (spC N C f) dvs (fun σ cls d H => Wx cls d σ H) (TAr N Wx (evA C G l) dvs)) := by
    refine ⟨fun pins s σ H Q I h => ?_⟩
    refine wpAny_Call_Name_kw (ld_glob I hg hm ?_ hdb)
    refine PySem.W.callWith_K (h₀ := X.base) I.ok.mod.kin M'.kp (thn (ha.run pos pins s σ H _ I h) fun us s1 ⟨vs, H1, I1, r, q⟩ => ⟨I1.kIn, ?_⟩) (star_cons hn.1 es _) (star_any hn.2)
    exact run_makeSD (E := fun σ cls d H => Wx cls d σ H) M' F hr hb hd (passAt tk σ) I1 r q
  refine r_of (peImp main fun σ H Q hq => ?_) fun _ e => nomatch e
  obtain ⟨W, ρ, rel, cc⟩ := hq
  have c' : Cont N Wx σ ρ H W (KE N H Q) ((evA C G l ρ).bind fun args ρ => doNew C c f args ρ) := cc
  refine ⟨W, ρ, rel, (c'.bind rel).mono fun args ρ1 H1 W1 s ⟨_, c1⟩ vs hvs x dx hx hdx hne => ?_⟩
  exact new_ok C s hvs c1 hx hdx hne
end
end PX

end

section
set_option Elab.async false
set_option linter.all false
set_option autoImplicit false
set_option maxRecDepth 100000
namespace PX
open PySem PySem.Spec PyProof.Rows L2
section
variable {N : Nm} {Wx : WX} {X : Cx} {σ σ1 σ2 : L2.St} {ρ ρ1 ρ2 : Ev} {H H0 H1 H2 : Hp} {W W1 W2 T T1 : Addr → Prop}
variable (C : Call) (G : Nat → D)
/-- a def's frame, H0 at its entry -/
structure Fr (N : Nm) (H0 H : Hp) (W : Addr → Prop) (σ : L2.St) (ρ : Ev) : Prop where
  rel : RelS N H W σ ρ
  young : ∀ (i : Nat) (d : D) (a : Addr), ρ[i]? = some (Cell.own false d) → σ[i]? = some (some (V.ref a)) → H0 a = none
  old : ∀ b, H b = none → H0 b = none
theorem Fr.sst (f : Fr N H0 H W σ ρ) (s : Sst N σ ρ H W σ1 ρ1 H1 W1) : Fr N H0 H1 W1 σ1 ρ1 := by
  refine ⟨s.rel, fun i d a h1 h2 => ?_, fun b h => f.old b (s.ext.there b h)⟩
  rcases s.sub a ⟨i, false, d, h1, h2⟩ with ⟨j, p, e, h3, h4⟩ | z
  · cases p with
    | false => exact f.young j e a h3 h4
    | true =>
      obtain ⟨e', h5, h6⟩ := s.par j e h3
      have := s.rel.apart i j _ _ _ _ a h1 h5 h2 (h6.trans h4)
      subst this
      rw [h1] at h5
      cases h5
  · exact f.old a z
section
variable (N : Nm) (Wx : WX) (σ : L2.St)
def ContS {α : Type} (ρ : Ev) (H : Hp) (W : Addr → Prop) (K : α → Ev → L2.St → Hp → (Addr → Prop) → Prop) : Res α → Prop
  | .ok a ρ1 => ∀ σ1 H1 W1, Sst N σ ρ H W σ1 ρ1 H1 W1 → K a ρ1 σ1 H1 W1
  | .exc c fs => ∀ x H1 W1, Ext (Own ρ σ) H W H1 W1 → ExcR N H1 W1 c fs x → ∀ σ1, Wx (.ref (N.exc c)) (some x) σ1 H1
  | .bad => False
end
variable {α β : Type}
theorem Sst.ext2 (rel : RelS N H W σ ρ) (s : Sst N σ ρ H W σ1 ρ1 H1 W1) (e : Ext (Own ρ1 σ1) H1 W1 H2 W2) : Ext (Own ρ σ) H W H2 W2 :=
  s.ext.trans e (fun _ h => rel.own h) s.sub fun x w => let ⟨o, e, _⟩ := rel.tr x w; ⟨o, e⟩
theorem ContS.bind (rel : RelS N H W σ ρ) {K : β → Ev → L2.St → Hp → (Addr → Prop) → Prop} {f : α → Ev → Res β} : ∀ {r : Res α}, ContS N Wx σ ρ H W K (r.bind f) →
    ContS N Wx σ ρ H W (fun a ρ1 σ1 H1 W1 => Sst N σ ρ H W σ1 ρ1 H1 W1 ∧ ContS N Wx σ1 ρ1 H1 W1 K (f a ρ1)) r
  | .bad, h => h
  | .exc c fs, h => h
  | .ok a ρ1, h => fun σ1 H1 W1 s => by
    refine ⟨s, ?_⟩
    have h' : ContS N Wx σ ρ H W K (f a ρ1) := h
    revert h'
    cases f a ρ1 with
    | ok b ρ2 => exact fun h' σ2 H2 W2 s2 => h' σ2 H2 W2 (s.trans rel s2)
    | exc c fs => exact fun h' x H2 W2 e r => h' x H2 W2 (s.ext2 rel e) r
    | bad => exact fun h' => h'
theorem ContS.mono {K K' : α → Ev → L2.St → Hp → (Addr → Prop) → Prop} : ∀ {r : Res α}, ContS N Wx σ ρ H W K r → (∀ a ρ1 σ1 H1 W1, Sst N σ ρ H W σ1 ρ1 H1 W1 → K a ρ1 σ1 H1 W1 → K' a ρ1 σ1 H1 W1) → ContS N Wx σ ρ H W K' r
  | .bad, h, _ => h
  | .exc c fs, h, _ => h
  | .ok a ρ1, h, m => fun σ1 H1 W1 s => m a ρ1 σ1 H1 W1 s (h σ1 H1 W1 s)
theorem ContS.here {K : α → Ev → L2.St → Hp → (Addr → Prop) → Prop} (rel : RelS N H W σ ρ) {a : α} (h : ContS N Wx σ ρ H W K (.ok a ρ)) : K a ρ σ H W := h σ H W (.refl rel)
/-- an expression first -/
theorem ContS.ofE (rel : RelS N H W σ ρ) {K : β → Ev → L2.St → Hp → (Addr → Prop) → Prop} {f : α → Ev → Res β} : ∀ {r : Res α}, ContS N Wx σ ρ H W K (r.bind f) → Cont N Wx σ ρ H W (fun a ρ1 H1 W1 => ContS N Wx σ ρ1 H1 W1 K (f a ρ1)) r
  | .bad, h => h
  | .exc c fs, h => fun x H1 W1 e r => h x H1 W1 e r σ
  | .ok a ρ1, h => fun H1 W1 s => (ContS.bind rel (r := .ok a ρ1) h σ H1 W1 s.sst).2
theorem ContS.ofO {K : β → Ev → L2.St → Hp → (Addr → Prop) → Prop} {o : Option α} {f : α → Ev → Res β} (h : ContS N Wx σ ρ H W K ((PX.ofO o ρ).bind f)) : ∃ a, o = some a ∧ ContS N Wx σ ρ H W K (f a ρ) := by
  cases o with
  | none => exact h.elim
  | some a => exact ⟨a, rfl, h⟩
/-- an expression's value, given away, then more -/
theorem TEv.keepS (rel : RelS N H W σ ρ) {r : Ev → Res (D × Bool)} {F : D → Ev → Res β} {K : β → Ev → L2.St → Hp → (Addr → Prop) → Prop} {Q : VK} (c : ContS N Wx σ ρ H W K ((r ρ).bind fun p ρ => F p.1 ρ))
    (k : ∀ d ρ1 H1 W1 v, Stp N σ ρ H W ρ1 H1 W1 → Rep N H1 W1 d v → ContS N Wx σ ρ1 H1 W1 K (F d ρ1) → Q v H1) : TEv N Wx r σ H Q := by
  rw [bind_fst] at c
  have c1 := ContS.ofE rel c
  refine ⟨W, ρ, rel, (Cont.kp rel c1).mono fun p ρ1 H1 W1 s z v hv => ?_⟩
  obtain ⟨W2, s2, rp, c2⟩ := z v hv
  exact k _ ρ1 H1 W2 v s2 rp c2
/-- a statement's wish -/
def KD (N : Nm) (H0 : Hp) (D : Ends) : Fl → Ev → L2.St → Hp → (Addr → Prop) → Prop := fun f _ σ1 H1 W1 => match f with
  | .nx => D.nx σ1 H1
  | .bk => D.bk σ1 H1
  | .ct => D.ct σ1 H1
  | .ret d fr => ∀ v, VR N H0 H1 W1 d fr v → D.rt v H1
variable (N Wx) in
def TSt (H0 : Hp) (r : Ev → Res Fl) : TS := fun D σ H => ∃ W ρ, Fr N H0 H W σ ρ ∧ ContS N Wx σ ρ H W (KD N H0 D) (r ρ)
theorem psImp {s : Stmt} {t t' : TS} (h : PS X s t) (i : ∀ D σ H, t' D σ H → t D σ H) : PS X s t' := ⟨fun pins st σ H D I hw => h.run pins st σ H D I (i D σ H hw)⟩
theorem pssImp {s : List Stmt} {t t' : TS} (h : PSs X s t) (i : ∀ D σ H, t' D σ H → t D σ H) : PSs X s t' := ⟨fun pins st σ H D I hw => h.run pins st σ H D I (i D σ H hw)⟩
theorem VR.young (f : Fr N H0 H W σ ρ) {d : D} {fr : Bool} {v : V} (h : VR N H H1 W1 d fr v) : VR N H0 H1 W1 d fr v := by
  cases fr with
  | false => exact h
  | true =>
    have h' : ∃ a, v = .ref a ∧ W1 a ∧ OwnR N H1 W1 a d ∧ H a = none := h
    obtain ⟨a, e, w, o, n⟩ := h'
    have : ∃ a, v = .ref a ∧ W1 a ∧ OwnR N H1 W1 a d ∧ H0 a = none := ⟨a, e, w, o, f.old a n⟩
    exact this
/-! ### plain statements -/
theorem s_nil : PSs X [] (TSt N Wx H0 (evS C G .skip)) := by
  refine pssImp pss_nil fun D σ H hq => ?_
  obtain ⟨W, ρ, fr, c⟩ := hq
  have c' : ContS N Wx σ ρ H W (KD N H0 D) (.ok .nx ρ) := c
  exact c'.here fr.rel
theorem s_cons {st : Stmt} {sts : List Stmt} {a b : S} (ha : PS X st (TSt N Wx H0 (evS C G a))) (hb : PSs X sts (TSt N Wx H0 (evS C G b))) : PSs X (st :: sts) (TSt N Wx H0 (evS C G (.seq a b))) := by
  refine pssImp (pss_cons ha hb) fun D σ H hq => ?_
  obtain ⟨W, ρ, fr, c⟩ := hq
  have c' : ContS N Wx σ ρ H W (KD N H0 D) ((evS C G a ρ).bind fun r ρ => match r with
    | .nx => evS C G b ρ
    | .bk => .ok .bk ρ
    | .ct => .ok .ct ρ
    | .ret d fr => .ok (.ret d fr) ρ) := c
  refine ⟨W, ρ, fr, (c'.bind fr.rel).mono fun f ρ1 σ1 H1 W1 s ⟨_, c1⟩ => ?_⟩
  cases f with
  | nx => exact ⟨W1, ρ1, fr.sst s, c1⟩
  | bk => exact c1.here s.rel
  | ct => exact c1.here s.rel
  | ret d fr => exact c1.here s.rel
theorem s_one {st : Stmt} {a : S} (ha : PS X st (TSt N Wx H0 (evS C G a))) : PSs X [st] (TSt N Wx H0 (evS C G a)) := pss_one ha
theorem s_doc {x : Str} {j : Nat} {p p' : Pos} : PS X (.Expr (.Constant (.str x) j p) p') (TSt N Wx H0 (evS C G .skip)) := by
  refine psImp ps_doc fun D σ H hq => ?_
  obtain ⟨W, ρ, fr, c⟩ := hq
  have c' : ContS N Wx σ ρ H W (KD N H0 D) (.ok .nx ρ) := c
  exact c'.here fr.rel
theorem s_pass {p : Pos} : PS X (.Pass p) (TSt N Wx H0 (evS C G .skip)) := by
  refine psImp ps_pass fun D σ H hq => ?_
  obtain ⟨W, ρ, fr, c⟩ := hq
  have c' : ContS N Wx σ ρ H W (KD N H0 D) (.ok .nx ρ) := c
  exact c'.here fr.rel
theorem s_brk {p : Pos} : PS X (.Break p) (TSt N Wx H0 (evS C G .brk)) := by
  refine psImp ps_break fun D σ H hq => ?_
  obtain ⟨W, ρ, fr, c⟩ := hq
  have c' : ContS N Wx σ ρ H W (KD N H0 D) (.ok .bk ρ) := c
  exact c'.here fr.rel
theorem s_cont {p : Pos} : PS X (.Continue p) (TSt N Wx H0 (evS C G .cont)) := by
  refine psImp ps_continue fun D σ H hq => ?_
  obtain ⟨W, ρ, fr, c⟩ := hq
  have c' : ContS N Wx σ ρ H W (KD N H0 D) (.ok .ct ρ) := c
  exact c'.here fr.rel
/-- no comprehension -/
def notComp : Expr → Bool
  | .ListComp .. => false
  | .SetComp .. => false
  | .DictComp .. => false
  | _ => true
theorem swaps_no {e : Expr} {t : Option Expr} {l : Nat} {env : Env} (h : notComp e = true) : swapsWith e t l env = pure false := by
  cases e <;> first | rfl | cases h
theorem s_expr {e : Expr} {a : E} {p : Pos} (hn : notComp e = true) (ha : Rdr N Wx X e a (ev C G a)) : PS X (.Expr e p) (TSt N Wx H0 (evS C G (.expr a))) := by
  refine psImp (ps_expr ha.ev (swaps_no hn)) fun D σ H hq => ?_
  obtain ⟨W, ρ, fr, c⟩ := hq
  have c' : ContS N Wx σ ρ H W (KD N H0 D) ((ev C G a ρ).bind fun p ρ => (.ok .nx ρ : Res Fl)) := c
  refine TEv.keepS (F := fun _ ρ => (.ok .nx ρ : Res Fl)) fr.rel c' fun d ρ1 H1 W1 v s _ c1 => ?_
  exact c1.here s.rel
theorem s_ite {t : Expr} {sa sb : List Stmt} {c : E} {a b : S} {p : Pos} (hc : PT X t (TTt N Wx (evT C G c))) (ha : PSs X sa (TSt N Wx H0 (evS C G a))) (hb : PSs X sb (TSt N Wx H0 (evS C G b))) : PS X (.If t sa sb p) (TSt N Wx H0 (evS C G (.ite c a b))) := by
  refine psImp (ps_if hc ha hb) fun D σ H hq => ?_
  obtain ⟨W, ρ, fr, cc⟩ := hq
  have c' : ContS N Wx σ ρ H W (KD N H0 D) ((evT C G c ρ).bind fun t ρ => if t then evS C G a ρ else evS C G b ρ) := cc
  refine ⟨W, ρ, fr.rel, Cont.monoE (ContS.ofE fr.rel c') fun t ρ1 H1 W1 _ s c1 => ?_⟩
  cases t with
  | true => exact ⟨W1, ρ1, fr.sst s.sst, c1⟩
  | false => exact ⟨W1, ρ1, fr.sst s.sst, c1⟩
/-! ### return -/
theorem s_ret {e : Expr} {a : E} {p : Pos} (ha : Rdr N Wx X e a (ev C G a)) : PS X (.Return (some e) p) (TSt N Wx H0 (evS C G (.ret a))) := by
  rcases var_or a with ⟨i, rfl⟩ | hv
  · refine psImp (ps_ret (ha.var i rfl)) fun D σ H hq => ?_
    obtain ⟨W, ρ, fr, c⟩ := hq
    have c' : ContS N Wx σ ρ H W (KD N H0 D) (match ρ[i]? with
      | some (.val d) => .ok (.ret d false) ρ
      | some (.own false d) => .ok (.ret d true) ρ
      | _ => .bad) := c
    cases q : ρ[i]? with
    | none => rw [q] at c'; exact c'.elim
    | some z =>
      rw [q] at c'
      have s := fr.rel.slot i z q
      cases z with
      | unset => exact c'.elim
      | val d => exact let ⟨v, e1, r⟩ := s; ⟨v, e1, ContS.here (N := N) (Wx := Wx) (a := Fl.ret d false) fr.rel c' v r⟩
      | own p d => cases p with
        | true => exact c'.elim
        | false =>
          obtain ⟨b, e1, w, o⟩ := s
          have c2 : ContS N Wx σ ρ H W (KD N H0 D) (.ok (.ret d true) ρ) := c'
          have vr : VR N H0 H W d true (.ref b) := by
            have : ∃ a, V.ref b = .ref a ∧ W a ∧ OwnR N H W a d ∧ H0 a = none := ⟨b, rfl, w, o, fr.young i d b q e1⟩
            exact this
          exact ⟨_, e1, ContS.here (N := N) (Wx := Wx) (a := Fl.ret d true) fr.rel c2 (.ref b) vr⟩
  · refine psImp (ps_ret ha.ev) fun D σ H hq => ?_
    obtain ⟨W, ρ, fr, c⟩ := hq
    have c' : ContS N Wx σ ρ H W (KD N H0 D) ((ev C G a ρ).bind fun p ρ => .ok (.ret p.1 p.2) ρ) := by
      cases a <;> first | exact c | exact absurd rfl (hv _)
    refine ⟨W, ρ, fr.rel, Cont.monoE (ContS.ofE fr.rel c') fun q ρ1 H1 W1 _ s c1 v hvr => ?_⟩
    exact ContS.here (N := N) (Wx := Wx) (a := Fl.ret q.1 q.2) s.rel c1 v (hvr.young fr)
theorem s_retN {p : Pos} : PS X (.Return none p) (TSt N Wx H0 (evS C G (.ret .none))) := by
  refine psImp ps_retN fun D σ H hq => ?_
  obtain ⟨W, ρ, fr, c⟩ := hq
  have c' : ContS N Wx σ ρ H W (KD N H0 D) (.ok (.ret .none false) ρ) := c
  exact ContS.here (N := N) (Wx := Wx) (a := Fl.ret .none false) fr.rel c' .non rfl
end
end PX

end

section
set_option Elab.async false
set_option linter.all false
set_option autoImplicit false
set_option maxRecDepth 100000
namespace PX
open PySem PySem.Spec PyProof.Rows L2
section
variable {N : Nm} {Wx : WX} {X : Cx} {σ σ1 σ2 : L2.St} {ρ ρ1 ρ2 : Ev} {H H0 H1 H2 : Hp} {W W1 W2 T T1 : Addr → Prop}
variable (C : Call) (G : Nat → D)
/-- an expression first, what comes told from the start -/
theorem ContS.ofE' {α β : Type} {K : β → Ev → L2.St → Hp → (Addr → Prop) → Prop} {f : α → Ev → Res β} : ∀ {r : Res α}, ContS N Wx σ ρ H W K (r.bind f) → Cont N Wx σ ρ H W (fun a ρ1 _ _ => ContS N Wx σ ρ H W K (f a ρ1)) r
  | .bad, h => h
  | .exc c fs, h => fun x H1 W1 e r => h x H1 W1 e r σ
  | .ok a ρ1, h => fun H1 W1 s => h
/-- a stored value -/
def asgR (o : Bool) (t : Tg) (d : D) (fr : Bool) (ρ : Ev) : Res Fl := match t, o && fr with
  | .name i, true => (put i (.own false d) ρ).bind fun _ ρ => .ok .nx ρ
  | t, _ => (bindT t d ρ).bind fun _ ρ => .ok .nx ρ
theorem ev_asg {o : Bool} {t : Tg} {a : E} (ρ : Ev) : evS C G (.asg o t a) ρ = (ev C G a ρ).bind fun p ρ => asgR o t p.1 p.2 ρ := rfl
/-- what an assignment wants of its target -/
def TAg (N : Nm) (Wx : WX) (H0 : Hp) (o : Bool) (t : Tg) (D : Ends) (σ : L2.St) (H : Hp) : V → Hp → Prop := fun v H1 => ∃ W W1 ρ ρ1 d fr, Fr N H0 H W σ ρ ∧ Stp N σ ρ H W ρ1 H1 W1 ∧ VR N H H1 W1 d fr v ∧ ContS N Wx σ ρ H W (KD N H0 D) (asgR o t d fr ρ1)
theorem asg_imp {o : Bool} {t : Tg} {a : E} {D : Ends} {σ : L2.St} {H : Hp} (hq : TSt N Wx H0 (evS C G (.asg o t a)) D σ H) : TEv N Wx (ev C G a) σ H (TAg N Wx H0 o t D σ H) := by
  obtain ⟨W, ρ, fr, c⟩ := hq
  rw [ev_asg] at c
  exact ⟨W, ρ, fr.rel, Cont.monoE (ContS.ofE' c) fun p ρ1 H1 W1 _ s c1 v hv => ⟨W, W1, ρ, ρ1, p.1, p.2, fr, s, hv, c1⟩⟩
theorem bindT_ok {t : Tg} {d : D} {α : Type} {F : Unit → Ev → Res α} {K : α → Ev → L2.St → Hp → (Addr → Prop) → Prop} (c : ContS N Wx σ ρ H W K ((bindT t d ρ2).bind F)) : ∃ ρ1, bindT t d ρ2 = .ok () ρ1 ∧ ContS N Wx σ ρ H W K (F () ρ1) := by
  have noexc : ∀ (cc : Nat) (fs : List (Nat × D)) (l : List Nat) (ds : List D) (ρ : Ev), putAll l ds ρ ≠ .exc cc fs := fun cc fs l => by
    induction l with
    | nil => intro ds ρ h; cases ds <;> cases h
    | cons i l ih =>
      intro ds ρ h
      cases ds with
      | nil => cases h
      | cons d ds =>
        have h' : ((put i (.val d) ρ).bind fun _ ρ => putAll l ds ρ) = .exc cc fs := h
        unfold put at h'
        split at h'
        · cases h'
        · exact ih ds _ h'
        · cases h'
  cases hb : bindT t d ρ2 with
  | ok u ρ3 =>
    rw [hb] at c
    exact ⟨ρ3, rfl, c⟩
  | bad => rw [hb] at c; exact c.elim
  | exc cc fs =>
    cases t with
    | name i =>
      have : put i (.val d) ρ2 = .exc cc fs := hb
      unfold put at this
      split at this <;> cases this
    | tup l =>
      cases d with
      | tup ds => exact absurd (show putAll l ds ρ2 = .exc cc fs from hb) (noexc cc fs l ds ρ2)
      | _ => cases hb
/-- the kept way -/
theorem ag_kept {t : Tg} {D : Ends} {v : V} {W : Addr → Prop} {d : PX.D} {fr : Bool} (f : Fr N H0 H W σ ρ) (s : Stp N σ ρ H W ρ1 H1 W1) (vr : VR N H H1 W1 d fr v) (c : ContS N Wx σ ρ H W (KD N H0 D) ((bindT t d ρ1).bind fun _ ρ => .ok .nx ρ)) : TGt N t v σ H1 D.nx := by
  obtain ⟨W2, s2, rp⟩ := s.freeze f.rel vr
  obtain ⟨ρ2, hb, k⟩ := bindT_ok c
  exact ⟨W2, ρ1, d, ρ2, s2.rel, rp, hb, fun σ1 s1 _ => k σ1 H1 W2 (s2.sst.trans f.rel s1)⟩
theorem ag_name {o : Bool} {i : Nat} {D : Ends} {v : V} (h : TAg N Wx H0 o (.name i) D σ H v H1) : D.nx (σ.set i (some v)) H1 := by
  obtain ⟨W, W1, ρ, ρ1, d, fr, f, s, vr, c⟩ := h
  by_cases ho : (o && fr) = true
  · have hfr : fr = true := by rw [Bool.and_eq_true] at ho; exact ho.2
    subst hfr
    have e : asgR o (.name i) d true ρ1 = (put i (.own false d) ρ1).bind fun _ ρ => .ok .nx ρ := by unfold asgR; rw [ho]
    rw [e] at c
    cases hp : put i (.own false d) ρ1 with
    | ok u ρ2 =>
      rw [hp] at c
      have c2 : ContS N Wx σ ρ H W (KD N H0 D) (.ok .nx ρ2) := c
      have vr' : ∃ a, v = .ref a ∧ W1 a ∧ OwnR N H1 W1 a d ∧ H a = none := vr
      obtain ⟨a, rfl, w, ow, hn⟩ := vr'
      have nown : ¬ Own ρ1 σ a := fun z => f.rel.free hn (f.rel.own (s.sub a z))
      obtain ⟨r1, r2, r3⟩ := s.rel.putO hp w ow nown
      refine c2 _ H1 W1 ⟨r1, s.ext, fun b hb => ?_, fun j d' hj => ?_, fun j hj => ?_, List.length_set⟩
      · rcases r2 b hb with z | rfl
        · exact .inl (s.sub b z)
        · exact .inr hn
      · obtain ⟨d2, h2⟩ := s.par j d' hj
        obtain ⟨h3, h4⟩ := r3 j d2 h2
        exact ⟨d2, h3, h4⟩
      · obtain ⟨_, rfl, _⟩ := put_ok hp
        rcases set_get hj with ⟨_, e⟩ | ⟨n1, h1⟩
        · cases e
        · exact ⟨s.uns j h1, List.getElem?_set_ne (Ne.symm n1)⟩
    | exc cc fs => unfold put at hp; split at hp <;> cases hp
    | bad => rw [hp] at c; exact c.elim
  · have e : asgR o (.name i) d fr ρ1 = (bindT (.name i) d ρ1).bind fun _ ρ => .ok .nx ρ := by
      unfold asgR
      cases hb : (o && fr) with
      | true => exact absurd hb ho
      | false => rfl
    rw [e] at c
    obtain ⟨W2, ρ1', d', ρ2, rel, rp, hb, k⟩ := ag_kept f s vr c
    exact k _ (rel.put hb rp) fun vs hv => lwipe_set (hv i (List.mem_singleton.mpr rfl))
theorem ag_tup {o : Bool} {l : List Nat} {D : Ends} {v : V} (h : TAg N Wx H0 o (.tup l) D σ H v H1) : TGt N (.tup l) v σ H1 D.nx := by
  obtain ⟨W, W1, ρ, ρ1, d, fr, f, s, vr, c⟩ := h
  exact ag_kept f s vr c
/-- no tuple at once on both sides -/
def swapOk (t e : Expr) : Bool := match t, e with
  | .Name .., _ => true
  | .Tuple .., .Tuple .. => false
  | .Tuple .., _ => true
  | _, _ => false
theorem swapped_none {t e : Expr} {env : Env} (h : swapOk t e = true) : swappedStores [t] e env = pure none := by
  cases t <;> first
    | rfl
    | (cases h; done)
    | (cases e <;> first | rfl | (cases h; done))
/-- no name -/
def notName : Expr → Bool
  | .Name .. => false
  | _ => true
theorem swaps_t {t e : Expr} {l : Nat} {env : Env} (h : notName t = true) : swapsWith e (some t) l env = pure false := by
  cases e <;> first | rfl | (cases t <;> first | rfl | cases h)
theorem sole_t {t e : Expr} {l : Nat} {env : Env} (h : notName t = true) : swapsWithSole [t] e l env = pure false := by
  unfold swapsWithSole
  exact swaps_t h
theorem sole_no {t e : Expr} {l : Nat} {env : Env} (h : notComp e = true) : swapsWithSole [t] e l env = pure false := by
  unfold swapsWithSole
  exact swaps_no h
theorem s_asgN {x : Str} {p' p : Pos} {i : Nat} {e : Expr} {a : E} {o : Bool} (hN : X.N.Nodup) (hi : X.N[i]? = some x) (hx : Loc X.env.scope x) (hf : X.fn x = true ∨ X.env.scope.names.lookup x = some .local) (hn : swapsWith e (some (.Name x p')) p.line X.env = pure false) (ha : Rdr N Wx X e a (ev C G a)) :
    PS X (.Assign [.Name x p'] e p) (TSt N Wx H0 (evS C G (.asg o (.name i) a))) := by
  refine psImp (ps_set hN hi hx ha.ev hn hf) fun D σ H hq => ?_
  obtain ⟨W, ρ, rel, c⟩ := asg_imp C G hq
  exact ⟨W, ρ, rel, c.mono fun p ρ1 H1 W1 _ k v hv => ag_name (k v hv)⟩
theorem s_asgT {es : List Expr} {l : List Nat} {k : Nat} {p' p : Pos} {e : Expr} {a : E} {o : Bool} (hK : X.K = N.K) (hc : X.calm = true) (hN : X.N.Nodup) (h : NmEs X es l) (hs : swapOk (.Tuple es k p') e = true) (ha : Rdr N Wx X e a (ev C G a)) :
    PS X (.Assign [.Tuple es k p'] e p) (TSt N Wx H0 (evS C G (.asg o (.tup l) a))) := by
  refine psImp (ps_asg ha.ev (g_tup (N := N) hK hc hN h) (sole_t rfl) (swapped_none hs)) fun D σ H hq => ?_
  obtain ⟨W, ρ, rel, c⟩ := asg_imp C G hq
  exact ⟨W, ρ, rel, c.mono fun p ρ1 H1 W1 _ k v hv => ag_tup (k v hv)⟩
/-- name = [.. for ..] -/
theorem s_setLc {st : Stmt} {e it c : E} {t : Tg} {vs : List Nat} {i : Nat} {o : Bool} (ht : ∀ i ∈ tgSlots t, i ∈ vs)
    (h : PS X st (tAsg (tLc (TIt N Wx (evI C G it)) (TGt N t) (TTt N WF (evC C G c)) (TEv N WF (ev C G e)) vs) (gName i))) : PS X st (TSt N Wx H0 (evS C G (.asg o (.name i) (.comp e t it c vs)))) := by
  refine psImp h fun D σ H hq => ?_
  refine lc_imp C G ht ?_
  obtain ⟨W, ρ, rel, c⟩ := asg_imp C G hq
  exact ⟨W, ρ, rel, c.mono fun p ρ1 H1 W1 _ k v hv => ag_name (k v hv)⟩
/-! ### l[k] = v, o.f = v -/
theorem asg_sub {eo ei : Expr} {p : Pos} {env : Env} (h : (match ei with | .Slice .. => false | _ => true) = true) (v : Value) : assign (.Subscript eo ei p) env v = (do
      let ov ← holding [v] (eval eo env)
      let iv ← holding [v, ov] (eval ei env)
      standAt p
      holding [v, ov, iv] (setItem ov iv v)
      release [v, ov, iv] []) := by
  cases ei <;> first | rfl | cases h
end
end PX

end

section
set_option Elab.async false
set_option linter.all false
set_option autoImplicit false
set_option maxRecDepth 100000
namespace PX
open PySem PySem.Spec PyProof.Rows L2
section
variable {N : Nm} {Wx : WX} {X : Cx} {σ σ1 σ2 : L2.St} {ρ ρ1 ρ2 : Ev} {H H0 H1 H2 : Hp} {W W1 W2 T T1 : Addr → Prop}
variable (C : Call) (G : Nat → D)
def notSlice : Expr → Bool
  | .Slice .. => false
  | _ => true
theorem asg_sub' {eo ei : Expr} {p : Pos} {env : Env} (h : notSlice ei = true) (v : Value) : assign (.Subscript eo ei p) env v = (do
      let ov ← holding [v] (eval eo env)
      let iv ← holding [v, ov] (eval ei env)
      standAt p
      holding [v, ov, iv] (setItem ov iv v)
      release [v, ov, iv] []) := by
  cases ei <;> first | rfl | cases h
theorem s_setI {eo ei e : Expr} {i : Nat} {k a : E} {p' p : Pos} (hsl : notSlice ei = true) (ho : PE X eo (tVar i)) (hk : Rdr N Wx X ei k (ev C G k)) (ha : Rdr N Wx X e a (ev C G a)) :
    PS X (.Assign [.Subscript eo ei p'] e p) (TSt N Wx H0 (evS C G (.setI i k a))) := by
  refine psImp (ps_asg ha.ev (pg_sub ho hk.rd set_list (asg_sub' hsl)) (sole_t rfl) rfl) fun D σ H hq => ?_
  obtain ⟨W, ρ, fr, c⟩ := hq
  have c' : ContS N Wx σ ρ H W (KD N H0 D) ((ev C G a ρ).bind fun x ρ => (PX.rd i ρ).bind fun _ ρ => (rdOr k (ev C G k) ρ).bind fun y ρ => match ρ[i]? with
    | some (.own p d) => (ofO (putI d y x.1) ρ).bind fun d' ρ => .ok .nx (ρ.set i (.own p d'))
    | _ => .bad) := c
  refine TEv.keepS (F := fun x ρ => (PX.rd i ρ).bind fun _ ρ => (rdOr k (ev C G k) ρ).bind fun y ρ => match ρ[i]? with
    | some (.own p d) => (ofO (putI d y x) ρ).bind fun d' ρ => (.ok .nx (ρ.set i (.own p d')) : Res Fl)
    | _ => .bad) fr.rel c' fun x ρ1 H1 W1 v s rp c1 => ?_
  have fr1 := fr.sst s.sst
  rcases rd_cases i ρ1 with ⟨d0, e1⟩ | e1
  case inr => rw [e1] at c1; exact c1.elim
  rw [e1] at c1
  obtain ⟨_, u, eu, _⟩ := s.rel.rd e1
  have c2 : ContS N Wx σ ρ1 H1 W1 (KD N H0 D) ((rdOr k (ev C G k) ρ1).bind fun y ρ => match ρ[i]? with
    | some (.own p d) => (ofO (putI d y x) ρ).bind fun d' ρ => (.ok .nx (ρ.set i (.own p d')) : Res Fl)
    | _ => .bad) := c1
  refine ⟨u, eu, W1, ρ1, s.rel, Cont.monoE (ContS.ofE s.rel c2) fun y ρ2 H2 W2 _ s2 c3 z hz => ?_⟩
  cases q : ρ2[i]? with
  | none => rw [q] at c3; exact c3.elim
  | some cl =>
    rw [q] at c3
    cases cl with
    | own p d =>
      have c4 : ContS N Wx σ ρ2 H2 W2 (KD N H0 D) ((ofO (putI d y x) ρ2).bind fun d' ρ => (.ok .nx (ρ.set i (.own p d')) : Res Fl)) := c3
      obtain ⟨d', hd', c5⟩ := c4.ofO
      obtain ⟨b, eb, w, ow⟩ := s2.rel.slot i _ q
      rw [eu] at eb
      cases eb
      cases d with
      | lst l => cases y with
        | int m =>
          obtain ⟨xs, hxs, r⟩ := ow
          have hz' : z = .int m := hz
          subst hz'
          cases hp : place l.length m with
          | none => rw [show putI (.lst l) (.int m) x = none by simp only [putI, hp] <;> rfl] at hd'; cases hd'
          | some j =>
            rw [show putI (.lst l) (.int m) x = some (.lst (l.set j x)) by simp only [putI, hp] <;> rfl] at hd'
            cases hd'
            refine ⟨b, xs, m, j, rfl, rfl, hxs, by rw [← r.length]; exact hp, ?_⟩
            have rp2 := s2.rep s.rel rp
            have T : Ext (fun a => a = b) H2 W2 (upd H2 b (.lst (xs.set j v))) W2 := Ext.write hxs trivial rfl
            have st := s2.rel.write (o := .lst (xs.set j v)) (d' := .lst (l.set j x)) q eu trivial ⟨_, upd_same, Reps.set (T.rep (fun a z => z ▸ w) rp2) j (T.reps (fun a z => z ▸ w) r)⟩
            exact c5 σ _ _ st.sst
        | _ => cases hd'
      | _ => cases hd'
    | _ => exact c3.elim
/-! ### o.f = v -/
theorem repsF_put {nf : Nat} (ok : NmOk N nf) {f : Nat} {d : D} {v : V} (rp : Rep N H W d v) : ∀ {fs : List (Nat × D)} {gs : List (Str × V)}, RepsF N H W fs gs → RepsF N H W (PX.putF f d fs) (L2.putF (N.fld f) v gs)
  | [], gs, h => by
    rw [show gs = [] from h]
    exact ⟨v, [], rfl, rp, rfl⟩
  | (g, e) :: fs, _, ⟨x, r, rfl, rx, rs⟩ => by
    by_cases q : g = f
    · subst q
      have e1 : PX.putF g d ((g, e) :: fs) = (g, d) :: fs := if_pos rfl
      have e2 : L2.putF (N.fld g) v ((N.fld g, x) :: r) = (N.fld g, v) :: r := by unfold L2.putF; simp
      rw [e1, e2]
      exact ⟨v, r, rfl, rp, rs⟩
    · have e1 : PX.putF f d ((g, e) :: fs) = (g, e) :: PX.putF f d fs := if_neg q
      have ne : ¬ N.fld g = N.fld f := fun z => q (ok.inj _ _ z)
      have e2 : L2.putF (N.fld f) v ((N.fld g, x) :: r) = (N.fld g, x) :: L2.putF (N.fld f) v r := by
        conv => lhs; unfold L2.putF
        simp [ne]
      rw [e1, e2]
      exact ⟨x, _, rfl, rx, repsF_put ok rp rs⟩
theorem repsF_len : ∀ {fs : List (Nat × D)} {gs : List (Str × V)}, RepsF N H W fs gs → fs.length = gs.length
  | [], gs, h => by rw [show gs = [] from h] <;> rfl
  | (_, _) :: fs, _, ⟨x, r, rfl, _, rs⟩ => congrArg (· + 1) (repsF_len rs)
theorem s_setA {nf : Nat} (ok : NmOk N nf) (hK : X.K = N.K) {eo e : Expr} {i f : Nat} {a : E} {p' p : Pos} (hf : f < nf) (ho : PE X eo (tVar i)) (ha : Rdr N Wx X e a (ev C G a)) :
    PS X (.Assign [.Attribute eo (N.fld f) p'] e p) (TSt N Wx H0 (evS C G (.setA i f a))) := by
  refine psImp (ps_fld ho ha.ev (swaps_t rfl)) fun D σ H hq => ?_
  obtain ⟨W, ρ, fr, c⟩ := hq
  have c' : ContS N Wx σ ρ H W (KD N H0 D) ((ev C G a ρ).bind fun x ρ => match ρ[i]? with
    | some (.own p (.obj c fs)) => if fs.length < 100 then .ok .nx (ρ.set i (.own p (.obj c (PX.putF f x.1 fs)))) else .bad
    | _ => .bad) := c
  refine TEv.keepS (F := fun x ρ => match ρ[i]? with
    | some (.own p (.obj c fs)) => if fs.length < 100 then (.ok .nx (ρ.set i (.own p (.obj c (PX.putF f x fs)))) : Res Fl) else .bad
    | _ => .bad) fr.rel c' fun x ρ1 H1 W1 v s rp c1 => ?_
  cases q : ρ1[i]? with
  | none => rw [q] at c1; exact c1.elim
  | some cl =>
    rw [q] at c1
    cases cl with
    | own p d => cases d with
      | obj cc fs =>
        have c2 : ContS N Wx σ ρ1 H1 W1 (KD N H0 D) (if fs.length < 100 then (.ok .nx (ρ1.set i (.own p (.obj cc (PX.putF f x fs)))) : Res Fl) else .bad) := c1
        by_cases hl : fs.length < 100
        case neg => rw [if_neg hl] at c2; exact c2.elim
        rw [if_pos hl] at c2
        obtain ⟨b, eb, w, dx, gs, hg, rf⟩ := s.rel.slot i _ q
        refine ⟨_, eb, b, N.cls cc, dx, gs, rfl, hg, by rw [hK]; exact ok.cls (by omega) cc, by rw [hK]; exact ok.noat cc f hf, by rw [← repsF_len rf]; omega, ?_⟩
        have T : Ext (fun a => a = b) H1 W1 (upd H1 b (.ins (N.cls cc) dx (L2.putF (N.fld f) v gs))) W1 := Ext.write hg trivial rfl
        have hT : ∀ a, a = b → W1 a := fun a z => z ▸ w
        have st := s.rel.write (o := .ins (N.cls cc) dx (L2.putF (N.fld f) v gs)) (d' := .obj cc (PX.putF f x fs)) q eb trivial ⟨dx, _, upd_same, repsF_put ok (T.rep hT rp) (T.repsF hT rf)⟩
        exact c2 σ _ _ st.sst
      | _ => exact c1.elim
    | _ => exact c1.elim
end
end PX

end

section
set_option Elab.async false
set_option linter.all false
set_option autoImplicit false
set_option maxRecDepth 100000
namespace PX
open PySem PySem.Spec PyProof.Rows L2
section
variable {N : Nm} {Wx : WX} {X : Cx} {σ σ1 σ2 : L2.St} {ρ ρ1 ρ2 : Ev} {H H0 H1 H2 : Hp} {W W1 W2 T T1 : Addr → Prop}
variable (C : Call) (G : Nat → D)
theorem Fr.hide (f : Fr N H0 H W σ ρ) (us : List Nat) : Fr N H0 H W σ (PX.wipe ρ us) := ⟨f.rel.hide us, fun i d a h1 h2 => f.young i d a (wipe_own h1).2 h2, f.old⟩
theorem isUns_of {i : Nat} (h : isUns i ρ = true) : ρ[i]? = some Cell.unset := by
  unfold isUns at h
  cases q : ρ[i]? with
  | none => rw [q] at h; cases h
  | some z => rw [q] at h; cases z <;> first | rfl | cases h
/-- what was hidden stands again, behind stores -/
theorem Sst.unhide (rel : RelS N H W σ ρ) {us : List Nat} (s : Sst N σ (PX.wipe ρ us) H W σ1 ρ1 H1 W1) (hu : us.all (fun i => isUns i ρ1) = true) : Sst N σ ρ H W σ1 (PX.back ρ ρ1 us) H1 W1 := by
  have hl1 : ρ1.length = ρ.length := by rw [s.rel.len, s.len, rel.len]
  have hu' : ∀ j ∈ us, ρ1[j]? = some Cell.unset := fun j hj => isUns_of (List.all_eq_true.mp hu j hj)
  have hσ : ∀ j ∈ us, σ1[j]? = σ[j]? := fun j hj => (s.uns j (hu' j hj)).2
  refine ⟨RelS.unhide rel (fun _ _ => rfl) hσ s.rel s.ext (fun _ h => h) (fun j p d b _ h1 h2 => s.sub b ⟨j, p, d, h1, h2⟩) rfl hl1, s.ext.wide fun b h => wipe_sub h, fun b h => ?_, fun j d h => ?_, fun j h => ?_, s.len⟩
  · obtain ⟨j, p, d, h1, h2⟩ := h
    rw [back_get hl1] at h1
    by_cases hj : j ∈ us
    · rw [if_pos hj] at h1
      exact .inl ⟨j, p, d, h1, by rw [← hσ j hj]; exact h2⟩
    · rw [if_neg hj] at h1
      rcases s.sub b ⟨j, p, d, h1, h2⟩ with z | z
      · exact .inl (wipe_sub z)
      · exact .inr z
  · rw [back_get hl1]
    by_cases hj : j ∈ us
    · rw [if_pos hj]; exact ⟨d, h, hσ j hj⟩
    · rw [if_neg hj]
      exact s.par j d (by rw [wipe_get, if_neg hj]; exact h)
  · rw [back_get hl1] at h
    by_cases hj : j ∈ us
    · rw [if_pos hj] at h; exact ⟨h, hσ j hj⟩
    · rw [if_neg hj] at h
      obtain ⟨h1, h2⟩ := s.uns j h
      rw [wipe_get, if_neg hj] at h1
      exact ⟨h1, h2⟩
/-- a for's wish, the slots hidden -/
def KH (N : Nm) (H0 : Hp) (D : Ends) (σ : L2.St) (ρ : Ev) (us : List Nat) (H : Hp) (W : Addr → Prop) : Fl → Ev → L2.St → Hp → (Addr → Prop) → Prop := fun r ρ1 σ1 H1 W1 =>
  us.all (fun i => isUns i ρ1) = true ∧ (Sst N σ (PX.wipe ρ us) H W σ1 ρ1 H1 W1 → KD N H0 D r ρ1 σ1 H1 W1)
theorem s_for {tg iter : Expr} {body : List Stmt} {p : Pos} {t : Tg} {it : E} {b : S} (hp : PassesOwn (model X.prog X.w) X.A X.env X.xe) (hc : X.calm = true) (hi : PI X tg iter (TIt N Wx (evI C G it))) (hg : PG X tg (TGt N t)) (hb : PSs X body (TSt N Wx H0 (evS C G b)))
    (hs : ∀ x, foldedSetIterable iter X.env x = pure x) : PS X (.For tg iter body [] p) (TSt N Wx H0 (evS C G (.for t it b))) := by
  refine psImp (ps_for hp hc hi hg hb hs) fun D σ H hq => ?_
  obtain ⟨W, ρ, fr, c⟩ := hq
  generalize hf : (fun d ρ => (bindT t d ρ).bind fun _ ρ => evS C G b ρ) = f
  have c' : ContS N Wx σ ρ H W (KD N H0 D) ((evI C G it ρ).bind fun q ρ₀ => (forL f q.1 (PX.wipe ρ₀ q.2)).bind fun r ρ => if q.2.all (fun i => isUns i ρ) then .ok r (PX.back ρ₀ ρ q.2) else .bad) := by
    subst hf
    exact c
  refine ⟨W, ρ, fr.rel, Cont.monoE (ContS.ofE fr.rel c') fun q ρ₀ H1 W1 _ s c1 J wk => ?_⟩
  have fr1 := fr.sst s.sst
  have frh := fr1.hide q.2
  -- from the hidden start
  have c2 : ContS N Wx σ (PX.wipe ρ₀ q.2) H1 W1 (KH N H0 D σ ρ₀ q.2 H1 W1) (forL f q.1 (PX.wipe ρ₀ q.2)) := by
    revert c1
    cases forL f q.1 (PX.wipe ρ₀ q.2) with
    | bad => exact fun h => h
    | exc cc fs => exact fun h x H2 W2 e r => h x H2 W2 (e.wide fun b h => wipe_sub h) r
    | ok r ρe =>
      intro h σ2 H2 W2 s2
      have h' : ContS N Wx σ ρ₀ H1 W1 (KD N H0 D) (if q.2.all (fun i => isUns i ρe) then .ok r (PX.back ρ₀ ρe q.2) else .bad) := h
      by_cases hu : q.2.all (fun i => isUns i ρe) = true
      · rw [if_pos hu] at h'
        refine ⟨hu, fun s3 => ?_⟩
        have z := h' σ2 H2 W2 (Sst.unhide fr1.rel s3 hu)
        cases r <;> exact z
      · rw [if_neg hu] at h'
        exact h'.elim
  refine ⟨fun i m σi Hi => m = q.1.length - i ∧ i ≤ q.1.length ∧ ∃ ρi Wi, Sst N σ (PX.wipe ρ₀ q.2) H1 W1 σi ρi Hi Wi ∧ ContS N Wx σi ρi Hi Wi (KH N H0 D σ ρ₀ q.2 H1 W1) (forL f (q.1.drop i) ρi), ⟨q.1.length, by simp, Nat.zero_le _, _, _, .refl frh.rel, by simpa using c2⟩, ?_⟩
  rintro i m σi Hi ⟨rfl, hi, ρi, Wi, S, ci⟩
  obtain ⟨goes, stops, yields⟩ := wk Hi Wi S.ext S.rel.tr
  by_cases hlt : i < q.1.length
  · refine .inr ⟨goes i hlt, fun σ' H' => ∃ ρ' W', Sst N σ (PX.wipe ρ₀ q.2) H1 W1 σ' ρ' H' W' ∧ ContS N Wx σ' ρ' H' W' (KH N H0 D σ ρ₀ q.2 H1 W1) (forL f (q.1.drop (i + 1)) ρ'), fun σ' H' ⟨ρ', W', h⟩ => ⟨q.1.length - (i + 1), by omega, rfl, hlt, ρ', W', h⟩, fun x H' y => ?_⟩
    obtain ⟨d, hd, nw, rp⟩ := yields i x H' hlt y
    have hdrop : q.1.drop i = d :: q.1.drop (i + 1) := by
      rw [List.drop_eq_getElem_cons hlt]
      rw [List.getElem?_eq_getElem hlt] at hd
      cases hd; rfl
    rw [hdrop] at ci
    have cf : ContS N Wx σi ρi Hi Wi (KH N H0 D σ ρ₀ q.2 H1 W1) ((f d ρi).bind fun r ρ => match r with
      | .nx => forL f (q.1.drop (i + 1)) ρ
      | .ct => forL f (q.1.drop (i + 1)) ρ
      | .bk => .ok .nx ρ
      | .ret d fr => .ok (.ret d fr) ρ) := ci
    have e1 : f d ρi = (bindT t d ρi).bind fun _ ρ => evS C G b ρ := by rw [← hf]
    have cb := ContS.bind S.rel cf
    rw [e1] at cb
    obtain ⟨ρb, hbt, cb2⟩ := bindT_ok cb
    have sn := (nw.stp S.rel).sst
    have S' := S.trans frh.rel sn
    refine ⟨Wi, ρi, d, ρb, S'.rel, rp, hbt, fun σ2 s2 _ => ?_⟩
    have S2 := S'.trans frh.rel s2
    have fr2 := frh.sst S2
    -- the body, from σ2
    have cb3 : ContS N Wx σ2 ρb H' Wi (KD N H0 { D with nx := fun σ' H' => ∃ ρ' W', Sst N σ (PX.wipe ρ₀ q.2) H1 W1 σ' ρ' H' W' ∧ ContS N Wx σ' ρ' H' W' (KH N H0 D σ ρ₀ q.2 H1 W1) (forL f (q.1.drop (i + 1)) ρ'), ct := fun σ' H' => ∃ ρ' W', Sst N σ (PX.wipe ρ₀ q.2) H1 W1 σ' ρ' H' W' ∧ ContS N Wx σ' ρ' H' W' (KH N H0 D σ ρ₀ q.2 H1 W1) (forL f (q.1.drop (i + 1)) ρ'), bk := D.nx }) (evS C G b ρb) := by
      have st : Sst N σi ρi Hi Wi σ2 ρb H' Wi := sn.trans S.rel s2
      revert cb2
      cases evS C G b ρb with
      | bad => exact fun h => h
      | exc cc fs => exact fun h x H2 W2 e r => h x H2 W2 (st.ext2 S.rel e) r
      | ok r ρ3 =>
        intro h σ3 H3 W3 s3
        obtain ⟨s4, h4⟩ := h σ3 H3 W3 (st.trans S.rel s3)
        have S4 := S.trans frh.rel s4
        cases r with
        | nx => exact ⟨ρ3, W3, S4, h4⟩
        | ct => exact ⟨ρ3, W3, S4, h4⟩
        | bk =>
          have k := ContS.here (N := N) (Wx := Wx) (a := Fl.nx) s4.rel h4
          exact k.2 S4
        | ret d fr =>
          have k := ContS.here (N := N) (Wx := Wx) (a := Fl.ret d fr) s4.rel h4
          exact k.2 S4
    exact ⟨Wi, ρb, fr2, cb3⟩
  · have hin : i = q.1.length := by omega
    subst hin
    rw [List.drop_length] at ci
    have k := ContS.here (N := N) (Wx := Wx) (a := Fl.nx) S.rel ci
    exact .inl ⟨stops, k.2 S⟩
/-! ### while -/
theorem s_while {te : Expr} {body : List Stmt} {p : Pos} {t : E} {b : S} (hp : PassesOwn (model X.prog X.w) X.A X.env X.xe) (ht : PT X te (TTt N Wx (evT C G t))) (hb : PSs X body (TSt N Wx H0 (evS C G b))) : PS X (.While te body [] p) (TSt N Wx H0 (evS C G (.while t b))) := by
  refine psImp (ps_while hp ht hb) fun D σ H hq => ?_
  obtain ⟨W, ρ, fr, c⟩ := hq
  have c' : ContS N Wx σ ρ H W (KD N H0 D) (whileL (evT C G t) (evS C G b) most ρ) := c
  refine ⟨fun m σ H => ∃ W ρ, Fr N H0 H W σ ρ ∧ ContS N Wx σ ρ H W (KD N H0 D) (whileL (evT C G t) (evS C G b) m ρ), ⟨most, W, ρ, fr, c'⟩, ?_⟩
  rintro m σ H ⟨W, ρ, fr, c⟩
  cases m with
  | zero => exact c.elim
  | succ m =>
    have c1 : ContS N Wx σ ρ H W (KD N H0 D) ((evT C G t ρ).bind fun b' ρ => if b' then (evS C G b ρ).bind fun r ρ => match r with
      | .nx => whileL (evT C G t) (evS C G b) m ρ
      | .ct => whileL (evT C G t) (evS C G b) m ρ
      | .bk => .ok .nx ρ
      | .ret d fr => .ok (.ret d fr) ρ else .ok .nx ρ) := c
    refine ⟨W, ρ, fr.rel, Cont.monoE (ContS.ofE fr.rel c1) fun k ρ1 H1 W1 _ s c2 => ?_⟩
    cases k with
    | false =>
      rw [if_neg (by decide)] at c2 ⊢
      exact ContS.here (N := N) (Wx := Wx) (a := Fl.nx) s.rel c2
    | true =>
      rw [if_pos rfl] at c2 ⊢
      refine ⟨fun σ H => ∃ W ρ, Fr N H0 H W σ ρ ∧ ContS N Wx σ ρ H W (KD N H0 D) (whileL (evT C G t) (evS C G b) m ρ), fun σ' H' h => ⟨m, Nat.lt_succ_self m, h⟩, W1, ρ1, fr.sst s.sst, ?_⟩
      refine (ContS.bind s.rel c2).mono fun r ρ2 σ2 H2 W2 s2 ⟨_, c3⟩ => ?_
      have fr2 := (fr.sst s.sst).sst s2
      cases r with
      | nx => exact ⟨W2, ρ2, fr2, c3⟩
      | ct => exact ⟨W2, ρ2, fr2, c3⟩
      | bk => exact ContS.here (N := N) (Wx := Wx) (a := Fl.nx) s2.rel c3
      | ret d fr => exact ContS.here (N := N) (Wx := Wx) (a := Fl.ret d fr) s2.rel c3
end
end PX

end

section
set_option Elab.async false
set_option linter.all false
set_option autoImplicit false
set_option maxRecDepth 100000
namespace PX
open PySem PySem.Spec PyProof.Rows L2
section
variable {N : Nm} {σ σ1 : L2.St} {ρ ρ1 : Ev} {H H0 H1 : Hp} {W W1 : Addr → Prop}
theorem markC_own {c : Cell} {p : Bool} {d : D} (h : markC c = Cell.own p d) : p = true ∧ ∃ q, c = Cell.own q d := by
  cases c with
  | own q e => cases h; exact ⟨rfl, q, rfl⟩
  | _ => cases h
/-- the slots at a def's entry -/
def entry (cs : List Cell) (n : Nat) : Ev := cs.map markC ++ List.replicate n Cell.unset
theorem entry_own {cs : List Cell} {n i : Nat} {p : Bool} {d : D} (h : (entry cs n)[i]? = some (Cell.own p d)) : p = true ∧ ∃ q, cs[i]? = some (Cell.own q d) := by
  unfold entry at h
  by_cases hi : i < cs.length
  · rw [List.getElem?_append_left (by simpa using hi), List.getElem?_map] at h
    cases e : cs[i]? with
    | none => rw [e] at h; cases h
    | some c =>
      rw [e] at h
      obtain ⟨h1, q, h2⟩ := markC_own (Option.some.inj h)
      exact ⟨h1, q, by rw [h2]⟩
  · rw [List.getElem?_append_right (by simpa using hi), List.getElem?_replicate] at h
    split at h <;> cases h
theorem start_get {Ns : List Str} {vs : List V} {i : Nat} {v : V} (h : vs[i]? = some v) : (L2.start Ns vs)[i]? = some (some v) := by
  unfold L2.start
  have hi : i < vs.length := (List.getElem?_eq_some_iff.mp h).1
  rw [List.getElem?_append_left (by simpa using hi), List.getElem?_map, h] <;> rfl
theorem start_some {Ns : List Str} {vs : List V} {i : Nat} {v : V} (h : (L2.start Ns vs)[i]? = some (some v)) : vs[i]? = some v := by
  unfold L2.start at h
  by_cases hi : i < vs.length
  · rw [List.getElem?_append_left (by simpa using hi), List.getElem?_map] at h
    cases e : vs[i]? with
    | none => rw [e] at h; cases h
    | some a => rw [e] at h; cases h; rfl
  · rw [List.getElem?_append_right (by simpa using hi), List.getElem?_replicate] at h
    split at h <;> cases h
theorem entry_rel {Ns : List Str} {cs : List Cell} {vs : List V} (cr : CellsR N H W cs vs) (tr : Trk H W) (ap : Apart cs vs) (hl : vs.length ≤ Ns.length) : RelS N H W (L2.start Ns vs) (entry cs (Ns.length - vs.length)) := by
  refine ⟨?_, fun i c e => ?_, fun i j p q d e a h1 h2 h3 h4 => ?_, tr⟩
  · unfold entry L2.start
    rw [List.length_append, List.length_append, List.length_map, List.length_map, List.length_replicate, List.length_replicate, cr.length]
  · unfold entry at e
    by_cases hi : i < cs.length
    · rw [List.getElem?_append_left (by simpa using hi), List.getElem?_map] at e
      cases q : cs[i]? with
      | none => rw [q] at e; cases e
      | some c0 =>
        rw [q] at e
        obtain ⟨v, hv, r⟩ := cr.get q
        have sv := start_get (Ns := Ns) hv
        cases c0 with
        | unset => exact r.elim
        | val d => cases e; exact ⟨v, sv, r⟩
        | own p d =>
          cases e
          obtain ⟨a, rfl, w, o⟩ := r
          exact ⟨a, sv, w, o⟩
    · rw [List.getElem?_append_right (by simpa using hi), List.getElem?_replicate] at e
      split at e
      · cases e; trivial
      · cases e
  · obtain ⟨_, q1, g1⟩ := entry_own h1
    obtain ⟨_, q2, g2⟩ := entry_own h2
    exact ap i j _ _ _ _ a g1 g2 (start_some h3) (start_some h4)
/-- a body's end is its def's -/
theorem run_end {Ns : List Str} {cs : List Cell} {vs : List V} {fd : FD} {C : Call} {G : Nat → D} {Q : VK} {E : XK} (cr : CellsR N H W cs vs) (tr : Trk H W) (ap : Apart cs vs) (hl : vs.length = fd.np) (hn : Ns.length = fd.ns) (hle : fd.np ≤ fd.ns) (k : CRk N H W cs vs Q E (runF fd C G cs)) :
    TSt N (fun cls d _ H => E cls d H) H (evS C G fd.body) { nx := fun _ H' => Q .non H', rt := Q } (L2.start Ns vs) H := by
  have hl2 : vs.length ≤ Ns.length := by omega
  have rel := entry_rel (Ns := Ns) cr tr ap hl2
  have own : ∀ a, Own (entry cs (Ns.length - vs.length)) (L2.start Ns vs) a → CellOwn cs vs a := fun a ⟨i, p, d, h1, h2⟩ => by
    obtain ⟨_, q, g⟩ := entry_own h1
    exact ⟨i, q, d, g, start_some h2⟩
  refine ⟨W, entry cs (Ns.length - vs.length), ⟨rel, fun i d a h1 h2 => ?_, fun b h => h⟩, ?_⟩
  · obtain ⟨h, _⟩ := entry_own h1; cases h
  · have e1 : runF fd C G cs = (match evS C G fd.body (entry cs (Ns.length - vs.length)) with
      | .ok (.ret d fr) ρ => .ok d fr (ρ.take fd.np)
      | .ok .nx ρ => .ok .none false (ρ.take fd.np)
      | .exc c fs => .exc c fs
      | _ => .bad) := by
      unfold runF
      rw [if_pos (by rw [cr.length]; exact hl)]
      have : fd.ns - fd.np = Ns.length - vs.length := by omega
      rw [this] <;> rfl
    rw [e1] at k
    -- what the outs are
    have outs : ∀ {σ1 : L2.St} {ρ1 : Ev} {H1 : Hp} {W1 : Addr → Prop}, Sst N (L2.start Ns vs) (entry cs (Ns.length - vs.length)) H W σ1 ρ1 H1 W1 → OutsR N H1 W1 cs (ρ1.take fd.np) vs := fun {σ1 ρ1 H1 W1} s => by
      have len : ρ1.length = fd.ns := by
        rw [s.rel.len, s.len]
        unfold L2.start
        rw [List.length_append, List.length_map, List.length_replicate]; omega
      refine ⟨by rw [List.length_take, len, cr.length]; omega, fun i p d h => ?_⟩
      have hi : i < cs.length := (List.getElem?_eq_some_iff.mp h).1
      have h1 : (entry cs (Ns.length - vs.length))[i]? = some (Cell.own true d) := by
        unfold entry
        rw [List.getElem?_append_left (by simpa using hi), List.getElem?_map, h] <;> rfl
      obtain ⟨d', h2, h3⟩ := s.par i d h1
      obtain ⟨a, h4, w, o⟩ := s.rel.slot i _ h2
      rw [h3] at h4
      exact ⟨a, d', by rw [List.getElem?_take_of_lt (by rw [cr.length] at hi; omega)]; exact h2, start_some h4, w, o⟩
    revert k
    cases evS C G fd.body (entry cs (Ns.length - vs.length)) with
    | bad => exact fun k => k
    | exc c fs => exact fun k x H1 W1 e r σ1 => k x H1 W1 (e.wide own) r
    | ok f ρ1 =>
      cases f with
      | bk => exact fun k => k.elim
      | ct => exact fun k => k.elim
      | nx => exact fun k σ1 H1 W1 s => k .non H1 W1 (s.ext.wide own) s.rel.tr (outs s) rfl
      | ret d fr => exact fun k σ1 H1 W1 s v vr => k v H1 W1 (s.ext.wide own) s.rel.tr (outs s) vr
/-- a def of the text keeps its promise, by its body -/
theorem fn_ok {K : PySem.W.Frag} {mg : Str → Option Value} {base : Heap} {k : Nat} {f : Addr} {name qual : Str} {params : Arguments} {body : List Stmt} {scope : Scope} {dV kV doc pm cdv ct oc : Value} {an od : Option Addr} {P : Program} {w : World}
    {osl : Array (Option Value)} {Ns ps : List Str} {T : List FD} {G : Nat → D} {n fi : Nat} {fd : FD} (lk : K.lookup f = some ⟨oc, od, .func (PySem.W.fnOf name qual params body scope dV kV doc pm an cdv ct), osl⟩) (hcd : PySem.W.codeIn K cdv qual = true) (S : FnScope Ns ps scope)
    (hT : T[fi]? = some fd) (hn : Ns.length = fd.ns) (hp : ps.length = fd.np) (hle : fd.np ≤ fd.ns)
    (hbody : ∀ (A : Around) (outer : List Env) (s : Shared) (H : Hp) (E : XK), RoomG k (A.deeper (envOfC qual scope s.heap.objs.size f cdv)) →
      PSs (cxOf (L2.CX P w) P w K mg base Ns qual scope f cdv A outer s H E) body (TSt N (fun cls d _ H => E cls d H) H (evS (callN T G n) G fd.body))) :
    FnG P w K mg base (L2.CX P w) (k + 1) f (PySem.W.fnOf name qual params body scope dV kV doc pm an cdv ct) ps (spC N (callN T G (n + 1)) fi) := by
  have len : ∀ vs H Q E, spC N (callN T G (n + 1)) fi vs H Q E → vs.length = fd.np := fun vs H Q E ⟨W, cs, cr, _, _, k⟩ => by
    have e : callN T G (n + 1) fi cs = runF fd (callN T G n) G cs := by
      show (match T[fi]? with | some fd => runF fd (callN T G n) G cs | none => CRes.bad) = _
      rw [hT]
    rw [e] at k
    by_cases h : cs.length = fd.np
    · rw [← cr.length]; exact h
    · unfold runF at k
      rw [if_neg h] at k
      exact k.elim
  refine fnG_of lk hcd S (fun vs H Q E h => (len vs H Q E h).trans hp.symm) fun A outer s H vs Q E hr hsp => ?_
  have hl := len vs H Q E hsp
  obtain ⟨W, cs, cr, tr, ap, k⟩ := hsp
  have e : callN T G (n + 1) fi cs = runF fd (callN T G n) G cs := by
    show (match T[fi]? with | some fd => runF fd (callN T G n) G cs | none => CRes.bad) = _
    rw [hT]
  rw [e] at k
  exact ⟨_, hbody A outer s H E hr, run_end cr tr ap hl hn hle k⟩
/-- nothing is promised of what is never called -/
theorem fn_zero {K : PySem.W.Frag} {mg : Str → Option Value} {base : Heap} {k : Nat} {f : Addr} {fd : FuncData} {ps : List Str} {P : Program} {w : World} {T : List FD} {G : Nat → D} {fi : Nat} : FnG P w K mg base (L2.CX P w) k f fd ps (spC N (callN T G 0) fi) :=
  ⟨fun vs H Q E ⟨_, _, _, _, _, k⟩ => k.elim, fun _ _ _ _ _ _ _ _ _ _ _ _ _ ⟨_, _, _, _, _, k⟩ => k.elim⟩
theorem takes_cx {Wx : XK} {K : PySem.W.Frag} {mg : Str → Option Value} {base : Heap} {Ns : List Str} {qual : Str} {scope : Scope} {f : Addr} {cdv : Value} {P : Program} {w : World} {A : Around} {outer : List Env} {s : Shared} {H : Hp} :
    Takes (cxOf (L2.CX P w) P w K mg base Ns qual scope f cdv A outer s H Wx) (fun cls d _ H => Wx cls d H) := takes_of rfl rfl rfl rfl
theorem owns_cx {Wx : XK} {K : PySem.W.Frag} {mg : Str → Option Value} {base : Heap} {Ns : List Str} {qual : Str} {scope : Scope} {f : Addr} {cdv : Value} {P : Program} {w : World} {A : Around} {outer : List Env} {s : Shared} {H : Hp} :
    PassesOwn (model P w) (cxOf (L2.CX P w) P w K mg base Ns qual scope f cdv A outer s H Wx).A (cxOf (L2.CX P w) P w K mg base Ns qual scope f cdv A outer s H Wx).env (cxOf (L2.CX P w) P w K mg base Ns qual scope f cdv A outer s H Wx).xe :=
  passes_of (X := cxOf (L2.CX P w) P w K mg base Ns qual scope f cdv A outer s H Wx) rfl
end
end PX

end

section
set_option Elab.async false
set_option linter.all false
set_option autoImplicit false
set_option maxRecDepth 100000
namespace PX
open PySem PySem.Spec PyProof.Rows L2
section
variable {N : Nm} {Wx : WX} {X : Cx} {σ : L2.St} {ρ ρ1 : Ev} {H H0 H1 : Hp} {W W1 : Addr → Prop}
variable (C : Call) (G : Nat → D)
def rRepr (N : Nm) : List V → Hp → VK → Prop := fun vs H Q => ∃ (W : Addr → Prop) (d : D) (v : V), vs = [v] ∧ RR N H W d v ∧ d.ok 60 = true ∧ d.py.showable = true ∧ d.py.shown.length ≤ lim ∧ Q (.str d.py.shown) H
theorem call_repr (hK : X.K = N.K) (hg : X.A.guards = some []) (hu : X.A.units + 128 < cLine) : CallR X (.builtin "repr") (rRepr N) := by
  intro pins s σ H xs us Q I r h
  obtain ⟨W, d, v, rfl, hv, ho, hs, hl, q⟩ := h
  obtain ⟨u, rfl, ru⟩ := vals1 r
  rw [lim_eq] at hl
  have dp := rr_dp ho hv
  rw [← hK] at dp
  obtain ⟨as, rd⟩ := Dp.reads I d.py v u dp ru
  obtain ⟨cl, dep⟩ := ok_lay d 60 ho
  have nd : d.py.hasDict = false := PyData.hasDict_of_canLay d.py cl
  have fin : ∀ {tk : Nat}, EP X pins σ Q (.str d.py.shown s.toks) { s with toks := tk } := fun {tk} => ⟨.str d.py.shown, H, I.tok _, ⟨_, rfl⟩, q⟩
  cases d with
  | none =>
    have h' : v = .non := hv
    subst h'
    cases ru
    exact P.repr_of_none fin
  | bool b =>
    have h' : v = .bl b := hv
    subst h'
    cases ru
    exact P.repr_of_bool fin
  | int i =>
    have h' : v = .int i := hv
    subst h'
    obtain ⟨t, rfl⟩ := ru
    exact P.repr_of_int (of_decide_eq_true (show decide (i.natAbs.log2 < 1920) = true from hs)) fin
  | str z =>
    have h' : v = .str z := hv
    subst h'
    obtain ⟨t, rfl⟩ := ru
    exact P.repr_of_str fin hl
  | dct k l => cases ho
  | obj c fs => cases ho
  | tup l =>
    obtain ⟨a, xs, rfl, _, _⟩ := hv
    cases (show u = Value.ref a from ru)
    exact repr_of_reads' rd hs (PyData.noDict_hsm nd) hg (by omega) (fun _ _ e => e) (fun h' u tk hk => ⟨.str _, H, I.kept hk, ⟨_, rfl⟩, q⟩) hl
  | lst l =>
    obtain ⟨a, xs, rfl, _, _⟩ := hv
    cases (show u = Value.ref a from ru)
    exact repr_of_reads' rd hs (PyData.noDict_hsm nd) hg (by omega) (fun _ _ e => e) (fun h' u tk hk => ⟨.str _, H, I.kept hk, ⟨_, rfl⟩, q⟩) hl
  | scr l =>
    obtain ⟨a, xs, rfl, _, _⟩ := hv
    cases (show u = Value.ref a from ru)
    exact repr_of_reads' rd hs (PyData.noDict_hsm nd) hg (by omega) (fun _ _ e => e) (fun h' u tk hk => ⟨.str _, H, I.kept hk, ⟨_, rfl⟩, q⟩) hl
theorem r_repr {x : Str} {ea : Expr} {a : E} {p pos : Pos} (hK : X.K = N.K) (hgd : X.A.guards = some []) (hu : X.A.units + 128 < cLine) (hx : x = "repr") (hg : Gl X x) (hm : X.mg x = none) (hn : notStar ea = true) (ha : Rdr N Wx X ea a (ev C G a)) :
    Rdr N Wx X (.Call (.Name x p) [ea] [] pos) (.bi .repr (.cons a .nil)) (ev C G (.bi .repr (.cons a .nil))) := by
  subst hx
  refine r_of (peImp (pe_callB (call_repr hK hgd hu) hg hm (by decide +kernel) (pa_cons ha.rd pa_nil (star_cons hn _ _)) (by decide) (by decide) (star_cons hn _ _) rfl) fun σ H Q hq => ?_) fun _ e => nomatch e
  obtain ⟨W, ρ, rel, c⟩ := hq
  have c' : Cont N Wx σ ρ H W (KE N H Q) ((evRs C G (.cons a .nil) ρ).bind fun ds ρ => ofO (biF .repr ds) ρ) := c
  rw [evRs_one] at c'
  have e : ((rdOr a (ev C G a) ρ).bind fun d ρ => Res.ok [d] ρ).bind (fun ds ρ => ofO (biF .repr ds) ρ) = (rdOr a (ev C G a) ρ).bind fun d ρ => ofO (biF .repr [d]) ρ := by cases rdOr a (ev C G a) ρ <;> rfl
  rw [e] at c'
  refine ⟨W, ρ, rel, (c'.bind rel).mono fun d ρ1 H1 W1 s ⟨_, c1⟩ v hv => ?_⟩
  obtain ⟨z, hz, c2⟩ := c1.ofO0
  by_cases ho : (d.ok 60 && d.py.showable && decide (d.py.shown.length ≤ lim)) = true
  · rw [show biF .repr [d] = some (.str d.py.shown, false) by simp only [biF, if_pos ho]] at hz
    cases hz
    simp only [Bool.and_eq_true, decide_eq_true_eq] at ho
    exact ⟨W1, d, v, rfl, hv, ho.1.1, ho.1.2, ho.2, c2.here s.rel (.str _) rfl⟩
  · rw [show biF .repr [d] = none by simp only [biF, if_neg ho]] at hz
    cases hz
end
end PX

end

section
set_option Elab.async false
set_option linter.all false
set_option autoImplicit false
set_option maxRecDepth 100000
namespace PX
open PySem PySem.Spec PyProof.Rows L2
/-! ### the text's forms -/
def unName : Expr → Option Str
  | .Name x _ => some x
  | _ => none
theorem unName_of {e : Expr} {x : Str} (h : unName e = some x) : ∃ p, e = .Name x p := by
  cases e <;> first | (cases h; exact ⟨_, rfl⟩) | cases h
def unConst : Expr → Option Const
  | .Constant c _ _ => some c
  | _ => none
theorem unConst_of {e : Expr} {x : Const} (h : unConst e = some x) : ∃ k p, e = .Constant x k p := by
  cases e <;> first | (cases h; exact ⟨_, _, rfl⟩) | cases h
def unBin : Expr → Option (Expr × Operator × Expr)
  | .BinOp a o b _ => some (a, o, b)
  | _ => none
theorem unBin_of {e a b : Expr} {o : Operator} (h : unBin e = some (a, o, b)) : ∃ p, e = .BinOp a o b p := by
  cases e <;> first | (cases h; exact ⟨_, rfl⟩) | cases h
def unUn : Expr → Option (UnaryOp × Expr)
  | .UnaryOp o a _ => some (o, a)
  | _ => none
theorem unUn_of {e a : Expr} {o : UnaryOp} (h : unUn e = some (o, a)) : ∃ p, e = .UnaryOp o a p := by
  cases e <;> first | (cases h; exact ⟨_, rfl⟩) | cases h
def unBool : Expr → Option (BoolOp × List Expr × Pos)
  | .BoolOp o es p => some (o, es, p)
  | _ => none
theorem unBool_of {e : Expr} {es : List Expr} {o : BoolOp} {p : Pos} (h : unBool e = some (o, es, p)) : e = .BoolOp o es p := by
  cases e <;> first | (cases h; rfl) | cases h
def unCmp : Expr → Option (Expr × List CmpOp × List Expr)
  | .Compare a os es _ => some (a, os, es)
  | _ => none
theorem unCmp_of {e a : Expr} {os : List CmpOp} {es : List Expr} (h : unCmp e = some (a, os, es)) : ∃ p, e = .Compare a os es p := by
  cases e <;> first | (cases h; exact ⟨_, rfl⟩) | cases h
def unIf : Expr → Option (Expr × Expr × Expr)
  | .IfExp t a b _ => some (t, a, b)
  | _ => none
theorem unIf_of {e t a b : Expr} (h : unIf e = some (t, a, b)) : ∃ p, e = .IfExp t a b p := by
  cases e <;> first | (cases h; exact ⟨_, rfl⟩) | cases h
def unTup : Expr → Option (List Expr)
  | .Tuple es _ _ => some es
  | _ => none
theorem unTup_of {e : Expr} {es : List Expr} (h : unTup e = some es) : ∃ k p, e = .Tuple es k p := by
  cases e <;> first | (cases h; exact ⟨_, _, rfl⟩) | cases h
def unLst : Expr → Option (List Expr)
  | .List es _ => some es
  | _ => none
theorem unLst_of {e : Expr} {es : List Expr} (h : unLst e = some es) : ∃ p, e = .List es p := by
  cases e <;> first | (cases h; exact ⟨_, rfl⟩) | cases h
def unSub : Expr → Option (Expr × Expr)
  | .Subscript a i _ => some (a, i)
  | _ => none
theorem unSub_of {e a i : Expr} (h : unSub e = some (a, i)) : ∃ p, e = .Subscript a i p := by
  cases e <;> first | (cases h; exact ⟨_, rfl⟩) | cases h
def unSlice : Expr → Option (Option Expr × Option Expr)
  | .Slice a b none _ => some (a, b)
  | _ => none
theorem unSlice_of {e : Expr} {a b : Option Expr} (h : unSlice e = some (a, b)) : ∃ p, e = .Slice a b none p := by
  cases e with
  | Slice l u s p => cases s with
    | none => cases h; exact ⟨p, rfl⟩
    | some _ => cases h
  | _ => cases h
def unCall : Expr → Option (Expr × List Expr × List Keyword × Pos)
  | .Call f es ks p => some (f, es, ks, p)
  | _ => none
theorem unCall_of {e f : Expr} {es : List Expr} {ks : List Keyword} {p : Pos} (h : unCall e = some (f, es, ks, p)) : e = .Call f es ks p := by
  cases e <;> first | (cases h; rfl) | cases h
def unAttr : Expr → Option (Expr × Str × Pos)
  | .Attribute o x p => some (o, x, p)
  | _ => none
theorem unAttr_of {e o : Expr} {x : Str} {p : Pos} (h : unAttr e = some (o, x, p)) : e = .Attribute o x p := by
  cases e <;> first | (cases h; rfl) | cases h
def unLc : Expr → Option (Expr × Expr × Expr × List Expr × Scope × Pos)
  | .ListComp elt [⟨tg, it, ifs, 0⟩] sc p => some (elt, tg, it, ifs, sc, p)
  | _ => none
theorem unLc_of {e elt tg it : Expr} {ifs : List Expr} {sc : Scope} {p : Pos} (h : unLc e = some (elt, tg, it, ifs, sc, p)) : e = .ListComp elt [⟨tg, it, ifs, 0⟩] sc p := by
  unfold unLc at h
  split at h
  · cases h; rfl
  · cases h
/-- f(..): the name, the arguments -/
def unFn (e : Expr) : Option (Str × List Expr) := match unCall e with
  | some (f, es, [], _) => (unName f).map fun x => (x, es)
  | _ => none
theorem unFn_of {e : Expr} {x : Str} {es : List Expr} (h : unFn e = some (x, es)) : ∃ p q, e = .Call (.Name x p) es [] q := by
  unfold unFn at h
  split at h
  · rename_i f es' q hc
    cases hn : unName f with
    | none => rw [hn] at h; cases h
    | some y =>
      rw [hn] at h
      cases h
      obtain ⟨p, rfl⟩ := unName_of hn
      exact ⟨p, q, unCall_of hc⟩
  · cases h
/-- o.m(..) -/
def unMeth (e : Expr) : Option (Expr × Str × List Expr × Pos × Pos) := match unCall e with
  | some (f, es, [], q) => (unAttr f).map fun z => (z.1, z.2.1, es, z.2.2, q)
  | _ => none
theorem unMeth_of {e o : Expr} {x : Str} {es : List Expr} {p q : Pos} (h : unMeth e = some (o, x, es, p, q)) : e = .Call (.Attribute o x p) es [] q := by
  unfold unMeth at h
  split at h
  · rename_i f es' q hc
    cases hn : unAttr f with
    | none => rw [hn] at h; cases h
    | some y =>
      rw [hn] at h
      cases h
      rw [unCall_of hc, unAttr_of (show unAttr f = some (y.1, y.2.1, y.2.2) from hn)]
  · cases h
/-! ### names -/
def slotB (Ns : List Str) (i : Nat) (x : Str) : Bool := decide (Ns[i]? = some x)
def visB (sc : Scope) (x : Str) : Bool := match sc.names.lookup x with
  | some .local => true
  | some .cell => true
  | some .free => true
  | _ => false
theorem visB_of {sc : Scope} {x : Str} (h : visB sc x = true) : Vis sc x := by
  unfold visB at h
  split at h <;> first | cases h | skip
  · exact .inl ‹_›
  · exact .inr (.inl ‹_›)
  · exact .inr (.inr ‹_›)
def locB (sc : Scope) (x : Str) : Bool := match sc.names.lookup x with
  | some .local => true
  | some .cell => true
  | _ => false
theorem locB_of {sc : Scope} {x : Str} (h : locB sc x = true) : Loc sc x := by
  unfold locB at h
  split at h <;> first | cases h | skip
  · exact .inl ‹_›
  · exact .inr ‹_›
def glB (sc : Scope) (x : Str) : Bool := match sc.names.lookup x with
  | some .globalImplicit => true
  | _ => false
theorem glB_of {sc : Scope} {x : Str} (h : glB sc x = true) : sc.names.lookup x = some .globalImplicit := by
  unfold glB at h
  split at h
  · assumption
  · cases h
def dbgB (x : Str) : Bool := (x == ("__debug__" : Str)) || (x == ("__classdict__" : Str))
/-- a slot's name -/
def varB (Ns : List Str) (sc : Scope) (i : Nat) (e : Expr) : Bool := match unName e with
  | some x => slotB Ns i x && visB sc x && !dbgB x
  | none => false
def nmB (Ns : List Str) (sc : Scope) : List Expr → List Nat → Bool
  | [], [] => true
  | e :: es, i :: l => (match unName e with
    | some x => slotB Ns i x && locB sc x
    | none => false) && nmB Ns sc es l
  | _, _ => false
def tgB (Ns : List Str) (sc : Scope) (t : Tg) (e : Expr) : Bool := match t with
  | .name i => (match unName e with
    | some x => slotB Ns i x && locB sc x
    | none => false)
  | .tup l => (match unTup e with
    | some es => nmB Ns sc es l
    | none => false)
/-- a text's own names -/
structure Tx where
  fn : List (Option Str)
  me : List (Option (Nat × Str))
  cl : List (Str × Nat)
  gl : List Str
  fl : List Str
  ex : List Str
  xf : List (List Str)
  xb : Str
def tyEs (sc : Scope) : List Expr → List Ty → Bool
  | [], [] => true
  | e :: es, t :: ts => (match unName e with
    | some x => decide (x = Str.ofString (tyNm t)) && glB sc x
    | none => false) && tyEs sc es ts
  | _, _ => false
def plainTest : Expr → Bool
  | .UnaryOp .Not _ _ => false
  | .BoolOp .. => false
  | .IfExp .. => false
  | .Compare .. => false
  | _ => true
def notSet : Expr → Bool
  | .Set .. => false
  | _ => true
def ownOf (Ns : List Str) (vs : List Nat) : List (Str × Nat) := vs.map fun v => (Ns.getD v default, v)
def behB (o : CmpOp) (e : Expr) : Bool := !behindInMarks o e
def isNb : Cp → Bool
  | .isN => true
  | .notN => true
  | _ => false
def noneB (e : Expr) : Bool := match unConst e with
  | some .none => true
  | _ => false
section
variable (tx : Tx) (Ns : List Str)
mutual
def chkE (sc : Scope) : E → Expr → Bool
  | .nil, _ => true
  | .none, e => noneB e
  | .bool b, e => decide (unConst e = some (.bool b))
  | .int b, e => decide (unConst e = some (.int b))
  | .str b, e => decide (unConst e = some (.str b))
  | .var i, e => varB Ns sc i e
  | .glob k, e => (match unName e with
    | some x => decide (tx.gl[k]? = some x) && glB sc x && !dbgB x
    | none => false)
  | .bin o a b, e => (match unBin e with
    | some (l, op, r) => decide (op = opOf o) && chkE sc a l && chkE sc b r
    | none => false)
  | .neg a, e => (match unUn e with
    | some (.USub, r) => chkE sc a r
    | _ => false)
  | .not a, e => (match unUn e with
    | some (.Not, r) => chkE sc a r
    | _ => false)
  | .and a b, e => (match unBool e with
    | some (.And, l :: [r], _) => chkE sc a l && chkE sc b r
    | some (.And, l :: r :: rs, p) => chkE sc a l && chkE sc b (.BoolOp .And (r :: rs) p)
    | _ => false)
  | .or a b, e => (match unBool e with
    | some (.Or, l :: [r], _) => chkE sc a l && chkE sc b r
    | some (.Or, l :: r :: rs, p) => chkE sc a l && chkE sc b (.BoolOp .Or (r :: rs) p)
    | _ => false)
  | .cmp .isN a _, e => (match unCmp e with
    | some (l, [.Is], [r]) => chkE sc a l && noneB r
    | _ => false)
  | .cmp .notN a _, e => (match unCmp e with
    | some (l, [.IsNot], [r]) => chkE sc a l && noneB r
    | _ => false)
  | .cmp o a b, e => (match unCmp e with
    | some (l, [op], [r]) => decide (op = cpOf o) && !isNb o && behB op r && chkE sc a l && chkE sc b r
    | _ => false)
  | .cmp2 o o' a b d, e => (match unCmp e with
    | some (l, [op, op'], [r, r']) => decide (op = cpOf o) && decide (op' = cpOf o') && !isNb o && !isNb o' && !lastMarks [op, op'] [r, r'] && chkE sc a l && chkE sc b r && chkE sc d r'
    | _ => false)
  | .ite t a b, e => (match unIf e with
    | some (c, l, r) => chkT sc t c && chkE sc a l && chkE sc b r
    | none => false)
  | .tup l, e => (match unTup e with
    | some es => decide (lenE l ≤ 1000) && chkL sc l es
    | none => false)
  | .lst l, e => (match unLst e with
    | some es => decide (lenE l ≤ 1000) && chkL sc l es
    | none => false)
  | .idx a i, e => (match unSub e with
    | some (l, r) => notSlice r && chkE sc a l && chkE sc i r
    | none => false)
  | .slice a lo hi, e => (match unSub e with
    | some (l, r) => (match unSlice r with
      | some (u, v) => chkE sc a l && chkO sc lo u && chkO sc hi v
      | none => false)
    | none => false)
  | .call f l, e => (match unFn e with
    | some (x, es) => decide (tx.fn[f]? = some (some x)) && glB sc x && !dbgB x && es.all notStar && chkA sc l es
    | none => false)
  | .new c f l, e => (match unFn e with
    | some (x, es) => decide (tx.cl[c]? = some (x, f)) && glB sc x && !dbgB x && es.all notStar && !es.isEmpty && chkA sc l es
    | none => false)
  | .meth c f o l, e => (match unMeth e with
    | some (eo, m, es, p, q) => decide (tx.me[f]? = some (some (c, m))) && notCall eo && decide (es.length < 30) && (p.endLine == q.line) && es.all notStar && chkE sc o eo && chkA sc l es
    | none => false)
  | .attr o f, e => (match unAttr e with
    | some (eo, x, _) => decide (tx.fl[f]? = some x) && notCall eo && chkE sc o eo
    | none => false)
  | .bi (.isi false [t]) (.cons a .nil), e => (match unFn e with
    | some (x, [ea, et]) => decide (x = "isinstance") && glB sc x && notStar ea && tyEs sc [et] [t] && chkE sc a ea
    | _ => false)
  | .bi (.isi true ts) (.cons a .nil), e => (match unFn e with
    | some (x, [ea, et]) => (match unTup et with
      | some es => decide (x = "isinstance") && glB sc x && notStar ea && decide (ts.length ≤ 1000) && tyEs sc es ts && chkE sc a ea
      | none => false)
    | _ => false)
  | .bi .repr (.cons a .nil), e => (match unFn e with
    | some (x, [ea]) => decide (x = "repr") && glB sc x && notStar ea && chkE sc a ea
    | _ => false)
  | .bi .lrng1 (.cons a .nil), e => (match unFn e with
    | some (x, [e1]) => (match unFn e1 with
      | some (y, [ea]) => decide (x = "list") && glB sc x && decide (y = "range") && glB sc y && notStar ea && chkE sc a ea
      | _ => false)
    | _ => false)
  | .bi .trng1 (.cons a .nil), e => (match unFn e with
    | some (x, [e1]) => (match unFn e1 with
      | some (y, [ea]) => decide (x = "tuple") && glB sc x && decide (y = "range") && glB sc y && notStar ea && chkE sc a ea
      | _ => false)
    | _ => false)
  | .bi .lrng2 (.cons a (.cons b .nil)), e => (match unFn e with
    | some (x, [e1]) => (match unFn e1 with
      | some (y, [ea, eb]) => decide (x = "list") && glB sc x && decide (y = "range") && glB sc y && notStar ea && notStar eb && chkE sc a ea && chkE sc b eb
      | _ => false)
    | _ => false)
  | .bi .lzip (.cons a (.cons b .nil)), e => (match unFn e with
    | some (x, [e1]) => (match unFn e1 with
      | some (y, [ea, eb]) => decide (x = "list") && glB sc x && decide (y = "zip") && glB sc y && notStar ea && notStar eb && chkE sc a ea && chkE sc b eb
      | _ => false)
    | _ => false)
  | .bi .trng2 (.cons a (.cons b .nil)), e => (match unFn e with
    | some (x, [e1]) => (match unFn e1 with
      | some (y, [ea, eb]) => decide (x = "tuple") && glB sc x && decide (y = "range") && glB sc y && notStar ea && notStar eb && chkE sc a ea && chkE sc b eb
      | _ => false)
    | _ => false)
  | .bi .minD (.cons a (.cons b .nil)), e => (match unCall e with
    | some (f, [ea], [⟨some y, eb, _⟩], _) => decide (unName f = some (Str.ofString "min")) && glB sc (Str.ofString "min") && decide (y = "default") && notStar ea && chkE sc a ea && chkE sc b eb
    | _ => false)
  | .bi .maxD (.cons a (.cons b .nil)), e => (match unCall e with
    | some (f, [ea], [⟨some y, eb, _⟩], _) => decide (unName f = some (Str.ofString "max")) && glB sc (Str.ofString "max") && decide (y = "default") && notStar ea && chkE sc a ea && chkE sc b eb
    | _ => false)
  | .bi b l, e => (match unFn e with
    | some (x, es) => plainBi b && decide (x = Str.ofString (biNm b)) && glB sc x && es.all notStar && !es.isEmpty && chkR sc l es
    | none => false)
  | .bm .index o (.cons a .nil), e => (match unMeth e with
    | some (eo, m, [ea], p, q) => decide (m = "index") && notCall eo && (p.endLine == q.line) && notStar ea && chkE sc o eo && chkE sc a ea
    | _ => false)
  | .bm .get2 o (.cons a (.cons b .nil)), e => (match unMeth e with
    | some (eo, m, [ea, eb], p, q) => decide (m = "get") && notCall eo && (p.endLine == q.line) && notStar ea && notStar eb && chkE sc o eo && chkE sc a ea && chkE sc b eb
    | _ => false)
  | .mut .append i (.cons a .nil), e => (match unMeth e with
    | some (eo, m, [ea], p, q) => decide (m = "append") && notCall eo && (p.endLine == q.line) && notStar ea && varB Ns sc i eo && chkE sc a ea
    | _ => false)
  | .mut .extend i (.cons a .nil), e => (match unMeth e with
    | some (eo, m, [ea], p, q) => decide (m = "extend") && notCall eo && (p.endLine == q.line) && notStar ea && varB Ns sc i eo && chkE sc a ea
    | _ => false)
  | .mut .insert i (.cons k (.cons a .nil)), e => (match unMeth e with
    | some (eo, m, [ek, ea], p, q) => decide (m = "insert") && notCall eo && (p.endLine == q.line) && notStar ek && notStar ea && varB Ns sc i eo && chkE sc k ek && chkE sc a ea
    | _ => false)
  | .comp e t it c vs, x => (match unLc x with
    | some (elt, tg, iter, ifs, sc', _) => blkC Ns sc sc' (ownOf Ns vs) && (tgSlots t).all (fun i => vs.elem i) && tgB Ns sc' t tg && notSet iter && chkI sc it tg iter && chkC (relS sc' sc) c ifs && chkE (relS sc' sc) e elt
    | none => false)
  | _, _ => false
def chkT (sc : Scope) : E → Expr → Bool
  | .nil, _ => true
  | .and a b, e => (match unBool e with
    | some (.And, l :: [r], _) => chkT sc a l && chkT sc b r
    | some (.And, l :: r :: rs, p) => chkT sc a l && chkT sc b (.BoolOp .And (r :: rs) p)
    | _ => false)
  | .or a b, e => (match unBool e with
    | some (.Or, l :: [r], _) => chkT sc a l && chkT sc b r
    | some (.Or, l :: r :: rs, p) => chkT sc a l && chkT sc b (.BoolOp .Or (r :: rs) p)
    | _ => false)
  | .not a, e => (match unUn e with
    | some (.Not, r) => chkT sc a r
    | _ => false)
  | .cmp .isN a _, e => (match unCmp e with
    | some (l, [.Is], [r]) => chkE sc a l && noneB r
    | _ => false)
  | .cmp .notN a _, e => (match unCmp e with
    | some (l, [.IsNot], [r]) => chkE sc a l && noneB r
    | _ => false)
  | .cmp o a b, e => (match unCmp e with
    | some (l, [op], [r]) => decide (op = cpOf o) && !isNb o && behB op r && chkE sc a l && chkE sc b r
    | _ => false)
  | .cmp2 o o' a b d, e => (match unCmp e with
    | some (l, [op, op'], [r, r']) => decide (op = cpOf o) && decide (op' = cpOf o') && !isNb o && !isNb o' && !lastMarks [op, op'] [r, r'] && chkE sc a l && chkE sc b r && chkE sc d r'
    | _ => false)
  | .tval a, e => plainTest e && chkE sc a e
  | _, _ => false
def chkL (sc : Scope) : E → List Expr → Bool
  | .nil, [] => true
  | .cons a b, e :: es => notStar e && chkE sc a e && chkL sc b es
  | _, _ => false
def chkR (sc : Scope) : E → List Expr → Bool
  | .nil, [] => true
  | .cons a b, e :: es => notStar e && chkE sc a e && chkR sc b es
  | _, _ => false
def chkA (sc : Scope) : E → List Expr → Bool
  | .nil, [] => true
  | .cons a b, e :: es => notStar e && chkE sc a e && chkA sc b es
  | _, _ => false
def chkO (sc : Scope) : E → Option Expr → Bool
  | .nil, none => true
  | .tval a, some e => chkE sc a e
  | _, _ => false
def chkC (sc : Scope) : E → List Expr → Bool
  | .nil, [] => true
  | .cons a _, [e] => chkT sc a e
  | _, _ => false
def chkI (sc : Scope) : E → Expr → Expr → Bool
  | .isq a, _, e => chkE sc a e
  | .rng1 a, _, e => (match unFn e with
    | some (x, [ea]) => decide (x = "range") && glB sc x && notStar ea && chkE sc a ea
    | _ => false)
  | .rng2 a b, _, e => (match unFn e with
    | some (x, [ea, eb]) => decide (x = "range") && glB sc x && notStar ea && notStar eb && chkE sc a ea && chkE sc b eb
    | _ => false)
  | .rng3 a b d, _, e => (match unFn e with
    | some (x, [ea, eb, ed]) => decide (x = "range") && glB sc x && notStar ea && notStar eb && notStar ed && chkE sc a ea && chkE sc b eb && chkE sc d ed
    | _ => false)
  | .enum a, tg, e => (match unTup tg, unFn e with
    | some _, some (x, [ea]) => decide (x = "enumerate") && glB sc x && notStar ea && chkE sc a ea
    | _, _ => false)
  | .zip a b, tg, e => (match unTup tg, unFn e with
    | some _, some (x, [ea, eb]) => decide (x = "zip") && glB sc x && notStar ea && notStar eb && chkE sc a ea && chkE sc b eb
    | _, _ => false)
  | .zipN a b, tg, e => (match unName tg, unFn e with
    | some _, some (x, [ea, eb]) => decide (x = "zip") && glB sc x && notStar ea && notStar eb && chkE sc a ea && chkE sc b eb
    | _, _ => false)
  | .rev a, _, e => (match unFn e with
    | some (x, [ea]) => decide (x = "reversed") && glB sc x && notStar ea && chkE sc a ea
    | _ => false)
  | _, _, _ => false
end
end
end PX

end

section
set_option Elab.async false
set_option linter.all false
set_option autoImplicit false
set_option maxRecDepth 100000
namespace PX
open PySem PySem.Spec PyProof.Rows L2
section
variable {X : Cx} {o e : Expr} {es : List Expr} {to te : TE} {ta : TA} {f : Str} {p p' p1 p2 pos : Pos}
/-- R.__init__(self, ..), R an own class over ValueError without an own __init__ -/
theorem pe_rinit {x : Str} {R : Addr} (hg : Gl X x) (hm : X.mg x = some (.ref R)) (hr : PySem.W.readsIn X.K R (.type "type") = true) (hga : PySem.W.specialIn X.K (.ref R) "__getattribute__" = some (some (.builtin "type.__getattribute__")))
    (vV : PySem.W.findCls X.K (.ref R) (.type "type") "__init__" = some (.val (.builtin "ValueError.__init__"))) (hdb : (x == ("__debug__" : Str)) = false) (ha : PA X (e :: es) ta) (hn : (e :: es).all notStar = true) (hl : (e :: es).length < 30) (hline : (p2.endLine == pos.line) = true) :
    PE X (.Call (.Attribute (.Name x p1) "__init__" p2) (e :: es) [] pos) (tVeI X.K ta) := by
  refine ⟨fun pins s σ H Q I h => ?_⟩
  refine PySem.W.methodCall_KW (ld_glob I hg hm ?_ hdb) (meth_eval rfl hn hl hline)
  rw [List.all_cons, Bool.and_eq_true] at hn
  refine PySem.W.method_cls I.kIn hga (PySem.W.cls_value I.kIn hr vV (by decide +kernel) ?_)
  refine PyProof.Rows.callWith_method1 (thn (ha.run pos pins _ σ H _ (I.tok _) h) fun us s1 ⟨vs, H1, I1, r1, a, C, ws, ev, hl, T, ea, q⟩ => ?_) (star_cons hn.1 es _) (star_any hn.2)
  subst ev
  cases r1 with
  | @cons _ u0 _ ur ra rw' =>
    obtain rfl : u0 = Value.ref a := ra
    have hlen : ur.length ≤ sizeLine := by
      rw [← Paired.length rw', sizeLine_eq]
      omega
    exact oinit_ok T I1 ea hlen fun s' J => ⟨.non, H1, J, rfl, q⟩
/-- the fields as they are laid, the last ahead -/
def laidF : List Str → List V → List (Str × V) → List (Str × V)
  | f :: fs, v :: vs, acc => laidF fs vs ((f, v) :: acc)
  | _, _, acc => acc
/-- what an own exception's __init__ does -/
def spX (K : PySem.W.Frag) (C : Addr) (fs : List Str) : Sp := fun vs H Q _ => ∃ (a : Addr) (ws : List V), vs = .ref a :: ws ∧ ws.length = fs.length ∧ H a = some (exo a C none) ∧ OexC K C ∧ ∀ d, H d = none → d ≠ a →
  ∀ H2, (∀ b, b ≠ a → b ≠ d → H2 b = H b) → H2 a = some (exo a C (some d)) → H2 d = some (exd d (laidF fs ws [])) → Q .non H2
/-- self.f = p, one after another: the slots from i on -/
inductive IniS (X : Cx) : Nat → List Str → List Stmt → Prop where
  | nil {i : Nat} : IniS X i [] []
  | cons {i : Nat} {f : Str} {fs : List Str} {es ep : Expr} {p' p : Pos} {sts : List Stmt} (hs : PE X es (tVar 0)) (hp : PE X ep (tVar i)) (hn : notName (.Attribute es f p') = true) (hr : IniS X (i + 1) fs sts) : IniS X i (f :: fs) (.Assign [.Attribute es f p'] ep p :: sts)
/-- the fields from the second on -/
theorem ini_more {C : Addr} (T : OexC X.K C) : ∀ {i : Nat} {fs : List Str} {sts : List Stmt}, IniS X i fs sts → (∀ f ∈ fs, PySem.W.findIn X.K (.ref C) f = some none) → fs.length ≤ 100 → ∃ t : TS, PSs X sts t ∧ ∀ (D : Ends) (σ : L2.St) (H : Hp) (a d : Addr) (ws : List V) (acc : List (Str × V)),
    σ[0]? = some (some (.ref a)) → ws.length = fs.length → (∀ j w, ws[j]? = some w → σ[i + j]? = some (some w)) → H a = some (exo a C (some d)) → H d = some (exd d acc) → d ≠ a → acc.length + fs.length ≤ 800 →
    (∀ H2, (∀ b, b ≠ a → b ≠ d → H2 b = H b) → H2 a = some (exo a C (some d)) → H2 d = some (exd d (laidF fs ws acc)) → D.nx σ H2) → t D σ H
  | i, [], _, .nil, _, _ => ⟨_, pss_nil, fun D σ H a d ws acc _ hw _ ea ed _ _ k => by
    have : ws = [] := List.eq_nil_of_length_eq_zero hw
    subst this
    exact k H (fun _ _ _ => rfl) ea ed⟩
  | i, f :: fs, _, .cons hs hp hn hr, hno, hlen => by
    obtain ⟨t, pt, kt⟩ := ini_more T hr (fun g hg => hno g (List.mem_cons_of_mem _ hg)) (by simp at hlen; omega)
    refine ⟨_, pss_cons (ps_ost hs hp (swaps_t rfl)) pt, fun D σ H a d ws acc h0 hw hws ea ed hda hl k => ?_⟩
    cases ws with
    | nil => simp at hw
    | cons w ws =>
      refine ⟨w, by simpa using hws 0 w rfl, .ref a, h0, a, C, rfl, T, hno f List.mem_cons_self, .inr ⟨d, acc, ea, ed, by simp at hl; omega, ?_⟩⟩
      refine kt D σ _ a d ws ((f, w) :: acc) h0 (by simpa using hw) (fun j v hv => ?_) (by rw [upd_ne (Ne.symm hda)]; exact ea) upd_same hda (by simp at hl ⊢; omega) fun H2 g1 g2 g3 => k H2 (fun b h1 h2 => by rw [g1 b h1 h2, upd_ne h2]) g2 g3
      have := hws (j + 1) v (by simpa using hv)
      rw [show i + 1 + j = i + (j + 1) by omega]
      exact this
/-- the whole __init__: the base's, then the fields -/
theorem ini_all {C : Addr} (T : OexC X.K C) {f : Str} {fs : List Str} {es ep ei : Expr} {p' p pe : Pos} {sts : List Stmt} {m : Str} (h1 : PE X ei (tVeI X.K (tCons (tVar 0) (tCons (tC (.str m)) tNil)))) (hn : notComp ei = true) (hs : PE X es (tVar 0)) (hp : PE X ep (tVar 1)) (hr : IniS X 2 fs sts)
    (hno : ∀ g ∈ f :: fs, PySem.W.findIn X.K (.ref C) g = some none) (hlen : fs.length ≤ 90) : ∃ t : TS, PSs X (.Expr ei pe :: .Assign [.Attribute es f p'] ep p :: sts) t ∧ ∀ (Ns : List Str) (vs : List V) (H : Hp) (Q : VK) (E : XK), spX X.K C (f :: fs) vs H Q E →
      t { nx := fun _ H' => Q .non H', rt := Q } (L2.start Ns vs) H := by
  obtain ⟨t, pt, kt⟩ := ini_more T hr (fun g hg => hno g (List.mem_cons_of_mem _ hg)) (by omega)
  refine ⟨_, pss_cons (ps_expr h1 (swaps_no hn)) (pss_cons (ps_ost hs hp (swaps_t rfl)) pt), fun Ns vs H Q E h => ?_⟩
  obtain ⟨a, ws, rfl, hl, ea, _, k⟩ := h
  cases ws with
  | nil => simp at hl
  | cons w ws =>
    have h0 : (L2.start Ns (.ref a :: w :: ws))[0]? = some (some (.ref a)) := start_get rfl
    have hw : (L2.start Ns (.ref a :: w :: ws))[1]? = some (some w) := start_get rfl
    refine ⟨_, h0, a, C, [.str m], rfl, by simp, T, ea, w, hw, .ref a, h0, a, C, rfl, T, hno f List.mem_cons_self, .inl ⟨ea, fun d hd hda => ?_⟩⟩
    refine kt _ _ _ a d ws [(f, w)] h0 (by simpa using hl) (fun j v hv => ?_) upd_same (by rw [upd_ne hda]; exact upd_same) hda (by simp; omega) fun H2 g1 g2 g3 => ?_
    · exact start_get (by rw [show 2 + j = (j + 1) + 1 by omega]; simpa using hv)
    · exact k d hd hda H2 (fun b h1 h2 => by rw [g1 b h1 h2, upd_ne h1, upd_ne h2]) g2 g3
theorem laidF_look : ∀ {fs : List Str} {ws : List V} {acc : List (Str × V)} {i : Nat} {f : Str} {v : V}, fs.Nodup → fs[i]? = some f → ws[i]? = some v → (∀ g ∈ fs, acc.lookup g = none ∨ True) → (laidF fs ws acc).lookup f = some v ∨ ws.length < fs.length
  | [], _, _, _, _, _, _, h, _, _ => by simp at h
  | _ :: _, [], _, _, _, _, _, _, h, _ => by simp at h
  | g :: fs, w :: ws, acc, 0, f, v, nd, h1, h2, _ => by
    simp at h1 h2
    subst h1 h2
    have keep : ∀ (fs : List Str) (ws : List V) (acc : List (Str × V)), g ∉ fs → acc.lookup g = some w → (laidF fs ws acc).lookup g = some w := fun fs => by
      induction fs with
      | nil => intro ws acc _ h; exact h
      | cons k fs ih =>
        intro ws acc hk h
        cases ws with
        | nil => exact h
        | cons z ws =>
          refine ih ws ((k, z) :: acc) (fun m => hk (List.mem_cons_of_mem _ m)) ?_
          have : (g == k) = false := by
            rw [beq_eq_false_iff_ne]
            exact fun e => hk (e ▸ List.mem_cons_self)
          rw [List.lookup, this]
          exact h
    exact .inl (keep fs ws ((g, w) :: acc) (List.nodup_cons.mp nd).1 (by simp [List.lookup]))
  | g :: fs, w :: ws, acc, i + 1, f, v, nd, h1, h2, _ => by
    rcases laidF_look (acc := (g, w) :: acc) (i := i) (List.nodup_cons.mp nd).2 (by simpa using h1) (by simpa using h2) (fun _ _ => .inr trivial) with z | z
    · exact .inl z
    · exact .inr (by simpa using z)
end
end PX

end

section
set_option Elab.async false
set_option linter.all false
set_option autoImplicit false
set_option maxRecDepth 100000
namespace PX
open PySem PySem.Spec PyProof.Rows L2
/-- names of built-ins that a text leaves alone -/
def BN : List String := ["len", "tuple", "list", "int", "bool", "str", "abs", "min", "max", "sum", "any", "all", "sorted", "isinstance", "repr", "range", "enumerate", "zip", "reversed", "dict", "ValueError"]
/-- what the text's own exception classes are, R the base of all -/
structure XcOk (N : Nm) (nx : Nat) (R : Addr) : Prop where
  oex : ∀ c, c < nx → OexC N.K (N.exc c)
  xf : ∀ c, c < nx → XfC N.K (N.exc c)
  ca : ∀ c, c < nx → PySem.W.findIn N.K (.ref (N.exc c)) "__class__" = some (some (.builtin "object.__class__"))
  hn : PySem.W.specialIn N.K (.builtin "object.__class__") "__get__" = some (some (.builtin "getset_descriptor.__get__"))
  ht : PySem.W.takesIn N.K (.builtin "object.__class__") = some true
  hm : ∀ c, c < nx → PySem.W.mroIn N.K (N.exc c) (.type "object") = some true
  nof : ∀ c, c < nx → ∀ f ∈ N.xfs c, PySem.W.findIn N.K (.ref (N.exc c)) f = some none
  nd : ∀ c, c < nx → (N.xfs c).Nodup
  len : ∀ c, c < nx → (N.xfs c).length ≤ 90
  one : ∀ c c', c < nx → c' < nx → PySem.W.kitOne N.K (.ref (N.exc c)) (.ref (N.exc c')) = some (c == c')
  ve : ∀ c, c < nx → PySem.W.kitOne N.K (.ref (N.exc c)) (.type "ValueError") = some true
  exB : ∀ c, c < nx → PySem.W.exmOne N.K (.ref (N.exc c)) (.ref R) = some true
  exO : ∀ c c', c < nx → c' < nx → PySem.W.exmOne N.K (.ref (N.exc c)) (.ref (N.exc c')) = some (c == c')
/-- what making one of the text's exceptions asks of the context -/
structure ExI (N : Nm) (X : Cx) (k c : Nat) : Prop where
  fn : ∃ (fI : Addr) (fd : FuncData) (ps : List Str), PySem.W.findIn N.K (.ref (N.exc c)) "__init__" = some (some (.ref fI)) ∧ PySem.W.typeIn N.K (.ref fI) = some (.type "function") ∧
    FnG X.prog X.w X.K X.mg X.base (L2.CX X.prog X.w) k fI fd ps (spX N.K (N.exc c) (N.xfs c)) ∧ Binds X.K fd ps []
/-- what a context is to the text -/
structure XOk (tx : Tx) (N : Nm) (nf : Nat) (C : Call) (G : Nat → D) (k : Nat) (Ns : List Str) (X : Cx) (rs sc : Scope) (Wx : WX) : Prop where
  hK : X.K = N.K
  hP : X.prog = N.P
  hw : X.w = N.w
  calm : X.calm = true
  room : RoomG (k + 1) X.A
  hN : X.N = Ns
  nd : Ns.Nodup
  hsc : X.env.scope = sc
  fn : ∀ x, Loc rs x → Loc X.env.scope x ∧ (X.fn x = true ∨ X.env.scope.names.lookup x = some .local)
  tk : Takes X Wx
  free : ∀ x ∈ BN, X.mg (Str.ofString x) = none
  fns : ∀ (f : Nat) (x : Str), tx.fn[f]? = some (some x) → ∃ fa, X.mg x = some (.ref fa) ∧ PySem.W.keepIn X.K (.ref fa) = true ∧ FOk N C X k f fa []
  mes : ∀ (f c : Nat) (m : Str), tx.me[f]? = some (some (c, m)) → ∃ fa, Cls N.K (N.cls c) ∧ Meth N.K (N.cls c) m fa ∧ FOk N C X k f fa [] ∧ ∀ g, N.fld g ≠ m
  cls : ∀ (c f : Nat) (x : Str), tx.cl[c]? = some (x, f) → ∃ fa, X.mg x = some (.ref (N.cls c)) ∧ Mk N.K (N.cls c) fa ∧ FOk N C X k f fa []
  gls : ∀ (k : Nat) (x : Str), tx.gl[k]? = some x → ∃ u v, X.mg x = some u ∧ RelV v u ∧ ∀ H W, Rep N H W (G k) v
  fls : ∀ (f : Nat) (x : Str), tx.fl[f]? = some x → x = N.fld f ∧ f < nf
  nm : NmOk N nf
  xc : ∃ R, XcOk N tx.ex.length R ∧ X.mg tx.xb = some (.ref R)
  exg : ∀ (c : Nat) (x : Str), tx.ex[c]? = some x → X.mg x = some (.ref (N.exc c))
  xfs : ∀ (c : Nat) (l : List Str), tx.xf[c]? = some l → N.xfs c = l
  exi : ∀ (c : Nat) (l : List Str), c < tx.ex.length → tx.xf[c]? = some l → l ≠ [] → ExI N X k c
section
variable {tx : Tx} {N : Nm} {nf : Nat} {C : Call} {G : Nat → D} {k : Nat} {Ns : List Str} {X : Cx} {rs sc : Scope} {Wx : WX}
theorem XOk.units (ok : XOk tx N nf C G k Ns X rs sc Wx) : X.A.units + 128 < cLine := by
  have := ok.room.room.un
  omega
theorem XOk.blk (ok : XOk tx N nf C G k Ns X rs sc Wx) (s : Shared) (H : Hp) (sc' : Scope) (cl : List (Str × Addr)) (Ca : Addr) (fp : List Addr) : XOk tx N nf C G k Ns (X.blk s H sc' (compEnvC sc' cl Ca X.env) fp) sc' (relS sc' sc) WF := by
  have e : (compEnvC sc' cl Ca X.env).scope = relS sc' sc := by rw [← ok.hsc] <;> rfl
  refine ⟨ok.hK, ok.hP, ok.hw, ok.calm, ok.room, ok.hN, ok.nd, e, fun x h => ?_, takes0, ok.free, fun f x h => let ⟨fa, a, b, c⟩ := ok.fns f x h; ⟨fa, a, b, ⟨c.fn⟩⟩,
    fun f c m h => let ⟨fa, a, b, d, e⟩ := ok.mes f c m h; ⟨fa, a, b, ⟨d.fn⟩, e⟩, fun c f x h => let ⟨fa, a, b, d⟩ := ok.cls c f x h; ⟨fa, a, b, ⟨d.fn⟩⟩, ok.gls, ok.fls, ok.nm, ok.xc, ok.exg, ok.xfs, fun c l h1 h2 h3 => let ⟨h⟩ := ok.exi c l h1 h2 h3; ⟨h⟩⟩
  have keep : ∀ {k : NameKind}, k ≠ .free → sc'.names.lookup x = some k → (compEnvC sc' cl Ca X.env).scope.names.lookup x = some k := fun {k} hk h => by
    rw [e]
    exact lookup_relS_keep hk h
  rcases h with h | h
  · have q := keep (by decide) h
    exact ⟨.inl q, .inr q⟩
  · have q := keep (by decide) h
    exact ⟨.inr q, .inl (by show (sc'.names.lookup x == some .cell) = true; rw [h] <;> rfl)⟩
theorem XOk.gl (ok : XOk tx N nf C G k Ns X rs sc Wx) {x : Str} (h : glB sc x = true) : Gl X x := by
  have := glB_of h
  rw [← ok.hsc] at this
  exact this
theorem XOk.var (ok : XOk tx N nf C G k Ns X rs sc Wx) {i : Nat} {e : Expr} (h : varB Ns sc i e = true) : PE X e (tVar i) := by
  unfold varB at h
  cases q : unName e with
  | none => rw [q] at h; cases h
  | some x =>
    rw [q] at h
    obtain ⟨p, rfl⟩ := unName_of q
    simp only [Bool.and_eq_true, Bool.not_eq_true', slotB, decide_eq_true_eq, dbgB, Bool.or_eq_false_iff] at h
    exact pe_var (by rw [ok.hN]; exact h.1.1) (by rw [ok.hsc]; exact visB_of h.1.2) h.2.1 h.2.2
theorem XOk.store (ok : XOk tx N nf C G k Ns X rs sc Wx) {x : Str} (h : locB rs x = true) : Loc X.env.scope x ∧ (X.fn x = true ∨ X.env.scope.names.lookup x = some .local) := ok.fn x (locB_of h)
theorem XOk.names (ok : XOk tx N nf C G k Ns X rs sc Wx) : ∀ {es : List Expr} {l : List Nat}, nmB Ns rs es l = true → NmEs X es l
  | [], [], _ => .nil
  | [], _ :: _, h => nomatch h
  | _ :: _, [], h => nomatch h
  | e :: es, i :: l, h => by
    have h' : ((match unName e with
      | some x => slotB Ns i x && locB rs x
      | none => false) && nmB Ns rs es l) = true := h
    rw [Bool.and_eq_true] at h'
    obtain ⟨h1, h2⟩ := h'
    cases q : unName e with
    | none => rw [q] at h1; cases h1
    | some x =>
      rw [q] at h1
      obtain ⟨p, rfl⟩ := unName_of q
      simp only [Bool.and_eq_true, slotB, decide_eq_true_eq] at h1
      obtain ⟨a, b⟩ := ok.store h1.2
      exact .cons (by rw [ok.hN]; exact h1.1) a b (ok.names h2)
theorem XOk.target (ok : XOk tx N nf C G k Ns X rs sc Wx) {t : Tg} {e : Expr} (h : tgB Ns rs t e = true) : PG X e (TGt N t) := by
  cases t with
  | name i =>
    have h' : (match unName e with
      | some x => slotB Ns i x && locB rs x
      | none => false) = true := h
    cases q : unName e with
    | none => rw [q] at h'; cases h'
    | some x =>
      rw [q] at h'
      obtain ⟨p, rfl⟩ := unName_of q
      simp only [Bool.and_eq_true, slotB, decide_eq_true_eq] at h'
      obtain ⟨a, b⟩ := ok.store h'.2
      exact g_name (by rw [ok.hN]; exact ok.nd) (by rw [ok.hN]; exact h'.1) a b
  | tup l =>
    have h' : (match unTup e with
      | some es => nmB Ns rs es l
      | none => false) = true := h
    cases q : unTup e with
    | none => rw [q] at h'; cases h'
    | some es =>
      rw [q] at h'
      obtain ⟨_, _, rfl⟩ := unTup_of q
      exact g_tup ok.hK ok.calm (by rw [ok.hN]; exact ok.nd) (ok.names h')
theorem XOk.tys (ok : XOk tx N nf C G k Ns X rs sc Wx) : ∀ {es : List Expr} {ts : List Ty}, tyEs sc es ts = true → TyEs X es ts
  | [], [], _ => .nil
  | [], _ :: _, h => nomatch h
  | _ :: _, [], h => nomatch h
  | e :: es, t :: ts, h => by
    have h' : ((match unName e with
      | some x => decide (x = Str.ofString (tyNm t)) && glB sc x
      | none => false) && tyEs sc es ts) = true := h
    rw [Bool.and_eq_true] at h'
    obtain ⟨h1, h2⟩ := h'
    cases q : unName e with
    | none => rw [q] at h1; cases h1
    | some x =>
      rw [q] at h1
      obtain ⟨p, rfl⟩ := unName_of q
      simp only [Bool.and_eq_true, decide_eq_true_eq] at h1
      refine .cons h1.1 (ok.gl h1.2) ?_ (ok.tys h2)
      rw [h1.1]
      exact ok.free _ (by cases t <;> decide)
theorem plain_of {e : Expr} (h : plainTest e = true) (env : Env) : ∀ whole, isTrue e env whole = (do let v ← whole; standAt e.pos; holding [v] (truthy v)) := by
  intro w
  cases e with
  | UnaryOp o a p => cases o <;> first | rfl | cases h
  | BoolOp _ _ _ => cases h
  | IfExp _ _ _ _ => cases h
  | Compare _ _ _ _ => cases h
  | _ => rfl
theorem set_of {e : Expr} (h : notSet e = true) (env : Env) : ∀ x, foldedSetIterable e env x = pure x := by
  intro x
  cases e <;> first | rfl | cases h
variable (tx N nf C G k Ns) in
/-- the checker's word on a piece -/
structure Snd (a : E) : Prop where
  e : ∀ {X : Cx} {rs sc : Scope} {Wx : WX} (ok : XOk tx N nf C G k Ns X rs sc Wx) (e : Expr), chkE tx Ns sc a e = true → Rdr N Wx X e a (ev C G a)
  t : ∀ {X : Cx} {rs sc : Scope} {Wx : WX} (ok : XOk tx N nf C G k Ns X rs sc Wx) (e : Expr), chkT tx Ns sc a e = true → PT X e (TTt N Wx (evT C G a)) ∧ ((∃ o es p, e = .BoolOp o es p) → PW X e (TTt N Wx (evT C G a)))
  l : ∀ {X : Cx} {rs sc : Scope} {Wx : WX} (ok : XOk tx N nf C G k Ns X rs sc Wx) (es : List Expr), chkL tx Ns sc a es = true → PA X es (TAs N Wx (evs C G a))
  r : ∀ {X : Cx} {rs sc : Scope} {Wx : WX} (ok : XOk tx N nf C G k Ns X rs sc Wx) (es : List Expr), chkR tx Ns sc a es = true → PA X es (TRs N Wx (evRs C G a))
  A : ∀ {X : Cx} {rs sc : Scope} {Wx : WX} (ok : XOk tx N nf C G k Ns X rs sc Wx) (es : List Expr), chkA tx Ns sc a es = true → PA X es (TAr N Wx (evA C G a) []) ∧ (es = [] → a = .nil)
  o : ∀ {X : Cx} {rs sc : Scope} {Wx : WX} (ok : XOk tx N nf C G k Ns X rs sc Wx) (es : Option Expr), chkO tx Ns sc a es = true → PO X es (TPo N Wx (evO C G a))
  c : ∀ {X : Cx} {rs sc : Scope} (ok : XOk tx N nf C G k Ns X rs sc WF) (es : List Expr), chkC tx Ns sc a es = true → PTs X es (TTt N WF (evC C G a))
  i : ∀ {X : Cx} {rs sc : Scope} {Wx : WX} (ok : XOk tx N nf C G k Ns X rs sc Wx) (tg e : Expr), chkI tx Ns sc a tg e = true → PI X tg e (TIt N Wx (evI C G a))
end
end PX

end

section
set_option Elab.async false
set_option linter.all false
set_option autoImplicit false
set_option maxRecDepth 100000
set_option maxHeartbeats 2000000
namespace PX
open PySem PySem.Spec PyProof.Rows L2
section
variable {tx : Tx} {N : Nm} {nf : Nat} {C : Call} {G : Nat → D} {k : Nat} {Ns : List Str} {X : Cx} {rs sc : Scope} {Wx : WX}
theorem noneB_of {e : Expr} (h : noneB e = true) : ∃ k p, e = .Constant .none k p := by
  unfold noneB at h
  split at h
  · rename_i q; exact unConst_of q
  · cases h
theorem r_never (e : Expr) : Rdr N Wx X e .nil (ev C G .nil) := r_of ⟨fun _ _ _ _ _ _ ⟨_, _, _, c⟩ => c.elim⟩ fun _ e => nomatch e
theorem t_never (e : Expr) : PT X e (TTt N Wx (evT C G .nil)) ∧ ((∃ o es p, e = .BoolOp o es p) → PW X e (TTt N Wx (evT C G .nil))) := ⟨⟨fun _ _ _ _ _ _ ⟨_, _, _, c⟩ => c.elim⟩, fun _ => ⟨fun _ _ _ _ _ _ _ ⟨_, _, _, c⟩ => c.elim⟩⟩
/-- a test that is no BoolOp -/
theorem pt_only {e : Expr} {t : TT} (h : PT X e t) (n : ∀ o es p, e ≠ .BoolOp o es p) : PT X e t ∧ ((∃ o es p, e = .BoolOp o es p) → PW X e t) := ⟨h, fun ⟨o, es, p, z⟩ => absurd z (n o es p)⟩
theorem e_none (ok : XOk tx N nf C G k Ns X rs sc Wx) (e : Expr) (h : chkE tx Ns sc .none e = true) : Rdr N Wx X e .none (ev C G .none) := by
  obtain ⟨_, _, rfl⟩ := noneB_of (show noneB e = true from h)
  exact r_none C G
theorem e_bool {b : Bool} (ok : XOk tx N nf C G k Ns X rs sc Wx) (e : Expr) (h : chkE tx Ns sc (.bool b) e = true) : Rdr N Wx X e (.bool b) (ev C G (.bool b)) := by
  obtain ⟨_, _, rfl⟩ := unConst_of (of_decide_eq_true (show decide (unConst e = some (.bool b)) = true from h))
  exact r_bool C G
theorem e_int {b : Int} (ok : XOk tx N nf C G k Ns X rs sc Wx) (e : Expr) (h : chkE tx Ns sc (.int b) e = true) : Rdr N Wx X e (.int b) (ev C G (.int b)) := by
  obtain ⟨_, _, rfl⟩ := unConst_of (of_decide_eq_true (show decide (unConst e = some (.int b)) = true from h))
  exact r_int C G
theorem e_str {b : Str} (ok : XOk tx N nf C G k Ns X rs sc Wx) (e : Expr) (h : chkE tx Ns sc (.str b) e = true) : Rdr N Wx X e (.str b) (ev C G (.str b)) := by
  obtain ⟨_, _, rfl⟩ := unConst_of (of_decide_eq_true (show decide (unConst e = some (.str b)) = true from h))
  exact r_str C G
theorem e_glob {j : Nat} (ok : XOk tx N nf C G k Ns X rs sc Wx) (e : Expr) (h : chkE tx Ns sc (.glob j) e = true) : Rdr N Wx X e (.glob j) (ev C G (.glob j)) := by
  have h' : (match unName e with
    | some x => decide (tx.gl[j]? = some x) && glB sc x && !dbgB x
    | none => false) = true := h
  split at h'
  · rename_i x q
    obtain ⟨p, rfl⟩ := unName_of q
    simp only [Bool.and_eq_true, decide_eq_true_eq, Bool.not_eq_true', dbgB, Bool.or_eq_false_iff] at h'
    obtain ⟨u, v, h1, h2, h3⟩ := ok.gls j x h'.1.1
    exact r_glob C G (ok.gl h'.1.2) h1 h2 h3 h'.2.1
  · cases h'
theorem e_bin {o : Op2} {a b : E} (sa : Snd tx N nf C G k Ns a) (sb : Snd tx N nf C G k Ns b) (ok : XOk tx N nf C G k Ns X rs sc Wx) (e : Expr) (h : chkE tx Ns sc (.bin o a b) e = true) : Rdr N Wx X e (.bin o a b) (ev C G (.bin o a b)) := by
  have h' : (match unBin e with
    | some (l, op, r) => decide (op = opOf o) && chkE tx Ns sc a l && chkE tx Ns sc b r
    | none => false) = true := h
  split at h'
  · rename_i l op r q
    obtain ⟨p, rfl⟩ := unBin_of q
    simp only [Bool.and_eq_true, decide_eq_true_eq] at h'
    obtain ⟨⟨rfl, h1⟩, h2⟩ := h'
    exact r_bin C G ok.hK (sa.e ok _ h1) (sb.e ok _ h2)
  · cases h'
theorem e_neg {a : E} (sa : Snd tx N nf C G k Ns a) (ok : XOk tx N nf C G k Ns X rs sc Wx) (e : Expr) (h : chkE tx Ns sc (.neg a) e = true) : Rdr N Wx X e (.neg a) (ev C G (.neg a)) := by
  have h' : (match unUn e with
    | some (.USub, r) => chkE tx Ns sc a r
    | _ => false) = true := h
  split at h'
  · rename_i r q
    obtain ⟨p, rfl⟩ := unUn_of q
    exact r_neg C G (sa.e ok _ h')
  · cases h'
theorem e_not {a : E} (sa : Snd tx N nf C G k Ns a) (ok : XOk tx N nf C G k Ns X rs sc Wx) (e : Expr) (h : chkE tx Ns sc (.not a) e = true) : Rdr N Wx X e (.not a) (ev C G (.not a)) := by
  have h' : (match unUn e with
    | some (.Not, r) => chkE tx Ns sc a r
    | _ => false) = true := h
  split at h'
  · rename_i r q
    obtain ⟨p, rfl⟩ := unUn_of q
    exact r_not C G ok.hK (sa.e ok _ h')
  · cases h'
theorem e_and {a b : E} (sa : Snd tx N nf C G k Ns a) (sb : Snd tx N nf C G k Ns b) (ok : XOk tx N nf C G k Ns X rs sc Wx) (e : Expr) (h : chkE tx Ns sc (.and a b) e = true) : Rdr N Wx X e (.and a b) (ev C G (.and a b)) := by
  have h' : (match unBool e with
    | some (.And, l :: [r], _) => chkE tx Ns sc a l && chkE tx Ns sc b r
    | some (.And, l :: r :: rs, p) => chkE tx Ns sc a l && chkE tx Ns sc b (.BoolOp .And (r :: rs) p)
    | _ => false) = true := h
  split at h'
  · rename_i l r p q
    rw [unBool_of q]
    rw [Bool.and_eq_true] at h'
    exact r_of (p_and C G ok.hK (sa.e ok _ h'.1) (pe_one (sb.e ok _ h'.2).ev)) fun _ e => nomatch e
  · rename_i l r rs' p _ q
    rw [unBool_of q]
    rw [Bool.and_eq_true] at h'
    exact r_of (p_and C G ok.hK (sa.e ok _ h'.1) (sb.e ok _ h'.2).ev) fun _ e => nomatch e
  · cases h'
theorem e_or {a b : E} (sa : Snd tx N nf C G k Ns a) (sb : Snd tx N nf C G k Ns b) (ok : XOk tx N nf C G k Ns X rs sc Wx) (e : Expr) (h : chkE tx Ns sc (.or a b) e = true) : Rdr N Wx X e (.or a b) (ev C G (.or a b)) := by
  have h' : (match unBool e with
    | some (.Or, l :: [r], _) => chkE tx Ns sc a l && chkE tx Ns sc b r
    | some (.Or, l :: r :: rs, p) => chkE tx Ns sc a l && chkE tx Ns sc b (.BoolOp .Or (r :: rs) p)
    | _ => false) = true := h
  split at h'
  · rename_i l r p q
    rw [unBool_of q]
    rw [Bool.and_eq_true] at h'
    exact r_of (p_or C G ok.hK (sa.e ok _ h'.1) (pe_one (sb.e ok _ h'.2).ev)) fun _ e => nomatch e
  · rename_i l r rs' p _ q
    rw [unBool_of q]
    rw [Bool.and_eq_true] at h'
    exact r_of (p_or C G ok.hK (sa.e ok _ h'.1) (sb.e ok _ h'.2).ev) fun _ e => nomatch e
  · cases h'
theorem t_and' {a b : E} (sa : Snd tx N nf C G k Ns a) (sb : Snd tx N nf C G k Ns b) (ok : XOk tx N nf C G k Ns X rs sc Wx) (e : Expr) (h : chkT tx Ns sc (.and a b) e = true) : PT X e (TTt N Wx (evT C G (.and a b))) ∧ ((∃ o es p, e = .BoolOp o es p) → PW X e (TTt N Wx (evT C G (.and a b)))) := by
  have h' : (match unBool e with
    | some (.And, l :: [r], _) => chkT tx Ns sc a l && chkT tx Ns sc b r
    | some (.And, l :: r :: rs, p) => chkT tx Ns sc a l && chkT tx Ns sc b (.BoolOp .And (r :: rs) p)
    | _ => false) = true := h
  split at h'
  · rename_i l r p q
    rw [unBool_of q]
    rw [Bool.and_eq_true] at h'
    have w := t_and C G (p := p) (sa.t ok _ h'.1).1 (pw_and1 (pos := p) (sb.t ok _ h'.2).1)
    exact ⟨w.pt, fun _ => w⟩
  · rename_i l r rs' p _ q
    rw [unBool_of q]
    rw [Bool.and_eq_true] at h'
    have w := t_and C G (p := p) (sa.t ok _ h'.1).1 ((sb.t ok _ h'.2).2 ⟨_, _, _, rfl⟩)
    exact ⟨w.pt, fun _ => w⟩
  · cases h'
theorem t_or' {a b : E} (sa : Snd tx N nf C G k Ns a) (sb : Snd tx N nf C G k Ns b) (ok : XOk tx N nf C G k Ns X rs sc Wx) (e : Expr) (h : chkT tx Ns sc (.or a b) e = true) : PT X e (TTt N Wx (evT C G (.or a b))) ∧ ((∃ o es p, e = .BoolOp o es p) → PW X e (TTt N Wx (evT C G (.or a b)))) := by
  have h' : (match unBool e with
    | some (.Or, l :: [r], _) => chkT tx Ns sc a l && chkT tx Ns sc b r
    | some (.Or, l :: r :: rs, p) => chkT tx Ns sc a l && chkT tx Ns sc b (.BoolOp .Or (r :: rs) p)
    | _ => false) = true := h
  split at h'
  · rename_i l r p q
    rw [unBool_of q]
    rw [Bool.and_eq_true] at h'
    have w := t_or C G (p := p) (sa.t ok _ h'.1).1 (pw_or1 (pos := p) (sb.t ok _ h'.2).1)
    exact ⟨w.pt, fun _ => w⟩
  · rename_i l r rs' p _ q
    rw [unBool_of q]
    rw [Bool.and_eq_true] at h'
    have w := t_or C G (p := p) (sa.t ok _ h'.1).1 ((sb.t ok _ h'.2).2 ⟨_, _, _, rfl⟩)
    exact ⟨w.pt, fun _ => w⟩
  · cases h'
theorem t_not' {a : E} (sa : Snd tx N nf C G k Ns a) (ok : XOk tx N nf C G k Ns X rs sc Wx) (e : Expr) (h : chkT tx Ns sc (.not a) e = true) : PT X e (TTt N Wx (evT C G (.not a))) ∧ ((∃ o es p, e = .BoolOp o es p) → PW X e (TTt N Wx (evT C G (.not a)))) := by
  have h' : (match unUn e with
    | some (.Not, r) => chkT tx Ns sc a r
    | _ => false) = true := h
  split at h'
  · rename_i r q
    obtain ⟨p, rfl⟩ := unUn_of q
    exact pt_only (t_not C G (sa.t ok _ h').1) fun _ _ _ e => nomatch e
  · cases h'
theorem t_val' {a : E} (sa : Snd tx N nf C G k Ns a) (ok : XOk tx N nf C G k Ns X rs sc Wx) (e : Expr) (h : chkT tx Ns sc (.tval a) e = true) : PT X e (TTt N Wx (evT C G (.tval a))) ∧ ((∃ o es p, e = .BoolOp o es p) → PW X e (TTt N Wx (evT C G (.tval a)))) := by
  have h' : (plainTest e && chkE tx Ns sc a e) = true := h
  rw [Bool.and_eq_true] at h'
  exact pt_only (t_val C G ok.hK (sa.e ok _ h'.2) (plain_of h'.1 _)) fun o es p z => by rw [z] at h'; exact absurd (show false = true from h'.1) Bool.false_ne_true
theorem is_of {a : E} {e : Expr} (h : (match unCmp e with
    | some (l, [.Is], [r]) => chkE tx Ns sc a l && noneB r
    | _ => false) = true) : ∃ l k p p', e = .Compare l [.Is] [.Constant .none k p'] p ∧ chkE tx Ns sc a l = true := by
  split at h
  · rename_i l r q
    obtain ⟨p, rfl⟩ := unCmp_of q
    rw [Bool.and_eq_true] at h
    obtain ⟨k, p', rfl⟩ := noneB_of h.2
    exact ⟨l, k, p, p', rfl, h.1⟩
  · cases h
theorem isnot_of {a : E} {e : Expr} (h : (match unCmp e with
    | some (l, [.IsNot], [r]) => chkE tx Ns sc a l && noneB r
    | _ => false) = true) : ∃ l k p p', e = .Compare l [.IsNot] [.Constant .none k p'] p ∧ chkE tx Ns sc a l = true := by
  split at h
  · rename_i l r q
    obtain ⟨p, rfl⟩ := unCmp_of q
    rw [Bool.and_eq_true] at h
    obtain ⟨k, p', rfl⟩ := noneB_of h.2
    exact ⟨l, k, p, p', rfl, h.1⟩
  · cases h
theorem cmp_of {o : Cp} {a b : E} {e : Expr} (h : (match unCmp e with
    | some (l, [op], [r]) => decide (op = cpOf o) && !isNb o && behB op r && chkE tx Ns sc a l && chkE tx Ns sc b r
    | _ => false) = true) : ∃ l r p, e = .Compare l [cpOf o] [r] p ∧ o ≠ .isN ∧ o ≠ .notN ∧ behindInMarks (cpOf o) r = false ∧ chkE tx Ns sc a l = true ∧ chkE tx Ns sc b r = true := by
  split at h
  · rename_i l op r q
    obtain ⟨p, rfl⟩ := unCmp_of q
    simp only [Bool.and_eq_true, decide_eq_true_eq, Bool.not_eq_true', behB] at h
    obtain ⟨⟨⟨⟨rfl, h1⟩, h2⟩, h3⟩, h4⟩ := h
    refine ⟨l, r, p, rfl, ?_, ?_, h2, h3, h4⟩
    · rintro rfl; cases h1
    · rintro rfl; cases h1
  · cases h
theorem e_cmp {o : Cp} {a b : E} (sa : Snd tx N nf C G k Ns a) (sb : Snd tx N nf C G k Ns b) (ok : XOk tx N nf C G k Ns X rs sc Wx) (e : Expr) (h : chkE tx Ns sc (.cmp o a b) e = true) : Rdr N Wx X e (.cmp o a b) (ev C G (.cmp o a b)) := by
  by_cases h1 : o = .isN
  · subst h1
    obtain ⟨l, k, p, p', rfl, hl⟩ := is_of (tx := tx) (Ns := Ns) (sc := sc) (a := a) h
    exact r_isN C G false (sa.e ok _ hl)
  by_cases h2 : o = .notN
  · subst h2
    obtain ⟨l, k, p, p', rfl, hl⟩ := isnot_of (tx := tx) (Ns := Ns) (sc := sc) (a := a) h
    exact r_isN C G true (sa.e ok _ hl)
  have h' : (match unCmp e with
    | some (l, [op], [r]) => decide (op = cpOf o) && !isNb o && behB op r && chkE tx Ns sc a l && chkE tx Ns sc b r
    | _ => false) = true := by
    cases o <;> first | exact h | exact absurd rfl h1 | exact absurd rfl h2
  obtain ⟨l, r, p, rfl, g1, g2, g3, g4, g5⟩ := cmp_of h'
  have := ok.units
  exact r_cmp C G ok.hK (by omega) g1 g2 g3 (sa.e ok _ g4) (sb.e ok _ g5)
theorem t_cmp' {o : Cp} {a b : E} (sa : Snd tx N nf C G k Ns a) (sb : Snd tx N nf C G k Ns b) (ok : XOk tx N nf C G k Ns X rs sc Wx) (e : Expr) (h : chkT tx Ns sc (.cmp o a b) e = true) : PT X e (TTt N Wx (evT C G (.cmp o a b))) ∧ ((∃ o es p, e = .BoolOp o es p) → PW X e (TTt N Wx (evT C G (.cmp o a b)))) := by
  by_cases h1 : o = .isN
  · subst h1
    obtain ⟨l, k, p, p', rfl, hl⟩ := is_of (tx := tx) (Ns := Ns) (sc := sc) (a := a) h
    exact pt_only (t_isN C G false (sa.e ok _ hl)) fun _ _ _ e => nomatch e
  by_cases h2 : o = .notN
  · subst h2
    obtain ⟨l, k, p, p', rfl, hl⟩ := isnot_of (tx := tx) (Ns := Ns) (sc := sc) (a := a) h
    exact pt_only (t_isN C G true (sa.e ok _ hl)) fun _ _ _ e => nomatch e
  have h' : (match unCmp e with
    | some (l, [op], [r]) => decide (op = cpOf o) && !isNb o && behB op r && chkE tx Ns sc a l && chkE tx Ns sc b r
    | _ => false) = true := by
    cases o <;> first | exact h | exact absurd rfl h1 | exact absurd rfl h2
  obtain ⟨l, r, p, rfl, g1, g2, g3, g4, g5⟩ := cmp_of h'
  have := ok.units
  exact pt_only (t_cmp C G ok.hK (by omega) g1 g2 g3 (sa.e ok _ g4) (sb.e ok _ g5)) fun _ _ _ e => nomatch e
theorem cmp2_of {o o' : Cp} {a b d : E} {e : Expr} (h : (match unCmp e with
    | some (l, [op, op'], [r, r']) => decide (op = cpOf o) && decide (op' = cpOf o') && !isNb o && !isNb o' && !lastMarks [op, op'] [r, r'] && chkE tx Ns sc a l && chkE tx Ns sc b r && chkE tx Ns sc d r'
    | _ => false) = true) : ∃ l r r' p, e = .Compare l [cpOf o, cpOf o'] [r, r'] p ∧ (o ≠ .isN ∧ o ≠ .notN ∧ o' ≠ .isN ∧ o' ≠ .notN) ∧ lastMarks [cpOf o, cpOf o'] [r, r'] = false ∧ chkE tx Ns sc a l = true ∧ chkE tx Ns sc b r = true ∧ chkE tx Ns sc d r' = true := by
  split at h
  · rename_i l op op' r r' q
    obtain ⟨p, rfl⟩ := unCmp_of q
    simp only [Bool.and_eq_true, decide_eq_true_eq, Bool.not_eq_true'] at h
    obtain ⟨⟨⟨⟨⟨⟨⟨rfl, rfl⟩, h1⟩, h2⟩, h3⟩, h4⟩, h5⟩, h6⟩ := h
    refine ⟨l, r, r', p, rfl, ⟨?_, ?_, ?_, ?_⟩, h3, h4, h5, h6⟩
    · rintro rfl; cases h1
    · rintro rfl; cases h1
    · rintro rfl; cases h2
    · rintro rfl; cases h2
  · cases h
theorem e_cmp2 {o o' : Cp} {a b d : E} (sa : Snd tx N nf C G k Ns a) (sb : Snd tx N nf C G k Ns b) (sd : Snd tx N nf C G k Ns d) (ok : XOk tx N nf C G k Ns X rs sc Wx) (e : Expr) (h : chkE tx Ns sc (.cmp2 o o' a b d) e = true) : Rdr N Wx X e (.cmp2 o o' a b d) (ev C G (.cmp2 o o' a b d)) := by
  obtain ⟨l, r, r', p, rfl, ⟨g1, g2, g3, g4⟩, g5, g6, g7, g8⟩ := cmp2_of (tx := tx) (Ns := Ns) (sc := sc) (o := o) (o' := o') (a := a) (b := b) (d := d) h
  have := ok.units
  exact r_cmp2 C G ok.hK (by omega) g1 g2 g3 g4 g5 (sa.e ok _ g6) (sb.e ok _ g7) (sd.e ok _ g8)
theorem t_cmp2' {o o' : Cp} {a b d : E} (sa : Snd tx N nf C G k Ns a) (sb : Snd tx N nf C G k Ns b) (sd : Snd tx N nf C G k Ns d) (ok : XOk tx N nf C G k Ns X rs sc Wx) (e : Expr) (h : chkT tx Ns sc (.cmp2 o o' a b d) e = true) : PT X e (TTt N Wx (evT C G (.cmp2 o o' a b d))) ∧ ((∃ o es p, e = .BoolOp o es p) → PW X e (TTt N Wx (evT C G (.cmp2 o o' a b d)))) := by
  obtain ⟨l, r, r', p, rfl, ⟨g1, g2, g3, g4⟩, g5, g6, g7, g8⟩ := cmp2_of (tx := tx) (Ns := Ns) (sc := sc) (o := o) (o' := o') (a := a) (b := b) (d := d) h
  have := ok.units
  exact pt_only (t_cmp2 C G ok.hK (by omega) g1 g2 g3 g4 g5 (sa.e ok _ g6) (sb.e ok _ g7) (sd.e ok _ g8)) fun _ _ _ e => nomatch e
theorem e_ite {t a b : E} (st : Snd tx N nf C G k Ns t) (sa : Snd tx N nf C G k Ns a) (sb : Snd tx N nf C G k Ns b) (ok : XOk tx N nf C G k Ns X rs sc Wx) (e : Expr) (h : chkE tx Ns sc (.ite t a b) e = true) : Rdr N Wx X e (.ite t a b) (ev C G (.ite t a b)) := by
  have h' : (match unIf e with
    | some (c, l, r) => chkT tx Ns sc t c && chkE tx Ns sc a l && chkE tx Ns sc b r
    | none => false) = true := h
  split at h'
  · rename_i c l r q
    obtain ⟨p, rfl⟩ := unIf_of q
    simp only [Bool.and_eq_true] at h'
    exact r_ite C G (st.t ok _ h'.1.1).1 (sa.e ok _ h'.1.2) (sb.e ok _ h'.2)
  · cases h'
theorem e_tup {l : E} (sl : Snd tx N nf C G k Ns l) (ok : XOk tx N nf C G k Ns X rs sc Wx) (e : Expr) (h : chkE tx Ns sc (.tup l) e = true) : Rdr N Wx X e (.tup l) (ev C G (.tup l)) := by
  have h' : (match unTup e with
    | some es => decide (lenE l ≤ 1000) && chkL tx Ns sc l es
    | none => false) = true := h
  split at h'
  · rename_i es q
    obtain ⟨_, p, rfl⟩ := unTup_of q
    simp only [Bool.and_eq_true, decide_eq_true_eq] at h'
    exact r_tup C G h'.1 (sl.l ok _ h'.2)
  · cases h'
theorem e_lst {l : E} (sl : Snd tx N nf C G k Ns l) (ok : XOk tx N nf C G k Ns X rs sc Wx) (e : Expr) (h : chkE tx Ns sc (.lst l) e = true) : Rdr N Wx X e (.lst l) (ev C G (.lst l)) := by
  have h' : (match unLst e with
    | some es => decide (lenE l ≤ 1000) && chkL tx Ns sc l es
    | none => false) = true := h
  split at h'
  · rename_i es q
    obtain ⟨p, rfl⟩ := unLst_of q
    simp only [Bool.and_eq_true, decide_eq_true_eq] at h'
    exact r_lst C G h'.1 (sl.l ok _ h'.2)
  · cases h'
theorem plainIx {e : Expr} (h : notSlice e = true) : PlainIx e := by
  intro o i
  cases e <;> first | rfl | cases h
theorem e_idx {a i : E} (sa : Snd tx N nf C G k Ns a) (si : Snd tx N nf C G k Ns i) (ok : XOk tx N nf C G k Ns X rs sc Wx) (e : Expr) (h : chkE tx Ns sc (.idx a i) e = true) : Rdr N Wx X e (.idx a i) (ev C G (.idx a i)) := by
  have h' : (match unSub e with
    | some (l, r) => notSlice r && chkE tx Ns sc a l && chkE tx Ns sc i r
    | none => false) = true := h
  split at h'
  · rename_i l r q
    obtain ⟨p, rfl⟩ := unSub_of q
    simp only [Bool.and_eq_true] at h'
    exact r_idx C G ok.hK ok.hP ok.hw ok.units (plainIx h'.1.1) (sa.e ok _ h'.1.2) (si.e ok _ h'.2)
  · cases h'
theorem e_slice {a lo hi : E} (sa : Snd tx N nf C G k Ns a) (sl : Snd tx N nf C G k Ns lo) (sh : Snd tx N nf C G k Ns hi) (ok : XOk tx N nf C G k Ns X rs sc Wx) (e : Expr) (h : chkE tx Ns sc (.slice a lo hi) e = true) : Rdr N Wx X e (.slice a lo hi) (ev C G (.slice a lo hi)) := by
  have h' : (match unSub e with
    | some (l, r) => (match unSlice r with
      | some (u, v) => chkE tx Ns sc a l && chkO tx Ns sc lo u && chkO tx Ns sc hi v
      | none => false)
    | none => false) = true := h
  split at h'
  · rename_i l r q
    obtain ⟨p, rfl⟩ := unSub_of q
    split at h'
    · rename_i u v q2
      obtain ⟨p2, rfl⟩ := unSlice_of q2
      simp only [Bool.and_eq_true] at h'
      exact r_slice C G ok.hK (sa.e ok _ h'.1.1) (sl.o ok _ h'.1.2) (sh.o ok _ h'.2)
    · cases h'
  · cases h'
theorem argsA {l : E} {es : List Expr} (sl : Snd tx N nf C G k Ns l) (ok : XOk tx N nf C G k Ns X rs sc Wx) (h : chkA tx Ns sc l es = true) : PA X es (TAr N Wx (evA C G l) []) ∧ (es = [] → l = .nil) := sl.A ok es h
theorem e_call {f : Nat} {l : E} (sl : Snd tx N nf C G k Ns l) (ok : XOk tx N nf C G k Ns X rs sc Wx) (e : Expr) (h : chkE tx Ns sc (.call f l) e = true) : Rdr N Wx X e (.call f l) (ev C G (.call f l)) := by
  have h' : (match unFn e with
    | some (x, es) => decide (tx.fn[f]? = some (some x)) && glB sc x && !dbgB x && es.all notStar && chkA tx Ns sc l es
    | none => false) = true := h
  split at h'
  · rename_i x es q
    obtain ⟨p, p', rfl⟩ := unFn_of q
    simp only [Bool.and_eq_true, decide_eq_true_eq, Bool.not_eq_true', dbgB, Bool.or_eq_false_iff] at h'
    obtain ⟨⟨⟨⟨h1, h2⟩, h3⟩, h4⟩, h5⟩ := h'
    obtain ⟨fa, m1, m2, F⟩ := ok.fns f x h1
    obtain ⟨pa, pz⟩ := sl.A ok es h5
    have hr := ok.room.mono (Nat.le_succ k)
    cases es with
    | nil =>
      rw [pz rfl]
      exact r_call0 C G F hr ok.tk (ok.gl h2) m1 m2 h3.1 (fun ρ => rfl) fun _ _ _ => .nil
    | cons e es => exact r_call C G F hr ok.tk (ok.gl h2) m1 m2 h3.1 h4 pa
  · cases h'
theorem e_new {c f : Nat} {l : E} (sl : Snd tx N nf C G k Ns l) (ok : XOk tx N nf C G k Ns X rs sc Wx) (e : Expr) (h : chkE tx Ns sc (.new c f l) e = true) : Rdr N Wx X e (.new c f l) (ev C G (.new c f l)) := by
  have h' : (match unFn e with
    | some (x, es) => decide (tx.cl[c]? = some (x, f)) && glB sc x && !dbgB x && es.all notStar && !es.isEmpty && chkA tx Ns sc l es
    | none => false) = true := h
  split at h'
  · rename_i x es q
    obtain ⟨p, p', rfl⟩ := unFn_of q
    simp only [Bool.and_eq_true, decide_eq_true_eq, Bool.not_eq_true', dbgB, Bool.or_eq_false_iff] at h'
    obtain ⟨⟨⟨⟨⟨h1, h2⟩, h3⟩, h4⟩, h6⟩, h5⟩ := h'
    obtain ⟨fa, m1, m2, F⟩ := ok.cls c f x h1
    obtain ⟨pa, _⟩ := sl.A ok es h5
    cases es with
    | nil => cases h6
    | cons e es => exact r_new C G ok.hK F m2 ok.room ok.tk (ok.gl h2) m1 h3.1 h4 pa
  · cases h'
theorem e_meth {c f : Nat} {o l : E} (so : Snd tx N nf C G k Ns o) (sl : Snd tx N nf C G k Ns l) (ok : XOk tx N nf C G k Ns X rs sc Wx) (e : Expr) (h : chkE tx Ns sc (.meth c f o l) e = true) : Rdr N Wx X e (.meth c f o l) (ev C G (.meth c f o l)) := by
  have h' : (match unMeth e with
    | some (eo, m, es, p, q) => decide (tx.me[f]? = some (some (c, m))) && notCall eo && decide (es.length < 30) && (p.endLine == q.line) && es.all notStar && chkE tx Ns sc o eo && chkA tx Ns sc l es
    | none => false) = true := h
  split at h'
  · rename_i eo m es p p' q
    rw [unMeth_of q]
    simp only [Bool.and_eq_true, decide_eq_true_eq] at h'
    obtain ⟨⟨⟨⟨⟨⟨h1, h2⟩, h3⟩, h4⟩, h5⟩, h6⟩, h7⟩ := h'
    obtain ⟨fa, m1, m2, F, m3⟩ := ok.mes f c m h1
    obtain ⟨pa, pz⟩ := sl.A ok es h7
    have hr := ok.room.mono (Nat.le_succ k)
    cases es with
    | nil =>
      rw [pz rfl]
      exact r_meth0 C G ok.hK F hr ok.tk m1 m2 m3 (so.e ok _ h6) h2 h4 (fun ρ => rfl) fun _ _ _ => .nil
    | cons e es => exact r_meth C G ok.hK F hr ok.tk m1 m2 m3 (so.e ok _ h6) h2 h3 h4 h5 pa
  · cases h'
theorem e_attr {o : E} {f : Nat} (so : Snd tx N nf C G k Ns o) (ok : XOk tx N nf C G k Ns X rs sc Wx) (e : Expr) (h : chkE tx Ns sc (.attr o f) e = true) : Rdr N Wx X e (.attr o f) (ev C G (.attr o f)) := by
  have h' : (match unAttr e with
    | some (eo, x, _) => decide (tx.fl[f]? = some x) && notCall eo && chkE tx Ns sc o eo
    | none => false) = true := h
  split at h'
  · rename_i eo x p q
    rw [unAttr_of q]
    simp only [Bool.and_eq_true, decide_eq_true_eq] at h'
    obtain ⟨rfl, hf⟩ := ok.fls f x h'.1.1
    exact r_attr C G ok.nm ok.hK hf (attr_base h'.1.2) (so.e ok _ h'.2)
  · cases h'
end
end PX

end

section
set_option Elab.async false
set_option linter.all false
set_option autoImplicit false
set_option maxRecDepth 100000
set_option maxHeartbeats 2000000
namespace PX
open PySem PySem.Spec PyProof.Rows L2
section
variable {tx : Tx} {N : Nm} {nf : Nat} {C : Call} {G : Nat → D} {k : Nat} {Ns : List Str} {X : Cx} {rs sc : Scope} {Wx : WX}
theorem e_isi {t : Ty} {a : E} (sa : Snd tx N nf C G k Ns a) (ok : XOk tx N nf C G k Ns X rs sc Wx) (e : Expr) (h : chkE tx Ns sc (.bi (.isi false [t]) (.cons a .nil)) e = true) : Rdr N Wx X e (.bi (.isi false [t]) (.cons a .nil)) (ev C G (.bi (.isi false [t]) (.cons a .nil))) := by
  have h' : (match unFn e with
    | some (x, [ea, et]) => decide (x = "isinstance") && glB sc x && notStar ea && tyEs sc [et] [t] && chkE tx Ns sc a ea
    | _ => false) = true := h
  split at h'
  · rename_i x ea et q
    obtain ⟨p, p', rfl⟩ := unFn_of q
    simp only [Bool.and_eq_true, decide_eq_true_eq] at h'
    obtain ⟨⟨⟨⟨rfl, h2⟩, h3⟩, h4⟩, h5⟩ := h'
    have ty := ok.tys h4
    cases ty with
    | cons hx hg hm r => exact r_isi C G ok.hK rfl (ok.gl h2) (ok.free "isinstance" (by decide)) hx hg hm h3 (sa.e ok _ h5)
  · cases h'
theorem e_isiT {ts : List Ty} {a : E} (sa : Snd tx N nf C G k Ns a) (ok : XOk tx N nf C G k Ns X rs sc Wx) (e : Expr) (h : chkE tx Ns sc (.bi (.isi true ts) (.cons a .nil)) e = true) : Rdr N Wx X e (.bi (.isi true ts) (.cons a .nil)) (ev C G (.bi (.isi true ts) (.cons a .nil))) := by
  have h' : (match unFn e with
    | some (x, [ea, et]) => (match unTup et with
      | some es => decide (x = "isinstance") && glB sc x && notStar ea && decide (ts.length ≤ 1000) && tyEs sc es ts && chkE tx Ns sc a ea
      | none => false)
    | _ => false) = true := h
  split at h'
  · rename_i x ea et q
    obtain ⟨p, p', rfl⟩ := unFn_of q
    split at h'
    · rename_i es q2
      obtain ⟨_, _, rfl⟩ := unTup_of q2
      simp only [Bool.and_eq_true, decide_eq_true_eq] at h'
      obtain ⟨⟨⟨⟨⟨rfl, h2⟩, h3⟩, h6⟩, h4⟩, h5⟩ := h'
      exact r_isiT C G ok.hK rfl (ok.gl h2) (ok.free "isinstance" (by decide)) (ok.tys h4) h6 h3 (sa.e ok _ h5)
    · cases h'
  · cases h'
theorem e_repr {a : E} (sa : Snd tx N nf C G k Ns a) (ok : XOk tx N nf C G k Ns X rs sc Wx) (e : Expr) (h : chkE tx Ns sc (.bi .repr (.cons a .nil)) e = true) : Rdr N Wx X e (.bi .repr (.cons a .nil)) (ev C G (.bi .repr (.cons a .nil))) := by
  have h' : (match unFn e with
    | some (x, [ea]) => decide (x = "repr") && glB sc x && notStar ea && chkE tx Ns sc a ea
    | _ => false) = true := h
  split at h'
  · rename_i x ea q
    obtain ⟨p, p', rfl⟩ := unFn_of q
    simp only [Bool.and_eq_true, decide_eq_true_eq] at h'
    obtain ⟨⟨⟨rfl, h2⟩, h3⟩, h4⟩ := h'
    exact r_repr C G ok.hK ok.room.gd ok.units rfl (ok.gl h2) (ok.free "repr" (by decide)) h3 (sa.e ok _ h4)
  · cases h'
theorem e_lrng1 {a : E} (sa : Snd tx N nf C G k Ns a) (ok : XOk tx N nf C G k Ns X rs sc Wx) (e : Expr) (h : chkE tx Ns sc (.bi .lrng1 (.cons a .nil)) e = true) : Rdr N Wx X e (.bi .lrng1 (.cons a .nil)) (ev C G (.bi .lrng1 (.cons a .nil))) := by
  have h' : (match unFn e with
    | some (x, [e1]) => (match unFn e1 with
      | some (y, [ea]) => decide (x = "list") && glB sc x && decide (y = "range") && glB sc y && notStar ea && chkE tx Ns sc a ea
      | _ => false)
    | _ => false) = true := h
  split at h'
  · rename_i x e1 q
    obtain ⟨p, p', rfl⟩ := unFn_of q
    split at h'
    · rename_i y ea q2
      obtain ⟨_, _, rfl⟩ := unFn_of q2
      simp only [Bool.and_eq_true, decide_eq_true_eq] at h'
      obtain ⟨⟨⟨⟨⟨rfl, h2⟩, rfl⟩, h4⟩, h5⟩, h6⟩ := h'
      exact r_lrng1 C G ok.calm rfl (ok.gl h2) (ok.free "list" (by decide)) rfl (ok.gl h4) (ok.free "range" (by decide)) h5 (sa.e ok _ h6)
    · cases h'
  · cases h'
theorem e_trng1 {a : E} (sa : Snd tx N nf C G k Ns a) (ok : XOk tx N nf C G k Ns X rs sc Wx) (e : Expr) (h : chkE tx Ns sc (.bi .trng1 (.cons a .nil)) e = true) : Rdr N Wx X e (.bi .trng1 (.cons a .nil)) (ev C G (.bi .trng1 (.cons a .nil))) := by
  have h' : (match unFn e with
    | some (x, [e1]) => (match unFn e1 with
      | some (y, [ea]) => decide (x = "tuple") && glB sc x && decide (y = "range") && glB sc y && notStar ea && chkE tx Ns sc a ea
      | _ => false)
    | _ => false) = true := h
  split at h'
  · rename_i x e1 q
    obtain ⟨p, p', rfl⟩ := unFn_of q
    split at h'
    · rename_i y ea q2
      obtain ⟨_, _, rfl⟩ := unFn_of q2
      simp only [Bool.and_eq_true, decide_eq_true_eq] at h'
      obtain ⟨⟨⟨⟨⟨rfl, h2⟩, rfl⟩, h4⟩, h5⟩, h6⟩ := h'
      exact r_trng1 C G ok.calm rfl (ok.gl h2) (ok.free "tuple" (by decide)) rfl (ok.gl h4) (ok.free "range" (by decide)) h5 (sa.e ok _ h6)
    · cases h'
  · cases h'
theorem e_lrng2 {a b : E} (sa : Snd tx N nf C G k Ns a) (sb : Snd tx N nf C G k Ns b) (ok : XOk tx N nf C G k Ns X rs sc Wx) (e : Expr) (h : chkE tx Ns sc (.bi .lrng2 (.cons a (.cons b .nil))) e = true) : Rdr N Wx X e (.bi .lrng2 (.cons a (.cons b .nil))) (ev C G (.bi .lrng2 (.cons a (.cons b .nil)))) := by
  have h' : (match unFn e with
    | some (x, [e1]) => (match unFn e1 with
      | some (y, [ea, eb]) => decide (x = "list") && glB sc x && decide (y = "range") && glB sc y && notStar ea && notStar eb && chkE tx Ns sc a ea && chkE tx Ns sc b eb
      | _ => false)
    | _ => false) = true := h
  split at h'
  · rename_i x e1 q
    obtain ⟨p, p', rfl⟩ := unFn_of q
    split at h'
    · rename_i y ea eb q2
      obtain ⟨_, _, rfl⟩ := unFn_of q2
      simp only [Bool.and_eq_true, decide_eq_true_eq] at h'
      obtain ⟨⟨⟨⟨⟨⟨⟨rfl, h2⟩, rfl⟩, h4⟩, h5⟩, h6⟩, h7⟩, h8⟩ := h'
      exact r_lrng2 C G ok.calm rfl (ok.gl h2) (ok.free "list" (by decide)) rfl (ok.gl h4) (ok.free "range" (by decide)) h5 h6 (sa.e ok _ h7) (sb.e ok _ h8)
    · cases h'
  · cases h'
theorem e_lzip {a b : E} (sa : Snd tx N nf C G k Ns a) (sb : Snd tx N nf C G k Ns b) (ok : XOk tx N nf C G k Ns X rs sc Wx) (e : Expr) (h : chkE tx Ns sc (.bi .lzip (.cons a (.cons b .nil))) e = true) : Rdr N Wx X e (.bi .lzip (.cons a (.cons b .nil))) (ev C G (.bi .lzip (.cons a (.cons b .nil)))) := by
  have h' : (match unFn e with
    | some (x, [e1]) => (match unFn e1 with
      | some (y, [ea, eb]) => decide (x = "list") && glB sc x && decide (y = "zip") && glB sc y && notStar ea && notStar eb && chkE tx Ns sc a ea && chkE tx Ns sc b eb
      | _ => false)
    | _ => false) = true := h
  split at h'
  · rename_i x e1 q
    obtain ⟨p, p', rfl⟩ := unFn_of q
    split at h'
    · rename_i y ea eb q2
      obtain ⟨_, _, rfl⟩ := unFn_of q2
      simp only [Bool.and_eq_true, decide_eq_true_eq] at h'
      obtain ⟨⟨⟨⟨⟨⟨⟨rfl, h2⟩, rfl⟩, h4⟩, h5⟩, h6⟩, h7⟩, h8⟩ := h'
      exact r_lzip C G ok.hK ok.calm rfl (ok.gl h2) (ok.free "list" (by decide)) rfl (ok.gl h4) (ok.free "zip" (by decide)) h5 h6 (sa.e ok _ h7) (sb.e ok _ h8)
    · cases h'
  · cases h'
theorem e_trng2 {a b : E} (sa : Snd tx N nf C G k Ns a) (sb : Snd tx N nf C G k Ns b) (ok : XOk tx N nf C G k Ns X rs sc Wx) (e : Expr) (h : chkE tx Ns sc (.bi .trng2 (.cons a (.cons b .nil))) e = true) : Rdr N Wx X e (.bi .trng2 (.cons a (.cons b .nil))) (ev C G (.bi .trng2 (.cons a (.cons b .nil)))) := by
  have h' : (match unFn e with
    | some (x, [e1]) => (match unFn e1 with
      | some (y, [ea, eb]) => decide (x = "tuple") && glB sc x && decide (y = "range") && glB sc y && notStar ea && notStar eb && chkE tx Ns sc a ea && chkE tx Ns sc b eb
      | _ => false)
    | _ => false) = true := h
  split at h'
  · rename_i x e1 q
    obtain ⟨p, p', rfl⟩ := unFn_of q
    split at h'
    · rename_i y ea eb q2
      obtain ⟨_, _, rfl⟩ := unFn_of q2
      simp only [Bool.and_eq_true, decide_eq_true_eq] at h'
      obtain ⟨⟨⟨⟨⟨⟨⟨rfl, h2⟩, rfl⟩, h4⟩, h5⟩, h6⟩, h7⟩, h8⟩ := h'
      exact r_trng2 C G ok.calm rfl (ok.gl h2) (ok.free "tuple" (by decide)) rfl (ok.gl h4) (ok.free "range" (by decide)) h5 h6 (sa.e ok _ h7) (sb.e ok _ h8)
    · cases h'
  · cases h'
theorem e_minD {mx : Bool} {a b : E} (sa : Snd tx N nf C G k Ns a) (sb : Snd tx N nf C G k Ns b) (ok : XOk tx N nf C G k Ns X rs sc Wx) (e : Expr) (h : (match unCall e with
    | some (f, [ea], [⟨some y, eb, _⟩], _) => decide (unName f = some (Str.ofString (if mx then "max" else "min"))) && glB sc (Str.ofString (if mx then "max" else "min")) && decide (y = "default") && notStar ea && chkE tx Ns sc a ea && chkE tx Ns sc b eb
    | _ => false) = true) : Rdr N Wx X e (.bi (if mx then .maxD else .minD) (.cons a (.cons b .nil))) (ev C G (.bi (if mx then .maxD else .minD) (.cons a (.cons b .nil)))) := by
  split at h
  · rename_i f ea y eb kp pos q
    rw [unCall_of q]
    simp only [Bool.and_eq_true, decide_eq_true_eq] at h
    obtain ⟨⟨⟨⟨⟨h1, h2⟩, rfl⟩, h4⟩, h5⟩, h6⟩ := h
    obtain ⟨p, rfl⟩ := unName_of h1
    exact r_minD C G ok.hK ok.calm ok.units rfl (ok.gl h2) (ok.free _ (by cases mx <;> decide)) rfl h4 (sa.e ok _ h5) (sb.e ok _ h6)
  · cases h
theorem e_bi {b : BI} {l : E} (sl : Snd tx N nf C G k Ns l) (ok : XOk tx N nf C G k Ns X rs sc Wx) (e : Expr) (h : (match unFn e with
    | some (x, es) => plainBi b && decide (x = Str.ofString (biNm b)) && glB sc x && es.all notStar && !es.isEmpty && chkR tx Ns sc l es
    | none => false) = true) : Rdr N Wx X e (.bi b l) (ev C G (.bi b l)) := by
  split at h
  · rename_i x es q
    obtain ⟨p, p', rfl⟩ := unFn_of q
    simp only [Bool.and_eq_true, decide_eq_true_eq] at h
    obtain ⟨⟨⟨⟨⟨h1, h2⟩, h3⟩, h4⟩, h5⟩, h6⟩ := h
    cases es with
    | nil => cases h5
    | cons e es =>
      refine r_bi C G ok.hK ok.hP ok.hw ok.calm ok.units h1 h2 (ok.gl h3) ?_ h4 (sl.r ok _ h6)
      rw [h2]
      exact ok.free _ (by revert h1; cases b <;> first | (intro _; decide) | (intro z; cases z; done) | (rename_i kk; cases kk <;> first | (intro _; decide) | (intro z; cases z)))
  · cases h
theorem e_index {o a : E} (so : Snd tx N nf C G k Ns o) (sa : Snd tx N nf C G k Ns a) (ok : XOk tx N nf C G k Ns X rs sc Wx) (e : Expr) (h : chkE tx Ns sc (.bm .index o (.cons a .nil)) e = true) : Rdr N Wx X e (.bm .index o (.cons a .nil)) (ev C G (.bm .index o (.cons a .nil))) := by
  have h' : (match unMeth e with
    | some (eo, m, [ea], p, q) => decide (m = "index") && notCall eo && (p.endLine == q.line) && notStar ea && chkE tx Ns sc o eo && chkE tx Ns sc a ea
    | _ => false) = true := h
  split at h'
  · rename_i eo m ea p p' q
    rw [unMeth_of q]
    simp only [Bool.and_eq_true, decide_eq_true_eq] at h'
    obtain ⟨⟨⟨⟨⟨rfl, h2⟩, h3⟩, h4⟩, h5⟩, h6⟩ := h'
    exact r_index C G ok.hK ok.units rfl h4 h2 h3 (so.e ok _ h5) (sa.e ok _ h6)
  · cases h'
theorem e_get2 {o a b : E} (so : Snd tx N nf C G k Ns o) (sa : Snd tx N nf C G k Ns a) (sb : Snd tx N nf C G k Ns b) (ok : XOk tx N nf C G k Ns X rs sc Wx) (e : Expr) (h : chkE tx Ns sc (.bm .get2 o (.cons a (.cons b .nil))) e = true) : Rdr N Wx X e (.bm .get2 o (.cons a (.cons b .nil))) (ev C G (.bm .get2 o (.cons a (.cons b .nil)))) := by
  have h' : (match unMeth e with
    | some (eo, m, [ea, eb], p, q) => decide (m = "get") && notCall eo && (p.endLine == q.line) && notStar ea && notStar eb && chkE tx Ns sc o eo && chkE tx Ns sc a ea && chkE tx Ns sc b eb
    | _ => false) = true := h
  split at h'
  · rename_i eo m ea eb p p' q
    rw [unMeth_of q]
    simp only [Bool.and_eq_true, decide_eq_true_eq] at h'
    obtain ⟨⟨⟨⟨⟨⟨⟨rfl, h2⟩, h3⟩, h4⟩, h4'⟩, h5⟩, h6⟩, h7⟩ := h'
    exact r_get2 C G ok.hK ok.hP ok.hw ok.units rfl h4 h4' h2 h3 (so.e ok _ h5) (sa.e ok _ h6) (sb.e ok _ h7)
  · cases h'
theorem e_append {i : Nat} {a : E} (sa : Snd tx N nf C G k Ns a) (ok : XOk tx N nf C G k Ns X rs sc Wx) (e : Expr) (h : chkE tx Ns sc (.mut .append i (.cons a .nil)) e = true) : Rdr N Wx X e (.mut .append i (.cons a .nil)) (ev C G (.mut .append i (.cons a .nil))) := by
  have h' : (match unMeth e with
    | some (eo, m, [ea], p, q) => decide (m = "append") && notCall eo && (p.endLine == q.line) && notStar ea && varB Ns sc i eo && chkE tx Ns sc a ea
    | _ => false) = true := h
  split at h'
  · rename_i eo m ea p p' q
    rw [unMeth_of q]
    simp only [Bool.and_eq_true, decide_eq_true_eq] at h'
    obtain ⟨⟨⟨⟨⟨rfl, h2⟩, h3⟩, h4⟩, h5⟩, h6⟩ := h'
    exact r_append C G ok.hK rfl h4 h2 h3 (ok.var h5) (sa.e ok _ h6)
  · cases h'
theorem e_extend {i : Nat} {a : E} (sa : Snd tx N nf C G k Ns a) (ok : XOk tx N nf C G k Ns X rs sc Wx) (e : Expr) (h : chkE tx Ns sc (.mut .extend i (.cons a .nil)) e = true) : Rdr N Wx X e (.mut .extend i (.cons a .nil)) (ev C G (.mut .extend i (.cons a .nil))) := by
  have h' : (match unMeth e with
    | some (eo, m, [ea], p, q) => decide (m = "extend") && notCall eo && (p.endLine == q.line) && notStar ea && varB Ns sc i eo && chkE tx Ns sc a ea
    | _ => false) = true := h
  split at h'
  · rename_i eo m ea p p' q
    rw [unMeth_of q]
    simp only [Bool.and_eq_true, decide_eq_true_eq] at h'
    obtain ⟨⟨⟨⟨⟨rfl, h2⟩, h3⟩, h4⟩, h5⟩, h6⟩ := h'
    exact r_extend C G ok.hK rfl h4 h2 h3 (ok.var h5) (sa.e ok _ h6)
  · cases h'
theorem e_insert {i : Nat} {j a : E} (sj : Snd tx N nf C G k Ns j) (sa : Snd tx N nf C G k Ns a) (ok : XOk tx N nf C G k Ns X rs sc Wx) (e : Expr) (h : chkE tx Ns sc (.mut .insert i (.cons j (.cons a .nil))) e = true) : Rdr N Wx X e (.mut .insert i (.cons j (.cons a .nil))) (ev C G (.mut .insert i (.cons j (.cons a .nil)))) := by
  have h' : (match unMeth e with
    | some (eo, m, [ek, ea], p, q) => decide (m = "insert") && notCall eo && (p.endLine == q.line) && notStar ek && notStar ea && varB Ns sc i eo && chkE tx Ns sc j ek && chkE tx Ns sc a ea
    | _ => false) = true := h
  split at h'
  · rename_i eo m ek ea p p' q
    rw [unMeth_of q]
    simp only [Bool.and_eq_true, decide_eq_true_eq] at h'
    obtain ⟨⟨⟨⟨⟨⟨⟨rfl, h2⟩, h3⟩, h4⟩, h5⟩, h6⟩, h7⟩, h8⟩ := h'
    exact r_insert C G ok.hK rfl h4 h5 h2 h3 (ok.var h6) (sj.e ok _ h7) (sa.e ok _ h8)
  · cases h'
/-- a comprehension, by its pieces -/
theorem lc_parts {e it c : E} {t : Tg} {vs : List Nat} (se : Snd tx N nf C G k Ns e) (si : Snd tx N nf C G k Ns it) (sc' : Snd tx N nf C G k Ns c) (ok : XOk tx N nf C G k Ns X rs sc Wx) (x : Expr) (h : chkE tx Ns sc (.comp e t it c vs) x = true) :
    ∃ elt tg iter ifs s p, x = .ListComp elt [⟨tg, iter, ifs, 0⟩] s p ∧ (∀ i ∈ tgSlots t, i ∈ vs) ∧ PI X tg iter (TIt N Wx (evI C G it)) ∧ BlkOk X.N X.env.scope s (ownOf Ns vs) ∧ (ownOf Ns vs).map (·.2) = vs ∧
      (∀ (s0 : Shared) (H : Hp) (Ca : Addr) (cl : List (Str × Addr)) (fp : List Addr), PG (X.blk s0 H s (compEnvC s cl Ca X.env) fp) tg (TGt N t)) ∧
      (∀ (s0 : Shared) (H : Hp) (Ca : Addr) (cl : List (Str × Addr)) (fp : List Addr), PTs (X.blk s0 H s (compEnvC s cl Ca X.env) fp) ifs (TTt N WF (evC C G c))) ∧
      (∀ (s0 : Shared) (H : Hp) (Ca : Addr) (cl : List (Str × Addr)) (fp : List Addr), PE (X.blk s0 H s (compEnvC s cl Ca X.env) fp) elt (TEv N WF (ev C G e))) ∧ ∀ y, foldedSetIterable iter X.env y = pure y := by
  have h' : (match unLc x with
    | some (elt, tg, iter, ifs, s, _) => blkC Ns sc s (ownOf Ns vs) && (tgSlots t).all (fun i => vs.elem i) && tgB Ns s t tg && notSet iter && chkI tx Ns sc it tg iter && chkC tx Ns (relS s sc) c ifs && chkE tx Ns (relS s sc) e elt
    | none => false) = true := h
  split at h'
  · rename_i elt tg iter ifs s p q
    simp only [Bool.and_eq_true] at h'
    obtain ⟨⟨⟨⟨⟨⟨h1, h2⟩, h3⟩, h4⟩, h5⟩, h6⟩, h7⟩ := h'
    refine ⟨elt, tg, iter, ifs, s, p, unLc_of q, fun i hi => ?_, si.i ok _ _ h5, by rw [ok.hN, ok.hsc]; exact blkOk_by h1, ?_, fun s0 H Ca cl fp => (ok.blk s0 H s cl Ca fp).target h3, fun s0 H Ca cl fp => sc'.c (ok.blk s0 H s cl Ca fp) _ h6, fun s0 H Ca cl fp => (se.e (ok.blk s0 H s cl Ca fp) _ h7).ev, set_of h4 _⟩
    · have := List.all_eq_true.mp h2 i hi
      rw [List.elem_eq_mem] at this
      exact of_decide_eq_true this
    · unfold ownOf
      rw [List.map_map]
      show vs.map (fun v => v) = vs
      exact List.map_id' vs
  · cases h'
theorem e_comp {e it c : E} {t : Tg} {vs : List Nat} (se : Snd tx N nf C G k Ns e) (si : Snd tx N nf C G k Ns it) (sc' : Snd tx N nf C G k Ns c) (ok : XOk tx N nf C G k Ns X rs sc Wx) (x : Expr) (h : chkE tx Ns sc (.comp e t it c vs) x = true) : Rdr N Wx X x (.comp e t it c vs) (ev C G (.comp e t it c vs)) := by
  obtain ⟨elt, tg, iter, ifs, s, p, rfl, g1, g2, g3, g4, g5, g6, g7, g8⟩ := lc_parts se si sc' ok x h
  exact r_lc C G g1 (r_comp C G ok.calm (by rw [ok.hN]; exact ok.nd) g2 g3 g4 g1 g5 g6 g7 g8)
theorem i_seq' {a : E} (sa : Snd tx N nf C G k Ns a) (ok : XOk tx N nf C G k Ns X rs sc Wx) (tg e : Expr) (h : chkI tx Ns sc (.isq a) tg e = true) : PI X tg e (TIt N Wx (evI C G (.isq a))) := i_seq C G ok.hK (sa.e ok _ h)
theorem i_rng1' {a : E} (sa : Snd tx N nf C G k Ns a) (ok : XOk tx N nf C G k Ns X rs sc Wx) (tg e : Expr) (h : chkI tx Ns sc (.rng1 a) tg e = true) : PI X tg e (TIt N Wx (evI C G (.rng1 a))) := by
  have h' : (match unFn e with
    | some (x, [ea]) => decide (x = "range") && glB sc x && notStar ea && chkE tx Ns sc a ea
    | _ => false) = true := h
  split at h'
  · rename_i x ea q
    obtain ⟨p, p', rfl⟩ := unFn_of q
    simp only [Bool.and_eq_true, decide_eq_true_eq] at h'
    obtain ⟨⟨⟨rfl, h2⟩, h3⟩, h4⟩ := h'
    exact i_rng1 C G rfl (ok.gl h2) (ok.free "range" (by decide)) h3 (sa.e ok _ h4)
  · cases h'
theorem i_rng2' {a b : E} (sa : Snd tx N nf C G k Ns a) (sb : Snd tx N nf C G k Ns b) (ok : XOk tx N nf C G k Ns X rs sc Wx) (tg e : Expr) (h : chkI tx Ns sc (.rng2 a b) tg e = true) : PI X tg e (TIt N Wx (evI C G (.rng2 a b))) := by
  have h' : (match unFn e with
    | some (x, [ea, eb]) => decide (x = "range") && glB sc x && notStar ea && notStar eb && chkE tx Ns sc a ea && chkE tx Ns sc b eb
    | _ => false) = true := h
  split at h'
  · rename_i x ea eb q
    obtain ⟨p, p', rfl⟩ := unFn_of q
    simp only [Bool.and_eq_true, decide_eq_true_eq] at h'
    obtain ⟨⟨⟨⟨⟨rfl, h2⟩, h3⟩, h4⟩, h5⟩, h6⟩ := h'
    exact i_rng2 C G rfl (ok.gl h2) (ok.free "range" (by decide)) h3 h4 (sa.e ok _ h5) (sb.e ok _ h6)
  · cases h'
theorem i_rng3' {a b d : E} (sa : Snd tx N nf C G k Ns a) (sb : Snd tx N nf C G k Ns b) (sd : Snd tx N nf C G k Ns d) (ok : XOk tx N nf C G k Ns X rs sc Wx) (tg e : Expr) (h : chkI tx Ns sc (.rng3 a b d) tg e = true) : PI X tg e (TIt N Wx (evI C G (.rng3 a b d))) := by
  have h' : (match unFn e with
    | some (x, [ea, eb, ed]) => decide (x = "range") && glB sc x && notStar ea && notStar eb && notStar ed && chkE tx Ns sc a ea && chkE tx Ns sc b eb && chkE tx Ns sc d ed
    | _ => false) = true := h
  split at h'
  · rename_i x ea eb ed q
    obtain ⟨p, p', rfl⟩ := unFn_of q
    simp only [Bool.and_eq_true, decide_eq_true_eq] at h'
    obtain ⟨⟨⟨⟨⟨⟨⟨rfl, h2⟩, h3⟩, h4⟩, h5⟩, h6⟩, h7⟩, h8⟩ := h'
    exact i_rng3 C G rfl (ok.gl h2) (ok.free "range" (by decide)) h3 h4 h5 (sa.e ok _ h6) (sb.e ok _ h7) (sd.e ok _ h8)
  · cases h'
theorem i_enum' {a : E} (sa : Snd tx N nf C G k Ns a) (ok : XOk tx N nf C G k Ns X rs sc Wx) (tg e : Expr) (h : chkI tx Ns sc (.enum a) tg e = true) : PI X tg e (TIt N Wx (evI C G (.enum a))) := by
  have h' : (match unTup tg, unFn e with
    | some _, some (x, [ea]) => decide (x = "enumerate") && glB sc x && notStar ea && chkE tx Ns sc a ea
    | _, _ => false) = true := h
  split at h'
  · rename_i es x ea q1 q
    obtain ⟨_, _, rfl⟩ := unTup_of q1
    obtain ⟨p, p', rfl⟩ := unFn_of q
    simp only [Bool.and_eq_true, decide_eq_true_eq] at h'
    obtain ⟨⟨⟨rfl, h2⟩, h3⟩, h4⟩ := h'
    exact i_enum C G ok.hK rfl (ok.gl h2) (ok.free "enumerate" (by decide)) h3 (sa.e ok _ h4)
  · cases h'
theorem i_zip' {a b : E} (sa : Snd tx N nf C G k Ns a) (sb : Snd tx N nf C G k Ns b) (ok : XOk tx N nf C G k Ns X rs sc Wx) (tg e : Expr) (h : chkI tx Ns sc (.zip a b) tg e = true) : PI X tg e (TIt N Wx (evI C G (.zip a b))) := by
  have h' : (match unTup tg, unFn e with
    | some _, some (x, [ea, eb]) => decide (x = "zip") && glB sc x && notStar ea && notStar eb && chkE tx Ns sc a ea && chkE tx Ns sc b eb
    | _, _ => false) = true := h
  split at h'
  · rename_i es x ea eb q1 q
    obtain ⟨_, _, rfl⟩ := unTup_of q1
    obtain ⟨p, p', rfl⟩ := unFn_of q
    simp only [Bool.and_eq_true, decide_eq_true_eq] at h'
    obtain ⟨⟨⟨⟨⟨rfl, h2⟩, h3⟩, h4⟩, h5⟩, h6⟩ := h'
    exact i_zip C G ok.hK rfl (ok.gl h2) (ok.free "zip" (by decide)) h3 h4 (sa.e ok _ h5) (sb.e ok _ h6)
  · cases h'
theorem i_zipN' {a b : E} (sa : Snd tx N nf C G k Ns a) (sb : Snd tx N nf C G k Ns b) (ok : XOk tx N nf C G k Ns X rs sc Wx) (tg e : Expr) (h : chkI tx Ns sc (.zipN a b) tg e = true) : PI X tg e (TIt N Wx (evI C G (.zipN a b))) := by
  have h' : (match unName tg, unFn e with
    | some _, some (x, [ea, eb]) => decide (x = "zip") && glB sc x && notStar ea && notStar eb && chkE tx Ns sc a ea && chkE tx Ns sc b eb
    | _, _ => false) = true := h
  split at h'
  · rename_i es x ea eb q1 q
    obtain ⟨_, rfl⟩ := unName_of q1
    obtain ⟨p, p', rfl⟩ := unFn_of q
    simp only [Bool.and_eq_true, decide_eq_true_eq] at h'
    obtain ⟨⟨⟨⟨⟨rfl, h2⟩, h3⟩, h4⟩, h5⟩, h6⟩ := h'
    exact i_zipN C G ok.hK rfl (ok.gl h2) (ok.free "zip" (by decide)) h3 h4 (sa.e ok _ h5) (sb.e ok _ h6)
  · cases h'
theorem i_rev' {a : E} (sa : Snd tx N nf C G k Ns a) (ok : XOk tx N nf C G k Ns X rs sc Wx) (tg e : Expr) (h : chkI tx Ns sc (.rev a) tg e = true) : PI X tg e (TIt N Wx (evI C G (.rev a))) := by
  have h' : (match unFn e with
    | some (x, [ea]) => decide (x = "reversed") && glB sc x && notStar ea && chkE tx Ns sc a ea
    | _ => false) = true := h
  split at h'
  · rename_i x ea q
    obtain ⟨p, p', rfl⟩ := unFn_of q
    simp only [Bool.and_eq_true, decide_eq_true_eq] at h'
    obtain ⟨⟨⟨rfl, h2⟩, h3⟩, h4⟩ := h'
    exact i_rev C G ok.hK rfl (ok.gl h2) (ok.free "reversed" (by decide)) h3 (sa.e ok _ h4)
  · cases h'
/-! ### lists of pieces -/
theorem l_nil (ok : XOk tx N nf C G k Ns X rs sc Wx) (es : List Expr) (h : chkL tx Ns sc .nil es = true) : PA X es (TAs N Wx (evs C G .nil)) := by
  cases es with
  | nil => exact as_nil C G
  | cons e es => cases h
theorem l_cons {a b : E} (sa : Snd tx N nf C G k Ns a) (sb : Snd tx N nf C G k Ns b) (ok : XOk tx N nf C G k Ns X rs sc Wx) (es : List Expr) (h : chkL tx Ns sc (.cons a b) es = true) : PA X es (TAs N Wx (evs C G (.cons a b))) := by
  cases es with
  | nil => cases h
  | cons e es =>
    have h' : (notStar e && chkE tx Ns sc a e && chkL tx Ns sc b es) = true := h
    simp only [Bool.and_eq_true] at h'
    exact as_cons C G h'.1.1 (sa.e ok _ h'.1.2) (sb.l ok _ h'.2)
theorem rr_nil (ok : XOk tx N nf C G k Ns X rs sc Wx) (es : List Expr) (h : chkR tx Ns sc .nil es = true) : PA X es (TRs N Wx (evRs C G .nil)) := by
  cases es with
  | nil => exact rs_nil C G
  | cons e es => cases h
theorem rr_cons {a b : E} (sa : Snd tx N nf C G k Ns a) (sb : Snd tx N nf C G k Ns b) (ok : XOk tx N nf C G k Ns X rs sc Wx) (es : List Expr) (h : chkR tx Ns sc (.cons a b) es = true) : PA X es (TRs N Wx (evRs C G (.cons a b))) := by
  cases es with
  | nil => cases h
  | cons e es =>
    have h' : (notStar e && chkE tx Ns sc a e && chkR tx Ns sc b es) = true := h
    simp only [Bool.and_eq_true] at h'
    exact rs_cons C G h'.1.1 (sa.e ok _ h'.1.2) (sb.r ok _ h'.2)
theorem aa_nil (ok : XOk tx N nf C G k Ns X rs sc Wx) (es : List Expr) (h : chkA tx Ns sc .nil es = true) : PA X es (TAr N Wx (evA C G .nil) []) ∧ (es = [] → E.nil = .nil) := by
  cases es with
  | nil => exact ⟨ar_nil C G (fun ρ => rfl) fun _ _ _ => .nil, fun _ => rfl⟩
  | cons e es => cases h
theorem aa_cons {a b : E} (sa : Snd tx N nf C G k Ns a) (sb : Snd tx N nf C G k Ns b) (ok : XOk tx N nf C G k Ns X rs sc Wx) (es : List Expr) (h : chkA tx Ns sc (.cons a b) es = true) : PA X es (TAr N Wx (evA C G (.cons a b)) []) ∧ (es = [] → E.cons a b = .nil) := by
  cases es with
  | nil => cases h
  | cons e es =>
    have h' : (notStar e && chkE tx Ns sc a e && chkA tx Ns sc b es) = true := h
    simp only [Bool.and_eq_true] at h'
    exact ⟨ar_cons C G h'.1.1 (sa.e ok _ h'.1.2) (sb.A ok _ h'.2).1, fun z => by cases z⟩
theorem o_nil (ok : XOk tx N nf C G k Ns X rs sc Wx) (es : Option Expr) (h : chkO tx Ns sc .nil es = true) : PO X es (TPo N Wx (evO C G .nil)) := by
  cases es with
  | none => exact o_none C G
  | some e => cases h
theorem o_val {a : E} (sa : Snd tx N nf C G k Ns a) (ok : XOk tx N nf C G k Ns X rs sc Wx) (es : Option Expr) (h : chkO tx Ns sc (.tval a) es = true) : PO X es (TPo N Wx (evO C G (.tval a))) := by
  cases es with
  | none => cases h
  | some e => exact o_some C G (sa.e ok _ h)
theorem c_nil (ok : XOk tx N nf C G k Ns X rs sc WF) (es : List Expr) (h : chkC tx Ns sc .nil es = true) : PTs X es (TTt N WF (evC C G .nil)) := by
  cases es with
  | nil => exact pts_of C G (.inl ⟨rfl, rfl⟩)
  | cons e es => cases h
theorem c_cons {a b : E} (sa : Snd tx N nf C G k Ns a) (ok : XOk tx N nf C G k Ns X rs sc WF) (es : List Expr) (h : chkC tx Ns sc (.cons a b) es = true) : PTs X es (TTt N WF (evC C G (.cons a b))) := by
  cases es with
  | nil => cases h
  | cons e es => cases es with
    | nil => exact pts_of C G (.inr ⟨e, a, b, rfl, rfl, (sa.t ok _ h).1⟩)
    | cons _ _ => cases h
end
end PX

end

section
set_option Elab.async false
set_option linter.all false
set_option autoImplicit false
set_option maxRecDepth 100000
set_option maxHeartbeats 4000000
namespace PX
open PySem PySem.Spec PyProof.Rows L2
section
variable {tx : Tx} {N : Nm} {nf : Nat} {C : Call} {G : Nat → D} {k : Nat} {Ns : List Str} {X : Cx} {rs sc : Scope} {Wx : WX}
variable (tx N nf C G k Ns) in
/-- with what lies at a list's head -/
def Snd' (a : E) : Prop := Snd tx N nf C G k Ns a ∧ ∀ b c, a = .cons b c → Snd tx N nf C G k Ns b ∧ ∀ d f, c = .cons d f → Snd tx N nf C G k Ns d
theorem nobi {b : BI} {l : E} {e : Expr} {P : Prop} (hb : plainBi b = false) (h : (match unFn e with
    | some (x, es) => plainBi b && decide (x = Str.ofString (biNm b)) && glB sc x && es.all notStar && !es.isEmpty && chkR tx Ns sc l es
    | none => false) = true) : P := by
  rw [hb] at h
  split at h <;> simp at h
theorem e_biAll {b : BI} {l : E} (sl : Snd' tx N nf C G k Ns l) (ok : XOk tx N nf C G k Ns X rs sc Wx) (e : Expr) (h : chkE tx Ns sc (.bi b l) e = true) : Rdr N Wx X e (.bi b l) (ev C G (.bi b l)) := by
  have one : ∀ {a : E}, l = .cons a .nil → Snd tx N nf C G k Ns a := fun {a} z => (sl.2 a .nil z).1
  have two : ∀ {a c : E}, l = .cons a (.cons c .nil) → Snd tx N nf C G k Ns a ∧ Snd tx N nf C G k Ns c := fun {a c} z => ⟨(sl.2 a _ z).1, (sl.2 a _ z).2 c .nil rfl⟩
  cases b with
  | isi tup ts => cases tup with
    | false => cases ts with
      | nil => exact nobi (b := .isi false []) (l := l) rfl h
      | cons t ts => cases ts with
        | cons t2 ts => exact nobi (b := .isi false (t :: t2 :: ts)) (l := l) rfl h
        | nil => cases l with
          | cons a b => cases b with
            | nil => exact e_isi (one rfl) ok e h
            | _ => exact nobi (b := .isi false [t]) (l := .cons a _) rfl h
          | _ => exact nobi (b := .isi false [t]) rfl h
    | true => cases l with
      | cons a b => cases b with
        | nil => exact e_isiT (one rfl) ok e h
        | _ => exact nobi (b := .isi true ts) (l := .cons a _) rfl h
      | _ => exact nobi (b := .isi true ts) rfl h
  | repr => cases l with
    | cons a b => cases b with
      | nil => exact e_repr (one rfl) ok e h
      | _ => exact nobi (b := .repr) (l := .cons a _) rfl h
    | _ => exact nobi (b := .repr) rfl h
  | lrng1 => cases l with
    | cons a b => cases b with
      | nil => exact e_lrng1 (one rfl) ok e h
      | _ => exact nobi (b := .lrng1) (l := .cons a _) rfl h
    | _ => exact nobi (b := .lrng1) rfl h
  | trng1 => cases l with
    | cons a b => cases b with
      | nil => exact e_trng1 (one rfl) ok e h
      | _ => exact nobi (b := .trng1) (l := .cons a _) rfl h
    | _ => exact nobi (b := .trng1) rfl h
  | lrng2 => cases l with
    | cons a b => cases b with
      | cons c d => cases d with
        | nil => exact e_lrng2 (two rfl).1 (two rfl).2 ok e h
        | _ => exact nobi (b := .lrng2) (l := .cons a (.cons c _)) rfl h
      | _ => exact nobi (b := .lrng2) (l := .cons a _) rfl h
    | _ => exact nobi (b := .lrng2) rfl h
  | lzip => cases l with
    | cons a b => cases b with
      | cons c d => cases d with
        | nil => exact e_lzip (two rfl).1 (two rfl).2 ok e h
        | _ => exact nobi (b := .lzip) (l := .cons a (.cons c _)) rfl h
      | _ => exact nobi (b := .lzip) (l := .cons a _) rfl h
    | _ => exact nobi (b := .lzip) rfl h
  | trng2 => cases l with
    | cons a b => cases b with
      | cons c d => cases d with
        | nil => exact e_trng2 (two rfl).1 (two rfl).2 ok e h
        | _ => exact nobi (b := .trng2) (l := .cons a (.cons c _)) rfl h
      | _ => exact nobi (b := .trng2) (l := .cons a _) rfl h
    | _ => exact nobi (b := .trng2) rfl h
  | minD => cases l with
    | cons a b => cases b with
      | cons c d => cases d with
        | nil => exact e_minD (mx := false) (two rfl).1 (two rfl).2 ok e h
        | _ => exact nobi (b := .minD) (l := .cons a (.cons c _)) rfl h
      | _ => exact nobi (b := .minD) (l := .cons a _) rfl h
    | _ => exact nobi (b := .minD) rfl h
  | maxD => cases l with
    | cons a b => cases b with
      | cons c d => cases d with
        | nil => exact e_minD (mx := true) (two rfl).1 (two rfl).2 ok e h
        | _ => exact nobi (b := .maxD) (l := .cons a (.cons c _)) rfl h
      | _ => exact nobi (b := .maxD) (l := .cons a _) rfl h
    | _ => exact nobi (b := .maxD) rfl h
  | _ => exact e_bi sl.1 ok e h
theorem e_bmAll {b : BM} {o l : E} (so : Snd' tx N nf C G k Ns o) (sl : Snd' tx N nf C G k Ns l) (ok : XOk tx N nf C G k Ns X rs sc Wx) (e : Expr) (h : chkE tx Ns sc (.bm b o l) e = true) : Rdr N Wx X e (.bm b o l) (ev C G (.bm b o l)) := by
  cases b with
  | index => cases l with
    | cons a b => cases b with
      | nil => exact e_index so.1 (sl.2 a .nil rfl).1 ok e h
      | _ => cases h
    | _ => cases h
  | get2 => cases l with
    | cons a b => cases b with
      | cons c d => cases d with
        | nil => exact e_get2 so.1 (sl.2 a _ rfl).1 ((sl.2 a _ rfl).2 c .nil rfl) ok e h
        | _ => cases h
      | _ => cases h
    | _ => cases h
  | _ => cases h
theorem e_mutAll {m : MU} {i : Nat} {l : E} (sl : Snd' tx N nf C G k Ns l) (ok : XOk tx N nf C G k Ns X rs sc Wx) (e : Expr) (h : chkE tx Ns sc (.mut m i l) e = true) : Rdr N Wx X e (.mut m i l) (ev C G (.mut m i l)) := by
  cases m with
  | append => cases l with
    | cons a b => cases b with
      | nil => exact e_append (sl.2 a .nil rfl).1 ok e h
      | _ => cases h
    | _ => cases h
  | extend => cases l with
    | cons a b => cases b with
      | nil => exact e_extend (sl.2 a .nil rfl).1 ok e h
      | _ => cases h
    | _ => cases h
  | insert => cases l with
    | cons a b => cases b with
      | cons c d => cases d with
        | nil => exact e_insert (sl.2 a _ rfl).1 ((sl.2 a _ rfl).2 c .nil rfl) ok e h
        | _ => cases h
      | _ => cases h
    | _ => cases h
  | _ => cases h
theorem Snd.mk' {a : E} (e : ∀ {X : Cx} {rs sc : Scope} {Wx : WX} (ok : XOk tx N nf C G k Ns X rs sc Wx) (e : Expr), chkE tx Ns sc a e = true → Rdr N Wx X e a (ev C G a)) (hl : ∀ sc es, chkL tx Ns sc a es = false) (hr : ∀ sc es, chkR tx Ns sc a es = false) (hA : ∀ sc es, chkA tx Ns sc a es = false) (ho : ∀ sc es, chkO tx Ns sc a es = false)
    (hc : ∀ sc es, chkC tx Ns sc a es = false) (hi : ∀ sc tg es, chkI tx Ns sc a tg es = false)
    (t : ∀ {X : Cx} {rs sc : Scope} {Wx : WX} (ok : XOk tx N nf C G k Ns X rs sc Wx) (e : Expr), chkT tx Ns sc a e = true → PT X e (TTt N Wx (evT C G a)) ∧ ((∃ o es p, e = .BoolOp o es p) → PW X e (TTt N Wx (evT C G a)))) (hn : ∀ b c, a ≠ .cons b c) : Snd' tx N nf C G k Ns a :=
  ⟨⟨fun ok x h => e ok x h, fun ok x h => t ok x h, fun ok es h => absurd ((hl _ _).symm.trans h) Bool.false_ne_true, fun ok es h => absurd ((hr _ _).symm.trans h) Bool.false_ne_true, fun ok es h => absurd ((hA _ _).symm.trans h) Bool.false_ne_true, fun ok es h => absurd ((ho _ _).symm.trans h) Bool.false_ne_true, fun ok es h => absurd ((hc _ _).symm.trans h) Bool.false_ne_true, fun ok tg es h => absurd ((hi _ _ _).symm.trans h) Bool.false_ne_true⟩,
    fun b c z => absurd z (hn b c)⟩
theorem Snd.mkE {a : E} (e : ∀ {X : Cx} {rs sc : Scope} {Wx : WX} (ok : XOk tx N nf C G k Ns X rs sc Wx) (e : Expr), chkE tx Ns sc a e = true → Rdr N Wx X e a (ev C G a)) (ht : ∀ sc es, chkT tx Ns sc a es = false) (hl : ∀ sc es, chkL tx Ns sc a es = false) (hr : ∀ sc es, chkR tx Ns sc a es = false) (hA : ∀ sc es, chkA tx Ns sc a es = false) (ho : ∀ sc es, chkO tx Ns sc a es = false)
    (hc : ∀ sc es, chkC tx Ns sc a es = false) (hi : ∀ sc tg es, chkI tx Ns sc a tg es = false) (hn : ∀ b c, a ≠ .cons b c) : Snd' tx N nf C G k Ns a :=
  Snd.mk' e hl hr hA ho hc hi (fun ok x h => absurd ((ht _ _).symm.trans h) Bool.false_ne_true) hn
theorem Snd.mkI {a : E} (he : ∀ sc e, chkE tx Ns sc a e = false) (ht : ∀ sc es, chkT tx Ns sc a es = false) (hl : ∀ sc es, chkL tx Ns sc a es = false) (hr : ∀ sc es, chkR tx Ns sc a es = false) (hA : ∀ sc es, chkA tx Ns sc a es = false) (ho : ∀ sc es, chkO tx Ns sc a es = false)
    (hc : ∀ sc es, chkC tx Ns sc a es = false) (hn : ∀ b c, a ≠ .cons b c) (i : ∀ {X : Cx} {rs sc : Scope} {Wx : WX} (ok : XOk tx N nf C G k Ns X rs sc Wx) (tg e : Expr), chkI tx Ns sc a tg e = true → PI X tg e (TIt N Wx (evI C G a))) : Snd' tx N nf C G k Ns a :=
  ⟨⟨fun ok x h => absurd ((he _ _).symm.trans h) Bool.false_ne_true, fun ok x h => absurd ((ht _ _).symm.trans h) Bool.false_ne_true, fun ok es h => absurd ((hl _ _).symm.trans h) Bool.false_ne_true, fun ok es h => absurd ((hr _ _).symm.trans h) Bool.false_ne_true, fun ok es h => absurd ((hA _ _).symm.trans h) Bool.false_ne_true, fun ok es h => absurd ((ho _ _).symm.trans h) Bool.false_ne_true, fun ok es h => absurd ((hc _ _).symm.trans h) Bool.false_ne_true, fun ok tg es h => i ok tg es h⟩,
    fun b c z => absurd z (hn b c)⟩
/-- the checker is right -/
theorem snd' (a : E) : Snd' tx N nf C G k Ns a := by
  induction a with
  | nil => exact ⟨⟨fun ok e h => r_never e, fun ok e h => t_never e, fun ok es h => l_nil ok es h, fun ok es h => rr_nil ok es h, fun ok es h => aa_nil ok es h, fun ok es h => o_nil ok es h, fun ok es h => c_nil ok es h, fun ok tg e h => (nomatch h)⟩, fun b c z => (nomatch z)⟩
  | cons a b iha ihb =>
    refine ⟨⟨fun ok e h => (nomatch h), fun ok e h => (nomatch h), fun ok es h => l_cons iha.1 ihb.1 ok es h, fun ok es h => rr_cons iha.1 ihb.1 ok es h, fun ok es h => aa_cons iha.1 ihb.1 ok es h, fun ok es h => (nomatch h), fun ok es h => c_cons iha.1 ok es h, fun ok tg e h => (nomatch h)⟩, fun b' c' z => ?_⟩
    cases z
    exact ⟨iha.1, fun d f z => (ihb.2 d f z).1⟩
  | none => exact Snd.mkE e_none (fun _ _ => rfl) (fun _ _ => rfl) (fun _ _ => rfl) (fun _ _ => rfl) (fun _ _ => rfl) (fun _ _ => rfl) (fun _ _ _ => rfl) (fun _ _ z => nomatch z)
  | bool b => exact Snd.mkE e_bool (fun _ _ => rfl) (fun _ _ => rfl) (fun _ _ => rfl) (fun _ _ => rfl) (fun _ _ => rfl) (fun _ _ => rfl) (fun _ _ _ => rfl) (fun _ _ z => nomatch z)
  | int b => exact Snd.mkE e_int (fun _ _ => rfl) (fun _ _ => rfl) (fun _ _ => rfl) (fun _ _ => rfl) (fun _ _ => rfl) (fun _ _ => rfl) (fun _ _ _ => rfl) (fun _ _ z => nomatch z)
  | str b => exact Snd.mkE e_str (fun _ _ => rfl) (fun _ _ => rfl) (fun _ _ => rfl) (fun _ _ => rfl) (fun _ _ => rfl) (fun _ _ => rfl) (fun _ _ _ => rfl) (fun _ _ z => nomatch z)
  | var i => exact Snd.mkE (fun ok e h => r_var C G (ok.var h)) (fun _ _ => rfl) (fun _ _ => rfl) (fun _ _ => rfl) (fun _ _ => rfl) (fun _ _ => rfl) (fun _ _ => rfl) (fun _ _ _ => rfl) (fun _ _ z => nomatch z)
  | glob j => exact Snd.mkE e_glob (fun _ _ => rfl) (fun _ _ => rfl) (fun _ _ => rfl) (fun _ _ => rfl) (fun _ _ => rfl) (fun _ _ => rfl) (fun _ _ _ => rfl) (fun _ _ z => nomatch z)
  | bin o a b iha ihb => exact Snd.mkE (e_bin iha.1 ihb.1) (fun _ _ => rfl) (fun _ _ => rfl) (fun _ _ => rfl) (fun _ _ => rfl) (fun _ _ => rfl) (fun _ _ => rfl) (fun _ _ _ => rfl) (fun _ _ z => nomatch z)
  | neg a iha => exact Snd.mkE (e_neg iha.1) (fun _ _ => rfl) (fun _ _ => rfl) (fun _ _ => rfl) (fun _ _ => rfl) (fun _ _ => rfl) (fun _ _ => rfl) (fun _ _ _ => rfl) (fun _ _ z => nomatch z)
  | not a iha => exact Snd.mk' (e_not iha.1) (fun _ _ => rfl) (fun _ _ => rfl) (fun _ _ => rfl) (fun _ _ => rfl) (fun _ _ => rfl) (fun _ _ _ => rfl) (t_not' iha.1) (fun _ _ z => nomatch z)
  | and a b iha ihb => exact Snd.mk' (e_and iha.1 ihb.1) (fun _ _ => rfl) (fun _ _ => rfl) (fun _ _ => rfl) (fun _ _ => rfl) (fun _ _ => rfl) (fun _ _ _ => rfl) (t_and' iha.1 ihb.1) (fun _ _ z => nomatch z)
  | or a b iha ihb => exact Snd.mk' (e_or iha.1 ihb.1) (fun _ _ => rfl) (fun _ _ => rfl) (fun _ _ => rfl) (fun _ _ => rfl) (fun _ _ => rfl) (fun _ _ _ => rfl) (t_or' iha.1 ihb.1) (fun _ _ z => nomatch z)
  | cmp c a b iha ihb => exact Snd.mk' (e_cmp iha.1 ihb.1) (fun _ _ => rfl) (fun _ _ => rfl) (fun _ _ => rfl) (fun _ _ => rfl) (fun _ _ => rfl) (fun _ _ _ => rfl) (t_cmp' iha.1 ihb.1) (fun _ _ z => nomatch z)
  | cmp2 c c' a b d iha ihb ihd => exact Snd.mk' (e_cmp2 iha.1 ihb.1 ihd.1) (fun _ _ => rfl) (fun _ _ => rfl) (fun _ _ => rfl) (fun _ _ => rfl) (fun _ _ => rfl) (fun _ _ _ => rfl) (t_cmp2' iha.1 ihb.1 ihd.1) (fun _ _ z => nomatch z)
  | ite t a b iht iha ihb => exact Snd.mkE (e_ite iht.1 iha.1 ihb.1) (fun _ _ => rfl) (fun _ _ => rfl) (fun _ _ => rfl) (fun _ _ => rfl) (fun _ _ => rfl) (fun _ _ => rfl) (fun _ _ _ => rfl) (fun _ _ z => nomatch z)
  | tup l ihl => exact Snd.mkE (e_tup ihl.1) (fun _ _ => rfl) (fun _ _ => rfl) (fun _ _ => rfl) (fun _ _ => rfl) (fun _ _ => rfl) (fun _ _ => rfl) (fun _ _ _ => rfl) (fun _ _ z => nomatch z)
  | lst l ihl => exact Snd.mkE (e_lst ihl.1) (fun _ _ => rfl) (fun _ _ => rfl) (fun _ _ => rfl) (fun _ _ => rfl) (fun _ _ => rfl) (fun _ _ => rfl) (fun _ _ _ => rfl) (fun _ _ z => nomatch z)
  | idx a i iha ihi => exact Snd.mkE (e_idx iha.1 ihi.1) (fun _ _ => rfl) (fun _ _ => rfl) (fun _ _ => rfl) (fun _ _ => rfl) (fun _ _ => rfl) (fun _ _ => rfl) (fun _ _ _ => rfl) (fun _ _ z => nomatch z)
  | slice a lo hi iha ihl ihh => exact Snd.mkE (e_slice iha.1 ihl.1 ihh.1) (fun _ _ => rfl) (fun _ _ => rfl) (fun _ _ => rfl) (fun _ _ => rfl) (fun _ _ => rfl) (fun _ _ => rfl) (fun _ _ _ => rfl) (fun _ _ z => nomatch z)
  | call f l ihl => exact Snd.mkE (e_call ihl.1) (fun _ _ => rfl) (fun _ _ => rfl) (fun _ _ => rfl) (fun _ _ => rfl) (fun _ _ => rfl) (fun _ _ => rfl) (fun _ _ _ => rfl) (fun _ _ z => nomatch z)
  | new c f l ihl => exact Snd.mkE (e_new ihl.1) (fun _ _ => rfl) (fun _ _ => rfl) (fun _ _ => rfl) (fun _ _ => rfl) (fun _ _ => rfl) (fun _ _ => rfl) (fun _ _ _ => rfl) (fun _ _ z => nomatch z)
  | meth c f o l iho ihl => exact Snd.mkE (e_meth iho.1 ihl.1) (fun _ _ => rfl) (fun _ _ => rfl) (fun _ _ => rfl) (fun _ _ => rfl) (fun _ _ => rfl) (fun _ _ => rfl) (fun _ _ _ => rfl) (fun _ _ z => nomatch z)
  | attr o f iho => exact Snd.mkE (e_attr iho.1) (fun _ _ => rfl) (fun _ _ => rfl) (fun _ _ => rfl) (fun _ _ => rfl) (fun _ _ => rfl) (fun _ _ => rfl) (fun _ _ _ => rfl) (fun _ _ z => nomatch z)
  | bi b l ihl => exact Snd.mkE (e_biAll ihl) (fun _ _ => rfl) (fun _ _ => rfl) (fun _ _ => rfl) (fun _ _ => rfl) (fun _ _ => rfl) (fun _ _ => rfl) (fun _ _ _ => rfl) (fun _ _ z => nomatch z)
  | bm b o l iho ihl => exact Snd.mkE (e_bmAll iho ihl) (fun _ _ => rfl) (fun _ _ => rfl) (fun _ _ => rfl) (fun _ _ => rfl) (fun _ _ => rfl) (fun _ _ => rfl) (fun _ _ _ => rfl) (fun _ _ z => nomatch z)
  | «mut» m i l ihl => exact Snd.mkE (e_mutAll ihl) (fun _ _ => rfl) (fun _ _ => rfl) (fun _ _ => rfl) (fun _ _ => rfl) (fun _ _ => rfl) (fun _ _ => rfl) (fun _ _ _ => rfl) (fun _ _ z => nomatch z)
  | comp e t it c vs ihe ihi ihc => exact Snd.mkE (e_comp ihe.1 ihi.1 ihc.1) (fun _ _ => rfl) (fun _ _ => rfl) (fun _ _ => rfl) (fun _ _ => rfl) (fun _ _ => rfl) (fun _ _ => rfl) (fun _ _ _ => rfl) (fun _ _ z => nomatch z)
  | dnew k => exact Snd.mkE (fun ok e h => (nomatch h)) (fun _ _ => rfl) (fun _ _ => rfl) (fun _ _ => rfl) (fun _ _ => rfl) (fun _ _ => rfl) (fun _ _ => rfl) (fun _ _ _ => rfl) (fun _ _ z => nomatch z)
  | ddisp k a b iha ihb => exact Snd.mkE (fun ok e h => (nomatch h)) (fun _ _ => rfl) (fun _ _ => rfl) (fun _ _ => rfl) (fun _ _ => rfl) (fun _ _ => rfl) (fun _ _ => rfl) (fun _ _ _ => rfl) (fun _ _ z => nomatch z)
  | rng1 a iha => exact Snd.mkI (fun _ _ => rfl) (fun _ _ => rfl) (fun _ _ => rfl) (fun _ _ => rfl) (fun _ _ => rfl) (fun _ _ => rfl) (fun _ _ => rfl) (fun _ _ z => nomatch z) (i_rng1' iha.1)
  | rng2 a b iha ihb => exact Snd.mkI (fun _ _ => rfl) (fun _ _ => rfl) (fun _ _ => rfl) (fun _ _ => rfl) (fun _ _ => rfl) (fun _ _ => rfl) (fun _ _ => rfl) (fun _ _ z => nomatch z) (i_rng2' iha.1 ihb.1)
  | rng3 a b d iha ihb ihd => exact Snd.mkI (fun _ _ => rfl) (fun _ _ => rfl) (fun _ _ => rfl) (fun _ _ => rfl) (fun _ _ => rfl) (fun _ _ => rfl) (fun _ _ => rfl) (fun _ _ z => nomatch z) (i_rng3' iha.1 ihb.1 ihd.1)
  | enum a iha => exact Snd.mkI (fun _ _ => rfl) (fun _ _ => rfl) (fun _ _ => rfl) (fun _ _ => rfl) (fun _ _ => rfl) (fun _ _ => rfl) (fun _ _ => rfl) (fun _ _ z => nomatch z) (i_enum' iha.1)
  | zip a b iha ihb => exact Snd.mkI (fun _ _ => rfl) (fun _ _ => rfl) (fun _ _ => rfl) (fun _ _ => rfl) (fun _ _ => rfl) (fun _ _ => rfl) (fun _ _ => rfl) (fun _ _ z => nomatch z) (i_zip' iha.1 ihb.1)
  | zipN a b iha ihb => exact Snd.mkI (fun _ _ => rfl) (fun _ _ => rfl) (fun _ _ => rfl) (fun _ _ => rfl) (fun _ _ => rfl) (fun _ _ => rfl) (fun _ _ => rfl) (fun _ _ z => nomatch z) (i_zipN' iha.1 ihb.1)
  | rev a iha => exact Snd.mkI (fun _ _ => rfl) (fun _ _ => rfl) (fun _ _ => rfl) (fun _ _ => rfl) (fun _ _ => rfl) (fun _ _ => rfl) (fun _ _ => rfl) (fun _ _ z => nomatch z) (i_rev' iha.1)
  | isq a iha => exact Snd.mkI (fun _ _ => rfl) (fun _ _ => rfl) (fun _ _ => rfl) (fun _ _ => rfl) (fun _ _ => rfl) (fun _ _ => rfl) (fun _ _ => rfl) (fun _ _ z => nomatch z) (i_seq' iha.1)
  | tval a iha => exact ⟨⟨fun ok e h => (nomatch h), fun ok e h => t_val' iha.1 ok e h, fun ok es h => (nomatch h), fun ok es h => (nomatch h), fun ok es h => (nomatch h), fun ok es h => o_val iha.1 ok es h, fun ok es h => (nomatch h), fun ok tg e h => (nomatch h)⟩, fun b c z => (nomatch z)⟩
theorem snd (a : E) : Snd tx N nf C G k Ns a := (snd' a).1
end
end PX

end

section
set_option Elab.async false
set_option linter.all false
set_option autoImplicit false
set_option maxRecDepth 100000
set_option maxHeartbeats 4000000
namespace PX
open PySem PySem.Spec PyProof.Rows L2
section
variable {N : Nm} {Wx : WX} {X : Cx} {σ σ1 σ2 : L2.St} {ρ ρ1 ρ2 : Ev} {H H0 H1 H2 : Hp} {W W1 W2 T T1 : Addr → Prop}
variable (C : Call) (G : Nat → D)
/-! ### raise -/
/-- C(e, ..), C's own __init__ keeping spX -/
def tMkX (C : Addr) (sp : Sp) (ta : TA) : L2.St → Hp → XK → Prop := fun σ H Q => ta σ H fun vs H1 => vs.length ≤ 1000 ∧ ∀ a, H1 a = none → sp (.ref a :: vs) (upd H1 a (exo a C none))
  (fun v H2 => v = .non ∧ ∃ (d : Addr) (fs : List (Str × V)), H2 a = some (exo a C (some d)) ∧ H2 d = some (exd d fs) ∧ H1 d = none ∧ Q (.ref C) (some d) (upd (del H2 a) d (.xd fs))) (fun _ _ _ => False)
theorem pmk_xG {x : Str} {Ca fI : Addr} {k : Nat} {fd : FuncData} {ps : List Str} {fs : List Str} {p pos : Pos} {e : Expr} {es : List Expr} {ta : TA} (T : OexC X.K Ca) (iC : PySem.W.findIn X.K (.ref Ca) "__init__" = some (some (.ref fI))) (tI : PySem.W.typeIn X.K (.ref fI) = some (.type "function"))
    (F1 : FnG X.prog X.w X.K X.mg X.base (L2.CX X.prog X.w) k fI fd ps (spX X.K Ca fs)) (hr : RoomG (k + 1) X.A) (hb : Binds X.K fd ps []) (tk : Takes X Wx) (hg : Gl X x) (hm : X.mg x = some (.ref Ca)) (ha : PA X (e :: es) ta)
    (hdb : (x == ("__debug__" : Str)) = false) (hn : (e :: es).all notStar = true) :
    PMk X (.Call (.Name x p) (e :: es) [] pos) (tMkX Ca (spX X.K Ca fs) ta) := by
  intro pins s σ H Q I h
  rw [List.all_cons, Bool.and_eq_true] at hn
  obtain ⟨nm, q, N, bs, bm, sn, sub, ab, col, dd, k0, k1, k2, k3, k5, hC, hbm⟩ := T.cls
  refine wpAny_Call_Name_kw (ld_glob I hg hm ?_ hdb)
  refine PySem.W.callWith_K (h₀ := X.base) I.ok.mod.kin T.kC (thn (ha.run pos pins s σ H _ I h) fun us s1 ⟨vs, H1, I1, r1, hz, q1⟩ => ⟨I1.kIn, ?_⟩) (star_cons hn.1 es _) (star_any hn.2)
  show wpAny _ _ (call (.ref Ca) us) _ _ _
  obtain ⟨hp, g, dr, tk', os⟩ := s1
  have hsz : hp.objs.size ≤ hp.objs.size + 1 := Nat.le_succ _
  have hn : H1 (hp.objs.size + 1) = none := I1.hok.fresh hsz
  have hq := q1 (hp.objs.size + 1) hn
  have kk : ∀ b o, hp.get? b = some o → ((hp.push (PySem.W.kdv_tup us)).push (PySem.HandSPX.excO Ca hp.objs.size)).get? b = some o := fun b o e => Heap.get?_push_of_some _ (Heap.get?_push_of_some _ e)
  have hget : ((hp.push (PySem.W.kdv_tup us)).push (PySem.HandSPX.excO Ca hp.objs.size)).get? (hp.objs.size + 1) = some (PySem.HandSPX.excO Ca hp.objs.size) := by heap_get
  have I2 : Inv X pins σ (upd H1 (hp.objs.size + 1) (exo (hp.objs.size + 1) Ca none)) ⟨(hp.push (PySem.W.kdv_tup us)).push (PySem.HandSPX.excO Ca hp.objs.size), g, dr, tk', os⟩ :=
    I1.laid (t' := tk') (a := hp.objs.size + 1) (o := exo (hp.objs.size + 1) Ca none) (h' := (hp.push (PySem.W.kdv_tup us)).push (PySem.HandSPX.excO Ca hp.objs.size)) kk hsz (exo_ok hget)
  have r2 : Vals (V.ref (hp.objs.size + 1) :: vs) (Value.ref (hp.objs.size + 1) :: us) := .cons rfl r1
  have hl : (Value.ref (hp.objs.size + 1) :: us).length = ps.length := by
    have e := r2.length
    rw [F1.len _ _ _ _ hq] at e
    exact e.symm
  have hus : us.length ≤ sizeLine := by
    rw [← Paired.length r1, sizeLine_eq]
    omega
  have hbb := hb _ (Value.ref (hp.objs.size + 1) :: us) I2.kIn (by simpa using hl)
  rw [List.append_nil] at hbb
  have hq3 : spX X.K Ca fs (.ref (hp.objs.size + 1) :: vs) (upd H1 (hp.objs.size + 1) (exo (hp.objs.size + 1) Ca none)) (fun v H2 => v = .non ∧ ∃ (d : Addr) (fs : List (Str × V)), H2 (hp.objs.size + 1) = some (exo (hp.objs.size + 1) Ca (some d)) ∧ H2 d = some (exd d fs) ∧ H1 d = none ∧ Q (.ref Ca) (some d) (upd (del H2 (hp.objs.size + 1)) d (.xd fs))) (fun cls d H => Wx cls d σ H) := hq
  refine wpAny_call (PySem.HandSPX.call_own F.excBase_ValueError (fun Y => PySem.HandSPX.refsVE_contains Y bm hbm) (I1.kIn _ _ hC) (PySem.W.looks_findIn I1.kIn iC) (fun self => PySem.W.bind_fn I1.kIn self tI) hus
    (codeAny_mono (F1.run _ X.stack _ _ ⟨Value.ref (hp.objs.size + 1) :: us, []⟩ (Value.ref (hp.objs.size + 1) :: us) _ _ (fun cls d H => Wx cls d σ H) (hr.make Ca us []) (I2.env0.make Ca us []) hbb r2 hq3) fun r s' hq' => ?_))
  cases r with
  | error er => exact passAt tk σ pins _ _ er s' I2 hq'
  | ok fl =>
    cases fl with
    | ret u =>
      obtain ⟨v, H2, os2, bare2, un2, hok2, rv, ev, d, fs, ea, ed, hd1, q2⟩ := hq'
      subst ev
      obtain ⟨h2, g2, d2, t2, os'⟩ := s'
      exact ⟨rv, mk_end (raises_own T.exC T.tyC) I1 hsz kk un2 hok2 os2 bare2 ea ed hd1 q2⟩
    | next => exact False.elim hq'
    | brk => exact False.elim hq'
    | cont => exact False.elim hq'
theorem zip_mem {ds : List D} : ∀ {i : Nat} {d : D}, (i, d) ∈ (List.range ds.length).zip ds → ds[i]? = some d := by
  intro i d h
  obtain ⟨j, hj, e⟩ := List.mem_iff_getElem.mp h
  rw [List.getElem_zip] at e
  cases e
  rw [List.getElem_range]
  rw [List.length_zip] at hj
  exact List.getElem?_eq_getElem (by omega)
theorem reps_ix : ∀ {ds : List D} {vs : List V} {i : Nat} {d : D}, Reps N H W ds vs → ds[i]? = some d → ∃ v, vs[i]? = some v ∧ Rep N H W d v
  | [], _, i, d, _, h => by simp at h
  | _ :: ds, _, 0, d, ⟨x, r, rfl, h1, h2⟩, h => by simp at h; subst h; exact ⟨x, rfl, h1⟩
  | _ :: ds, _, i + 1, d, ⟨x, r, rfl, h1, h2⟩, h => by
    obtain ⟨v, e, q⟩ := reps_ix (i := i) h2 (by simpa using h)
    exact ⟨v, by simpa using e, q⟩
theorem s_raise {nx : Nat} {R : Addr} {x : Str} {p pos pos' : Pos} {e : Expr} {es : List Expr} {l : E} {c k : Nat} (hK : X.K = N.K) (hcm : X.calm = true) (xc : XcOk N nx R) (hc : c < nx) (F : ExI N X k c) (hr : RoomG (k + 1) X.A) (tk : Takes X Wx) (hg : Gl X x) (hm : X.mg x = some (.ref (N.exc c))) (hdb : (x == ("__debug__" : Str)) = false)
    (hn : (e :: es).all notStar = true) (hl : lenE l = (N.xfs c).length) (ha : PA X (e :: es) (TAs N Wx (evs C G l))) :
    PS X (.Raise (some (.Call (.Name x p) (e :: es) [] pos)) none pos') (TSt N Wx H0 (evS C G (.raise c l))) := by
  obtain ⟨fI, fd, ps, iC, tI, F1, hb⟩ := F.fn
  refine psImp (ps_raise hcm tk (pmk_xG (fs := N.xfs c) (by rw [hK]; exact xc.oex c hc) (by rw [hK]; exact iC) (by rw [hK]; exact tI) (by have := F1; rw [← hK] at this; exact this) hr hb tk hg hm ha hdb hn)) fun D σ H hq => ?_
  obtain ⟨W, ρ, fr, cc⟩ := hq
  have c' : ContS N Wx σ ρ H W (KD N H0 D) ((evs C G l ρ).bind fun ds _ => .exc c ((List.range ds.length).zip ds)) := cc
  refine ⟨W, ρ, fr.rel, Cont.monoE (ContS.ofE fr.rel c') fun ds ρ1 H1 W1 ee s c1 vs hvs => ⟨?_, fun a ha => ?_⟩⟩
  · have := xc.len c hc
    have e2 := evs_len C G l ρ ρ1 ds ee
    have e3 := hvs.length
    omega
  · refine ⟨a, vs, rfl, by rw [← hvs.length, evs_len C G l ρ ρ1 ds ee, hl], upd_same, by rw [hK]; exact xc.oex c hc, fun d hd hda H2 g1 g2 g3 => ⟨rfl, d, _, g2, g3, ?_, ?_⟩⟩
    · rw [upd_ne hda] at hd; exact hd
    · have hd1 : H1 d = none := by rw [upd_ne hda] at hd; exact hd
      have e1 : upd (del H2 a) d (.xd (laidF (N.xfs c) vs [])) = upd H1 d (.xd (laidF (N.xfs c) vs [])) := by
        funext b
        by_cases hb : b = d
        · subst hb; rw [upd_same, upd_same]
        · rw [upd_ne hb, upd_ne hb]
          by_cases hba : b = a
          · subst hba; rw [del_same, ha]
          · rw [del_ne hba, g1 b hba hb, upd_ne hba]
      rw [e1]
      have c2 : ∀ x H3 W3, Ext (Own ρ1 σ) H1 W1 H3 W3 → ExcR N H3 W3 c ((List.range ds.length).zip ds) x → ∀ σ1, Wx (.ref (N.exc c)) (some x) σ1 H3 := c1
      have ex : Ext (Own ρ1 σ) H1 W1 (upd H1 d (.xd (laidF (N.xfs c) vs []))) W1 := Ext.new hd1
      refine c2 d _ W1 ex ⟨_, upd_same, fun i d' hm => ?_⟩ σ
      obtain ⟨v, ev, rv⟩ := reps_ix hvs (zip_mem hm)
      have hlen : vs.length = (N.xfs c).length := by rw [← hvs.length, evs_len C G l ρ ρ1 ds ee, hl]
      have hi : i < (N.xfs c).length := by rw [← hlen]; exact (List.getElem?_eq_some_iff.mp ev).1
      have ef : (N.xfs c)[i]? = some ((N.xfs c)[i]) := List.getElem?_eq_getElem hi
      refine ⟨_, v, ef, ?_, ex.rep (fun _ h => s.rel.own h) rv⟩
      rcases laidF_look (acc := []) (xc.nd c hc) ef ev (fun _ _ => .inr trivial) with z | z
      · exact z
      · omega
end
end PX

end

section
set_option Elab.async false
set_option linter.all false
set_option autoImplicit false
set_option maxRecDepth 100000
set_option maxHeartbeats 4000000
namespace PX
open PySem PySem.Spec PyProof.Rows L2
/-! ### an except suite -/
abbrev F0 : Addr → Prop := fun _ => False
/-- the caught exception -/
structure Caught (N : Nm) (nx : Nat) (cls : Value) (d : Option Addr) (cc : Nat) (fs : List (Nat × D)) (H : Hp) (W : Addr → Prop) : Prop where
  cls : cls = .ref (N.exc cc)
  lt : cc < nx
  dx : ∃ x, d = some x ∧ ExcR N H W cc fs x
  tr : Trk H W
section
variable {N : Nm} {X : Cx} {nx : Nat} {R a : Addr} {cls : Value} {d : Option Addr} {cc : Nat} {fs : List (Nat × D)} {σ : L2.St} {H H1 H2 : Hp} {W W1 : Addr → Prop} {oe : Obj} {pn : List (Addr × Obj)}
theorem Ext.tr0 (e : Ext F0 H W H1 W) (t : Trk H W) : Trk H1 W := fun b w => by
  obtain ⟨o, h1, h2⟩ := t b w
  exact ⟨o, e.keep _ _ h1 id, h2⟩
theorem Ext.rep0 (e : Ext F0 H W H1 W) {d : D} {v : V} (h : Rep N H W d v) : Rep N H1 W d v := e.rep (fun _ h => h.elim) h
theorem Ext.trans0 (e : Ext F0 H W H1 W) (e2 : Ext F0 H1 W H2 W) (t : Trk H W) : Ext F0 H W H2 W := e.trans e2 (fun _ h => h.elim) (fun _ h => h.elim) fun x w => let ⟨o, e, _⟩ := t x w; ⟨o, e⟩
theorem ExcR.mono (e : Ext F0 H W H1 W) {x : Addr} (h : ExcR N H W cc fs x) : ExcR N H1 W cc fs x := by
  obtain ⟨gs, h1, h2⟩ := h
  refine ⟨gs, e.keep _ _ h1 id, fun i d hm => ?_⟩
  obtain ⟨f, v, q1, q2, q3⟩ := h2 i d hm
  exact ⟨f, v, q1, q2, e.rep0 q3⟩
theorem Caught.mono (e : Ext F0 H W H1 W) (h : Caught N nx cls d cc fs H W) : Caught N nx cls d cc fs H1 W :=
  ⟨h.cls, h.lt, let ⟨x, q1, q2⟩ := h.dx; ⟨x, q1, q2.mono e⟩, e.tr0 h.tr⟩
theorem lookF_mem : ∀ {fs : List (Nat × D)} {k : Nat} {d : D}, lookF k fs = some d → (k, d) ∈ fs
  | [], _, _, h => nomatch h
  | (g, e) :: r, k, d, h => by
    have h' : (if g = k then some e else lookF k r) = some d := h
    by_cases q : g = k
    · rw [if_pos q] at h'
      cases h'; subst q
      exact List.mem_cons_self
    · rw [if_neg q] at h'
      exact List.mem_cons_of_mem _ (lookF_mem h')
/-- where the exception's name stands -/
def SJ (σ : L2.St) (a : Addr) : Option Nat → Prop
  | none => True
  | some j => σ[j]? = some (some (.ref a))
def varJ (Ns : List Str) (sc : Scope) : Option Nat → Expr → Bool
  | none, _ => false
  | some j, e => varB Ns sc j e
/-! #### values -/
def lenX : XE → Nat
  | .cons _ b => lenX b + 1
  | _ => 0
section
variable (tx : Tx) (Ns : List Str) (sc : Scope) (j : Option Nat) (ks : List Nat)
mutual
def chkX : XE → Expr → Bool
  | .none, e => noneB e
  | .bool b, e => decide (unConst e = some (.bool b))
  | .int b, e => decide (unConst e = some (.int b))
  | .str b, e => decide (unConst e = some (.str b))
  | .fld k, e => (match unAttr e with
    | some (eo, f, _) => varJ Ns sc j eo && notCall eo && ks.all (fun c => decide ((tx.xf[c]?).bind (·[k]?) = some f))
    | none => false)
  | .tup l, e => (match unTup e with
    | some es => decide (lenX l ≤ 1000) && chkXs l es
    | none => false)
  | .lst l, e => (match unLst e with
    | some es => decide (lenX l ≤ 1000) && chkXs l es
    | none => false)
  | _, _ => false
def chkXs : XE → List Expr → Bool
  | .nil, [] => true
  | .cons a b, e :: es => notStar e && chkX a e && chkXs b es
  | _, _ => false
end
end
/-- a value of a suite: its reading -/
def TXv (N : Nm) (nx : Nat) (a : Addr) (cls : Value) (d : Option Addr) (j : Option Nat) (ks : List Nat) (x : XE) : TE := fun σ H Q => ∃ W cc fs dd, Caught N nx cls d cc fs H W ∧ cc ∈ ks ∧ SJ σ a j ∧ x.v fs = some dd ∧ ∀ v H1, Ext F0 H W H1 W → Rep N H1 W dd v → Q v H1
def TXvs (N : Nm) (nx : Nat) (a : Addr) (cls : Value) (d : Option Addr) (j : Option Nat) (ks : List Nat) (x : XE) : TA := fun σ H Q => ∃ W cc fs dd, Caught N nx cls d cc fs H W ∧ cc ∈ ks ∧ SJ σ a j ∧ x.vs fs = some dd ∧ ∀ vs H1, Ext F0 H W H1 W → Reps N H1 W dd vs → Q vs H1
theorem x_const {j : Option Nat} {ks : List Nat} {x : XE} {dd : D} {v : V} {e : Expr} {X' : Cx} (h : PE X' e (tC v)) (hx : ∀ fs, x.v fs = some dd) (hv : ∀ H W, Rep N H W dd v) : PE X' e (TXv N nx a cls d j ks x) := by
  refine peImp h fun σ H Q hq => ?_
  obtain ⟨W, cc, fs, d2, ca, _, _, e2, q⟩ := hq
  rw [hx] at e2; cases e2
  exact q v H .refl (hv H W)
theorem xvs_len : ∀ {l : XE} {dd : List D}, l.vs fs = some dd → dd.length = lenX l
  | .nil, _, h => by cases h; rfl
  | .cons x b, dd, h => by
    have h' : ((XE.v fs x).bind fun d => (XE.vs fs b).map (d :: ·)) = some dd := h
    cases q : XE.v fs x with
    | none => rw [q] at h'; cases h'
    | some z =>
      rw [q] at h'
      cases q2 : XE.vs fs b with
      | none => rw [q2] at h'; cases h'
      | some zs =>
        rw [q2] at h'
        cases h'
        exact congrArg (· + 1) (xvs_len q2)
  | .none, _, h => nomatch h
  | .bool _, _, h => nomatch h
  | .int _, _, h => nomatch h
  | .str _, _, h => nomatch h
  | .fld _, _, h => nomatch h
  | .tup _, _, h => nomatch h
  | .lst _, _, h => nomatch h
variable {tx : Tx} {nf : Nat} {C : Call} {G : Nat → D} {k : Nat} {Ns : List Str} {rs sc : Scope} {Wx : WX} {j : Option Nat}
theorem XOk.svar0 {j : Nat} (ok : XOk tx N nf C G k Ns X rs sc Wx) {e : Expr} (h : varB Ns sc j e = true) : PE (X.suite a pn) e (tVar j) := by
  unfold varB at h
  cases q : unName e with
  | none => rw [q] at h; cases h
  | some x =>
    rw [q] at h
    obtain ⟨p, rfl⟩ := unName_of q
    simp only [Bool.and_eq_true, Bool.not_eq_true', slotB, decide_eq_true_eq, dbgB, Bool.or_eq_false_iff] at h
    exact pe_var (X := X.suite a pn) (by show X.N[j]? = some x; rw [ok.hN]; exact h.1.1) (by show Vis X.env.scope x; rw [ok.hsc]; exact visB_of h.1.2) h.2.1 h.2.2
/-- the exception's name -/
def tJ (a : Addr) (j : Option Nat) : TE := fun σ H Q => SJ σ a j ∧ Q (.ref a) H
theorem XOk.svar (ok : XOk tx N nf C G k Ns X rs sc Wx) {e : Expr} (h : varJ Ns sc j e = true) : PE (X.suite a pn) e (tJ a j) := by
  cases j with
  | none => cases h
  | some j => exact peImp (ok.svar0 h) fun σ H Q hq => ⟨_, hq.1, hq.2⟩
mutual
theorem x_ok (ok : XOk tx N nf C G k Ns X rs sc Wx) (xc : XcOk N nx R) (hz : Zc cls d oe) (hf : ∃ vs, oe.data = .fields vs) (ks : List Nat) : ∀ (x : XE) (e : Expr), chkX tx Ns sc j ks x e = true → PE (X.suite a ((a, oe) :: pn)) e (TXv N nx a cls d j ks x)
  | .none, e, h => by
    have h' : noneB e = true := h
    unfold noneB at h'
    split at h'
    · rename_i q
      obtain ⟨_, _, rfl⟩ := unConst_of q
      exact x_const pe_non (fun _ => rfl) fun _ _ => rfl
    · cases h'
  | .bool b, e, h => by
    obtain ⟨_, _, rfl⟩ := unConst_of (of_decide_eq_true h)
    exact x_const pe_bl (fun _ => rfl) fun _ _ => rfl
  | .int b, e, h => by
    obtain ⟨_, _, rfl⟩ := unConst_of (of_decide_eq_true h)
    exact x_const pe_int (fun _ => rfl) fun _ _ => rfl
  | .str b, e, h => by
    obtain ⟨_, _, rfl⟩ := unConst_of (of_decide_eq_true h)
    exact x_const pe_str (fun _ => rfl) fun _ _ => rfl
  | .fld k, e, h => by
    have h' : (match unAttr e with
      | some (eo, f, _) => varJ Ns sc j eo && notCall eo && ks.all (fun c => decide ((tx.xf[c]?).bind (·[k]?) = some f))
      | none => false) = true := h
    split at h'
    · rename_i eo f p q
      rw [unAttr_of q]
      simp only [Bool.and_eq_true, List.all_eq_true, decide_eq_true_eq] at h'
      obtain ⟨⟨h1, h2⟩, h3⟩ := h'
      refine ⟨fun pins s σ H Q I hq => ?_⟩
      obtain ⟨W, cc, fs, dd, ca, hk, hj, ev, kk⟩ := hq
      have h4 := h3 cc hk
      cases q5 : tx.xf[cc]? with
      | none => rw [q5] at h4; cases h4
      | some l =>
        rw [q5] at h4
        have e5 := ok.xfs cc l q5
        have h6 : (N.xfs cc)[k]? = some f := by rw [e5]; exact h4
        have hmem : f ∈ N.xfs cc := List.mem_of_getElem? h6
        refine (pe_xf (X := X) (C := N.exc cc) (by rw [ok.hK]; exact xc.xf cc ca.lt) (by rw [ok.hK]; exact xc.nof cc ca.lt f hmem) hz hf (ok.svar h1) (attr_base h2)).run pins s σ H Q I ?_
        obtain ⟨x, rfl, gs, g1, g2⟩ := ca.dx
        obtain ⟨f', v, e6, e7, rp⟩ := g2 k dd (lookF_mem ev)
        rw [h6] at e6; cases e6
        exact ⟨hj, rfl, ca.cls, x, gs, v, rfl, g1, e7, kk v H .refl rp⟩
    · cases h'
  | .tup l, e, h => by
    have h' : (match unTup e with
      | some es => decide (lenX l ≤ 1000) && chkXs tx Ns sc j ks l es
      | none => false) = true := h
    split at h'
    · rename_i es q
      obtain ⟨_, _, rfl⟩ := unTup_of q
      rw [Bool.and_eq_true, decide_eq_true_eq] at h'
      refine peImp (pe_tup (xs_ok ok xc hz hf ks l es h'.2)) fun σ H Q hq => ?_
      obtain ⟨W, cc, fs, dd, ca, hk, hj, ev, kk⟩ := hq
      have ev' : (XE.vs fs l).map D.tup = some dd := ev
      cases q2 : XE.vs fs l with
      | none => rw [q2] at ev'; cases ev'
      | some ds =>
        rw [q2] at ev'; cases ev'
        refine ⟨W, cc, fs, ds, ca, hk, hj, q2, fun vs H1 ex hvs => ⟨?_, ?_⟩⟩
        · rw [← hvs.length, xvs_len q2, sizeLine_eq]; omega
        · intro p hp
          have e2 : Ext F0 H1 W (upd H1 p (.tup vs)) W := Ext.new hp
          exact kk _ _ (ex.trans0 e2 ca.tr) ⟨p, vs, rfl, .inl (.inl upd_same), e2.reps (fun _ h => h.elim) hvs⟩
    · cases h'
  | .lst l, e, h => by
    have h' : (match unLst e with
      | some es => decide (lenX l ≤ 1000) && chkXs tx Ns sc j ks l es
      | none => false) = true := h
    split at h'
    · rename_i es q
      obtain ⟨_, rfl⟩ := unLst_of q
      rw [Bool.and_eq_true, decide_eq_true_eq] at h'
      refine peImp (pe_lst (xs_ok ok xc hz hf ks l es h'.2)) fun σ H Q hq => ?_
      obtain ⟨W, cc, fs, dd, ca, hk, hj, ev, kk⟩ := hq
      have ev' : (XE.vs fs l).map D.lst = some dd := ev
      cases q2 : XE.vs fs l with
      | none => rw [q2] at ev'; cases ev'
      | some ds =>
        rw [q2] at ev'; cases ev'
        refine ⟨W, cc, fs, ds, ca, hk, hj, q2, fun vs H1 ex hvs => ⟨?_, ?_⟩⟩
        · rw [← hvs.length, xvs_len q2, sizeLine_eq]; omega
        · intro p hp
          have e2 : Ext F0 H1 W (upd H1 p (.lst vs)) W := Ext.new hp
          have nw : ¬ W p := fun w => by
            obtain ⟨o, h1, _⟩ := (ex.tr0 ca.tr) p w
            rw [hp] at h1; cases h1
          exact kk _ _ (ex.trans0 e2 ca.tr) ⟨p, vs, rfl, nw, upd_same, e2.reps (fun _ h => h.elim) hvs⟩
    · cases h'
  | .nil, e, h => nomatch h
  | .cons _ _, e, h => nomatch h
theorem xs_ok (ok : XOk tx N nf C G k Ns X rs sc Wx) (xc : XcOk N nx R) (hz : Zc cls d oe) (hf : ∃ vs, oe.data = .fields vs) (ks : List Nat) : ∀ (x : XE) (es : List Expr), chkXs tx Ns sc j ks x es = true → PA (X.suite a ((a, oe) :: pn)) es (TXvs N nx a cls d j ks x)
  | .nil, [], h => by
    refine paImp pa_nil fun σ H Q hq => ?_
    obtain ⟨W, cc, fs, dd, ca, hk, hj, ev, kk⟩ := hq
    cases ev
    exact kk [] H .refl rfl
  | .nil, _ :: _, h => nomatch h
  | .cons x b, [], h => nomatch h
  | .cons x b, e :: es, h => by
    have h' : (notStar e && chkX tx Ns sc j ks x e && chkXs tx Ns sc j ks b es) = true := h
    simp only [Bool.and_eq_true] at h'
    refine paImp (pa_cons (x_ok ok xc hz hf ks x e h'.1.2) (xs_ok ok xc hz hf ks b es h'.2) (star_cons h'.1.1 es _)) fun σ H Q hq => ?_
    obtain ⟨W, cc, fs, dd, ca, hk, hj, ev, kk⟩ := hq
    have ev' : ((XE.v fs x).bind fun d => (XE.vs fs b).map (d :: ·)) = some dd := ev
    cases q : XE.v fs x with
    | none => rw [q] at ev'; cases ev'
    | some z =>
      rw [q] at ev'
      cases q2 : XE.vs fs b with
      | none => rw [q2] at ev'; cases ev'
      | some zs =>
        rw [q2] at ev'; cases ev'
        exact ⟨W, cc, fs, z, ca, hk, hj, q, fun v H1 ex rv => ⟨W, cc, fs, zs, ca.mono ex, hk, hj, q2, fun vs H2 ex2 rvs => kk (v :: vs) H2 (ex.trans0 ex2 ca.tr) ⟨v, vs, rfl, ex2.rep0 rv, rvs⟩⟩⟩
  | .none, es, h => by cases es <;> exact nomatch h
  | .bool _, es, h => by cases es <;> exact nomatch h
  | .int _, es, h => by cases es <;> exact nomatch h
  | .str _, es, h => by cases es <;> exact nomatch h
  | .fld _, es, h => by cases es <;> exact nomatch h
  | .tup _, es, h => by cases es <;> exact nomatch h
  | .lst _, es, h => by cases es <;> exact nomatch h
end
end
end PX

end

section
set_option Elab.async false
set_option linter.all false
set_option autoImplicit false
set_option maxRecDepth 100000
set_option maxHeartbeats 4000000
namespace PX
open PySem PySem.Spec PyProof.Rows L2
section
variable {N : Nm} {X : Cx} {nx : Nat} {R a : Addr} {cls : Value} {d : Option Addr} {cc : Nat} {fs : List (Nat × D)} {σ : L2.St} {H H1 H2 : Hp} {W W1 : Addr → Prop} {oe : Obj} {pn : List (Addr × Obj)}
/-- isinstance of the caught exception -/
theorem kit_exc (xc : XcOk N nx R) (hK : X.K = N.K) (hz : Zc cls d oe) (hf : ∃ vs, oe.data = .fields vs) (ca : Caught N nx cls d cc fs H W) {pins : List (Addr × Obj)} {s : Shared} (I : Inv (X.suite a ((a, oe) :: pn)) pins σ H s) :
    ∃ od, PySem.W.KitX X.K (.ref a) (.ref (N.exc cc)) (fun h => PySem.W.InstAt h a oe (N.exc cc) (some od)) ∧ PySem.W.InstAt s.heap a oe (N.exc cc) (some od) := by
  obtain ⟨ha, _⟩ := I.pin (a, oe) (List.mem_append_left _ List.mem_cons_self)
  obtain ⟨vs, hd⟩ := hf
  obtain ⟨x, rfl, gs, g1, g2⟩ := ca.dx
  have hx : ObjOk X.prog X.w H s.heap x (.xd gs) := I.hok x _ g1
  obtain ⟨mA, hns, hr⟩ := hx
  obtain ⟨od, ho, hl⟩ := lookIn_ns hns
  have J : PySem.W.InstAt s.heap a oe (N.exc cc) (some od) := ⟨ha, hz.1.trans ca.cls, by unfold PySem.W.notCls; rw [hd] <;> rfl, by rw [hz.2]; exact ho⟩
  obtain ⟨nm, q, Nn, bs, bm, sn, sub, ab, col, dd, k0, k1, k2, k3, k5, hC, hbm⟩ := (xc.oex cc ca.lt).cls
  rw [hK]
  exact ⟨od, PySem.W.kitx_exc (by unfold PySem.W.clsIn; rw [hC] <;> rfl) (xc.xf cc ca.lt).ga (xc.xf cc ca.lt).gg (xc.xf cc ca.lt).exC (xc.ca cc ca.lt) xc.hn xc.ht (xc.hm cc ca.lt), J⟩
/-- isinstance(e, c) -/
def rIsX (N : Nm) (nx : Nat) (a : Addr) (cls : Value) (d : Option Addr) : List V → Hp → VK → Prop := fun xs H Q => ∃ (c : V) (cv : Value) (b : Bool) (W : Addr → Prop) (cc : Nat) (fs : List (Nat × D)), xs = [.ref a, c] ∧ ClsV c cv ∧ Caught N nx cls d cc fs H W ∧ PySem.W.kitOne N.K (.ref (N.exc cc)) cv = some b ∧ Q (.bl b) H
theorem call_isX (xc : XcOk N nx R) (hK : X.K = N.K) (hz : Zc cls d oe) (hf : ∃ vs, oe.data = .fields vs) : CallR (X.suite a ((a, oe) :: pn)) (.builtin "isinstance") (rIsX N nx a cls d) := by
  intro pins s σ H xs us Q I r h
  obtain ⟨c, cv, b, W, cc, fs, rfl, k, ca, e, q⟩ := h
  obtain ⟨u1, u2, rfl, r1, r2⟩ := vals2 r
  cases (show u1 = Value.ref a from r1)
  have e2 := k.eq r2
  subst e2
  obtain ⟨od, Z, p⟩ := kit_exc (X := X) (pn := pn) xc hK hz hf ca I
  exact PySem.W.kia_one Z I.kIn p (by show PySem.W.kitOne X.K _ _ = _; rw [hK]; exact e) (fun z => nomatch z) fun tk => ⟨.bl b, H, I.tok tk, rfl, q⟩
/-- isinstance(e, (c, ..)) -/
def rIsXT (N : Nm) (nx : Nat) (a : Addr) (cls : Value) (d : Option Addr) : List V → Hp → VK → Prop := fun xs H Q => ∃ (tp : Addr) (cs : List V) (us : List Value) (b : Bool) (W : Addr → Prop) (cc : Nat) (fs : List (Nat × D)), xs = [.ref a, .ref tp] ∧ H tp = some (.tup cs) ∧ Paired ClsV cs us ∧ Caught N nx cls d cc fs H W ∧ PySem.W.kitAny N.K (.ref (N.exc cc)) us = some b ∧ Q (.bl b) H
theorem call_isXT (xc : XcOk N nx R) (hK : X.K = N.K) (hz : Zc cls d oe) (hf : ∃ vs, oe.data = .fields vs) : CallR (X.suite a ((a, oe) :: pn)) (.builtin "isinstance") (rIsXT N nx a cls d) := by
  intro pins s σ H xs us Q I r h
  obtain ⟨tp, cs, ws, b, W, cc, fs, rfl, hT, k, ca, e, q⟩ := h
  obtain ⟨u1, u2, rfl, r1, r2⟩ := vals2 r
  cases (show u1 = Value.ref a from r1)
  cases (show u2 = Value.ref tp from r2)
  obtain ⟨od, Z, p⟩ := kit_exc (X := X) (pn := pn) xc hK hz hf ca I
  obtain ⟨_, its, rv, o, h1, h2, n, h3⟩ := (show ObjOk X.prog X.w H s.heap tp (.tup cs) from I.hok tp _ hT)
  have e3 := ClsV.all k rv
  subst e3
  obtain ⟨oc, od, dt, sl⟩ := o
  simp only at h2 h3
  subst h2 h3
  exact PySem.W.kia_tup Z I.kIn p h1 (by show PySem.W.kitAny X.K _ _ = _; rw [hK]; exact e) (fun z => nomatch z) fun tk => ⟨.bl b, H, I.tok tk, rfl, q⟩
/-! #### tests -/
section
variable (tx : Tx) (Ns : List Str) (sc : Scope) (j : Option Nat)
def exB (c : Nat) (e : Expr) : Bool := match unName e with
  | some x => decide (tx.ex[c]? = some x) && glB sc x && !dbgB x
  | none => false
def exBs : List Nat → List Expr → Bool
  | [], [] => true
  | c :: cs, e :: es => exB tx sc c e && exBs cs es
  | _, _ => false
def chkK (t : XT) (e : Expr) : Bool := match unFn e with
  | some (x, [en, ek]) => decide (x = "isinstance") && glB sc x && varJ Ns sc j en && notStar en && (if t.tup then (match unTup ek with
      | some es => decide (t.ks.length ≤ 1000) && exBs tx sc t.ks es
      | none => false) else (match t.ks with
      | [c] => exB tx sc c ek
      | _ => false))
  | _ => false
def veB (e : Expr) : Bool := match unFn e with
  | some (x, [en, ek]) => decide (x = "isinstance") && glB sc x && varJ Ns sc j en && notStar en && (match unName ek with
      | some y => decide (y = "ValueError") && glB sc y
      | none => false)
  | _ => false
def chkXT (t : XT) (e : Expr) : Bool := if t.ve then (match unBool e with
    | some (.And, [l, r], _) => chkK tx Ns sc j t l && veB Ns sc j r
    | _ => false) else chkK tx Ns sc j t e
end
variable {tx : Tx} {nf : Nat} {C : Call} {G : Nat → D} {k : Nat} {Ns : List Str} {rs sc : Scope} {Wx : WX} {j : Option Nat}
/-- a test of a suite -/
def TXt (N : Nm) (nx : Nat) (a : Addr) (cls : Value) (d : Option Addr) (j : Option Nat) (f : Nat → Bool) : TT := fun σ H Q => ∃ W cc fs, Caught N nx cls d cc fs H W ∧ SJ σ a j ∧ ∀ H1, Ext F0 H W H1 W → Q (f cc) H1
theorem XOk.sgl (ok : XOk tx N nf C G k Ns X rs sc Wx) {x : Str} (h : glB sc x = true) : Gl (X.suite a pn) x := ok.gl h
theorem ex_name (ok : XOk tx N nf C G k Ns X rs sc Wx) {c : Nat} {e : Expr} (h : exB tx sc c e = true) : PE (X.suite a pn) e (tC (.ref (N.exc c))) := by
  unfold exB at h
  split at h
  · rename_i x q
    obtain ⟨p, rfl⟩ := unName_of q
    simp only [Bool.and_eq_true, Bool.not_eq_true', dbgB, Bool.or_eq_false_iff, decide_eq_true_eq] at h
    exact pe_glob (X := X.suite a pn) (ok.sgl h.1.2) (ok.exg c x h.1.1) rfl h.2.1
  · cases h
theorem ex_lt {c : Nat} {e : Expr} (h : exB tx sc c e = true) : c < tx.ex.length := by
  unfold exB at h
  split at h
  · simp only [Bool.and_eq_true, decide_eq_true_eq] at h
    exact (List.getElem?_eq_some_iff.mp h.1.1).1
  · cases h
theorem ex_star {c : Nat} {e : Expr} (h : exB tx sc c e = true) : notStar e = true := by
  unfold exB at h
  split at h
  · rename_i x q
    obtain ⟨p, rfl⟩ := unName_of q
    rfl
  · cases h
theorem ex_names (ok : XOk tx N nf C G k Ns X rs sc Wx) : ∀ {cs : List Nat} {es : List Expr}, exBs tx sc cs es = true → PA (X.suite a pn) es (fun _ H Q => Q (cs.map fun c => V.ref (N.exc c)) H)
  | [], [], _ => pa_nil
  | [], _ :: _, h => nomatch h
  | _ :: _, [], h => nomatch h
  | c :: cs, e :: es, h => by
    have h' : (exB tx sc c e && exBs tx sc cs es) = true := h
    rw [Bool.and_eq_true] at h'
    have hn : notStar e = true := by
      have := h'.1
      unfold exB at this
      split at this
      · rename_i x q
        obtain ⟨p, rfl⟩ := unName_of q
        rfl
      · cases this
    exact paImp (pa_cons (ex_name ok h'.1) (ex_names ok h'.2) (star_cons hn es _)) fun σ H Q hq => hq
theorem exs_lt : ∀ {cs : List Nat} {es : List Expr}, exBs tx sc cs es = true → ∀ c ∈ cs, c < tx.ex.length
  | [], _, _ => fun _ h => by cases h
  | _ :: _, [], h => nomatch h
  | c :: cs, e :: es, h => by
    have h' : (exB tx sc c e && exBs tx sc cs es) = true := h
    rw [Bool.and_eq_true] at h'
    intro z hz
    rcases List.mem_cons.mp hz with rfl | hz
    · exact ex_lt h'.1
    · exact exs_lt h'.2 z hz
theorem kit_ex (xc : XcOk N nx R) (hc : cc < nx) : ∀ {cs : List Nat}, (∀ c ∈ cs, c < nx) → PySem.W.kitAny N.K (.ref (N.exc cc)) (cs.map fun c => .ref (N.exc c)) = some (cs.elem cc)
  | [], _ => kitAny_nil
  | c :: cs, h => by
    rw [List.map_cons]
    refine kitAny_cons (b := cc == c) (xc.one cc c hc (h c List.mem_cons_self)) (fun e => ?_) (fun e => ?_)
    · rw [kit_ex xc hc fun z hz => h z (List.mem_cons_of_mem _ hz), List.elem_cons, e]
    · rw [List.elem_cons, e]
theorem clsv_ex : ∀ cs : List Nat, Paired ClsV (cs.map fun c => V.ref (N.exc c)) (cs.map fun c => Value.ref (N.exc c))
  | [] => .nil
  | c :: cs => .cons (.own _) (clsv_ex cs)
theorem xk_ok (ok : XOk tx N nf C G k Ns X rs sc Wx) (xc : XcOk N nx R) (hnx : tx.ex.length = nx) (hz : Zc cls d oe) (hf : ∃ vs, oe.data = .fields vs) {t : XT} {e : Expr} (h : chkK tx Ns sc j t e = true) : PT (X.suite a ((a, oe) :: pn)) e (TXt N nx a cls d j fun c => t.ks.elem c) := by
  unfold chkK at h
  split at h
  · rename_i x en ek q
    obtain ⟨p, q2, rfl⟩ := unFn_of q
    simp only [Bool.and_eq_true, decide_eq_true_eq] at h
    obtain ⟨⟨⟨⟨rfl, h2⟩, h3⟩, h4⟩, h5⟩ := h
    have fr : X.mg (Str.ofString "isinstance") = none := ok.free _ (by decide)
    by_cases ht : t.tup = true
    · rw [if_pos ht] at h5
      split at h5
      · rename_i es q3
        obtain ⟨kk, pp, rfl⟩ := unTup_of q3
        rw [Bool.and_eq_true, decide_eq_true_eq] at h5
        refine ptImp (pt_val (pe_callB (call_isXT (X := X) (pn := pn) xc ok.hK hz hf) (ok.sgl h2) fr rfl (pa_cons (ok.svar h3) (pa_cons (pe_tup (ex_names ok h5.2)) pa_nil) (star_cons h4 _ _)) (by decide) (by decide) (star_cons h4 _ _)) (fun _ => rfl)) fun σ H Q hq => ?_
        obtain ⟨W, cc, fs, ca, hj, kq⟩ := hq
        refine ⟨hj, ?_, fun p hp => ?_⟩
        · rw [List.length_map, sizeLine_eq]; omega
        have e2 : Ext F0 H W (upd H p (.tup (t.ks.map fun c => V.ref (N.exc c)))) W := Ext.new hp
        exact ⟨p, _, _, t.ks.elem cc, W, cc, fs, rfl, upd_same, clsv_ex _, ca.mono e2, kit_ex xc ca.lt fun c hc => by rw [← hnx]; exact exs_lt h5.2 c hc, _, rfl, kq _ e2⟩
      · cases h5
    · rw [if_neg ht] at h5
      split at h5
      · rename_i c q3
        refine ptImp (pt_val (pe_callB (call_isX (X := X) (pn := pn) xc ok.hK hz hf) (ok.sgl h2) fr rfl (pa_cons (ok.svar h3) (pa_cons (ex_name ok h5) pa_nil (star_cons (ex_star h5) _ _)) (star_cons h4 _ _)) (by decide) (by decide) (star_cons h4 _ _) (star_any (by rw [List.all_cons, ex_star h5] <;> rfl))) (fun _ => rfl)) fun σ H Q hq => ?_
        obtain ⟨W, cc, fs, ca, hj, kq⟩ := hq
        refine ⟨hj, .ref (N.exc c), .ref (N.exc c), cc == c, W, cc, fs, rfl, .own _, ca, xc.one cc c ca.lt (by rw [← hnx]; exact ex_lt h5), _, rfl, ?_⟩
        have e6 : (t.ks.elem cc) = (cc == c) := by
          rw [q3]
          show (match cc == c with | true => true | false => false) = _
          cases (cc == c) <;> rfl
        rw [← e6]
        exact kq H .refl
      · cases h5
  · cases h
theorem ve_ok (ok : XOk tx N nf C G k Ns X rs sc Wx) (xc : XcOk N nx R) (hv : X.mg (Str.ofString "ValueError") = none) (hz : Zc cls d oe) (hf : ∃ vs, oe.data = .fields vs) {e : Expr} (h : veB Ns sc j e = true) : PT (X.suite a ((a, oe) :: pn)) e (TXt N nx a cls d j fun c => true) := by
  unfold veB at h
  split at h
  · rename_i x en ek q
    obtain ⟨p, q2, rfl⟩ := unFn_of q
    simp only [Bool.and_eq_true, decide_eq_true_eq] at h
    obtain ⟨⟨⟨⟨rfl, h2⟩, h3⟩, h4⟩, h5⟩ := h
    have fr : X.mg (Str.ofString "isinstance") = none := ok.free _ (by decide)
    split at h5
    · rename_i y q3
      obtain ⟨p3, rfl⟩ := unName_of q3
      simp only [Bool.and_eq_true, decide_eq_true_eq] at h5
      obtain ⟨rfl, h6⟩ := h5
      have hpe : PE (X.suite a ((a, oe) :: pn)) (.Name "ValueError" p3) (tC (.ty "ValueError")) := pe_bltn (v := .ty _) (u := .type _) (ok.sgl h6) hv PyProof.Rows.Boot.«ValueError» rfl (by decide) (by decide)
      refine ptImp (pt_val (pe_callB (call_isX (X := X) (pn := pn) xc ok.hK hz hf) (ok.sgl h2) fr rfl (pa_cons (ok.svar h3) (pa_cons hpe pa_nil) (star_cons h4 _ _)) (by decide) (by decide) (star_cons h4 _ _)) (fun _ => rfl)) fun σ H Q hq => ?_
      obtain ⟨W, cc, fs, ca, hj, kq⟩ := hq
      exact ⟨hj, .ty "ValueError", .type "ValueError", true, W, cc, fs, rfl, .ty _, ca, xc.ve cc ca.lt, _, rfl, kq H .refl⟩
    · cases h5
  · cases h
theorem xt_ok (ok : XOk tx N nf C G k Ns X rs sc Wx) (xc : XcOk N nx R) (hnx : tx.ex.length = nx) (hv : X.mg (Str.ofString "ValueError") = none) (hz : Zc cls d oe) (hf : ∃ vs, oe.data = .fields vs) {t : XT} {e : Expr} (h : chkXT tx Ns sc j t e = true) : PT (X.suite a ((a, oe) :: pn)) e (TXt N nx a cls d j fun c => t.ks.elem c) := by
  unfold chkXT at h
  by_cases hve : t.ve = true
  · rw [if_pos hve] at h
    split at h
    · rename_i l r p q
      rw [unBool_of q]
      rw [Bool.and_eq_true] at h
      refine ptImp (pw_and (xk_ok ok xc hnx hz hf h.1) (pw_and1 (ve_ok ok xc hv hz hf h.2))).pt fun σ H Q hq => ?_
      obtain ⟨W, cc, fs, ca, hj, kq⟩ := hq
      have kq : ∀ (H1 : Hp), Ext F0 H W H1 W → Q (t.ks.elem cc) H1 := kq
      refine ⟨W, cc, fs, ca, hj, fun H1 ex => ?_⟩
      cases hk : t.ks.elem cc with
      | true =>
        rw [hk] at kq
        rw [if_pos hk]
        exact ⟨W, cc, fs, ca.mono ex, hj, fun H2 ex2 => kq H2 (ex.trans0 ex2 ca.tr)⟩
      | false =>
        rw [hk] at kq
        rw [if_neg (show ¬ t.ks.elem cc = true by rw [hk]; exact Bool.false_ne_true)]
        exact kq H1 ex
    · cases h
  · rw [if_neg hve] at h
    exact xk_ok ok xc hnx hz hf h
/-! #### a suite -/
section
variable (tx : Tx) (Ns : List Str) (sc : Scope) (i : Nat) (j : Option Nat)
def unIf1 : Stmt → Option (Expr × Stmt)
  | .If c [s] [] _ => some (c, s)
  | _ => none
def unAs1 : Stmt → Option (Expr × Expr)
  | .Assign [t] e _ => some (t, e)
  | _ => none
def chkH0 (ks : List Nat) (x : XE) (st : Stmt) : Bool := match unAs1 st with
  | some (t, e) => tgB Ns sc (.name i) t && notComp e && chkX tx Ns sc j ks x e
  | none => false
def chkH1 (t : Option XT) (x : XE) (st : Stmt) : Bool := match t with
  | none => chkH0 tx Ns sc i j (List.range tx.ex.length) x st
  | some t => (match unIf1 st with
    | some (c, s) => chkXT tx Ns sc j t c && chkH0 tx Ns sc i j t.ks x s
    | none => false)
def chkH : List (Option XT × XE) → List Stmt → Bool
  | [], [] => true
  | (t, x) :: h, st :: ss => chkH1 tx Ns sc i j t x st && chkH h ss
  | _, _ => false
end
theorem unIf1_of {st s : Stmt} {c : Expr} (h : unIf1 st = some (c, s)) : ∃ p, st = .If c [s] [] p := by
  unfold unIf1 at h
  split at h
  · cases h; exact ⟨_, rfl⟩
  · cases h
theorem unAs1_of {st : Stmt} {t e : Expr} (h : unAs1 st = some (t, e)) : ∃ p, st = .Assign [t] e p := by
  unfold unAs1 at h
  split at h
  · cases h; exact ⟨_, rfl⟩
  · cases h
variable {i : Nat}
/-- what a suite wants: at its end slot i holds res -/
def TSu (N : Nm) (nx : Nat) (a : Addr) (cls : Value) (d : Option Addr) (i : Nat) (j : Option Nat) (h : List (Option XT × XE)) : TS := fun D σ H => ∃ W cc fs d0 v0 res, Caught N nx cls d cc fs H W ∧ SJ σ a j ∧ σ[i]? = some (some v0) ∧ Rep N H W d0 v0 ∧ hVal cc fs h d0 = some res ∧
  ∀ σ1 H1 v, Ext F0 H W H1 W → (∀ m, m ≠ i → σ1[m]? = σ[m]?) → σ1[i]? = some (some v) → Rep N H1 W res v → D.nx σ1 H1
/-- .. behind one statement -/
def TSo (N : Nm) (nx : Nat) (a : Addr) (cls : Value) (d : Option Addr) (i : Nat) (j : Option Nat) (ks : List Nat) (x : XE) : TS := fun D σ H => ∃ W cc fs dd, Caught N nx cls d cc fs H W ∧ cc ∈ ks ∧ SJ σ a j ∧ x.v fs = some dd ∧ ∀ v H1, Ext F0 H W H1 W → Rep N H1 W dd v → D.nx (σ.set i (some v)) H1
theorem h0_ok (ok : XOk tx N nf C G k Ns X sc sc Wx) (xc : XcOk N nx R) (hz : Zc cls d oe) (hf : ∃ vs, oe.data = .fields vs) {ks : List Nat} {x : XE} {st : Stmt} (h : chkH0 tx Ns sc i j ks x st = true) : PS (X.suite a ((a, oe) :: pn)) st (TSo N nx a cls d i j ks x) := by
  unfold chkH0 at h
  split at h
  · rename_i t e q
    obtain ⟨p, rfl⟩ := unAs1_of q
    simp only [Bool.and_eq_true] at h
    obtain ⟨⟨h1, h2⟩, h3⟩ := h
    have h' : (match unName t with
      | some x => slotB Ns i x && locB sc x
      | none => false) = true := h1
    cases q2 : unName t with
    | none => rw [q2] at h'; cases h'
    | some y =>
      rw [q2] at h'
      obtain ⟨p2, rfl⟩ := unName_of q2
      simp only [Bool.and_eq_true, slotB, decide_eq_true_eq] at h'
      obtain ⟨l1, l2⟩ := ok.store h'.2
      refine psImp (ps_set (X := X.suite a ((a, oe) :: pn)) (by show X.N.Nodup; rw [ok.hN]; exact ok.nd) (by show X.N[i]? = some y; rw [ok.hN]; exact h'.1) l1 (x_ok ok xc hz hf ks x e h3) (swaps_no h2) l2) fun D σ H hq => ?_
      obtain ⟨W, cc, fs, dd, ca, hk, hj, ev, kk⟩ := hq
      exact ⟨W, cc, fs, dd, ca, hk, hj, ev, fun v H1 ex rv => kk v H1 ex rv⟩
  · cases h
theorem h1_ok (ok : XOk tx N nf C G k Ns X sc sc Wx) (xc : XcOk N nx R) (hnx : tx.ex.length = nx) (hv : X.mg (Str.ofString "ValueError") = none) (hij : j ≠ some i) (hz : Zc cls d oe) (hf : ∃ vs, oe.data = .fields vs) {t : Option XT} {x : XE} {st : Stmt} (h : chkH1 tx Ns sc i j t x st = true) : PS (X.suite a ((a, oe) :: pn)) st (TSu N nx a cls d i j [(t, x)]) := by
  cases t with
  | none =>
    refine psImp (h0_ok ok xc hz hf (ks := List.range tx.ex.length) h) fun D σ H hq => ?_
    obtain ⟨W, cc, fs, d0, v0, res, ca, hj, hi, r0, hval, kk⟩ := hq
    have hval' : ((x.v fs).bind fun d => some d) = some res := hval
    cases q : x.v fs with
    | none => rw [q] at hval'; cases hval'
    | some dd =>
      rw [q] at hval'; cases hval'
      exact ⟨W, cc, fs, _, ca, by rw [List.mem_range, hnx]; exact ca.lt, hj, q, fun v H1 ex rv => kk _ H1 v ex (fun m hn => List.getElem?_set_ne (Ne.symm hn)) (List.getElem?_set_self (List.getElem?_eq_some_iff.mp hi).1) rv⟩
  | some t =>
    have h' : (match unIf1 st with
      | some (c, s) => chkXT tx Ns sc j t c && chkH0 tx Ns sc i j t.ks x s
      | none => false) = true := h
    split at h'
    · rename_i c s q
      obtain ⟨p, rfl⟩ := unIf1_of q
      rw [Bool.and_eq_true] at h'
      refine psImp (ps_if (xt_ok ok xc hnx hv hz hf h'.1) (pss_one (h0_ok ok xc hz hf h'.2)) pss_nil) fun D σ H hq => ?_
      obtain ⟨W, cc, fs, d0, v0, res, ca, hj, hi, r0, hval, kk⟩ := hq
      have hval' : (if t.ks.elem cc then (x.v fs).bind fun d => some d else some d0) = some res := hval
      refine ⟨W, cc, fs, ca, hj, fun H1 ex => ?_⟩
      cases hk : t.ks.elem cc with
      | true =>
        rw [hk, if_pos rfl] at hval'
        cases q2 : x.v fs with
        | none => rw [q2] at hval'; cases hval'
        | some dd =>
          rw [q2] at hval'; cases hval'
          rw [if_pos hk]
          exact ⟨W, cc, fs, _, ca.mono ex, by rw [List.elem_eq_mem] at hk; exact of_decide_eq_true hk, hj, q2, fun v H2 ex2 rv => kk _ H2 v (ex.trans0 ex2 ca.tr) (fun m hn => List.getElem?_set_ne (Ne.symm hn)) (List.getElem?_set_self (List.getElem?_eq_some_iff.mp hi).1) rv⟩
      | false =>
        rw [hk, if_neg Bool.false_ne_true] at hval'
        cases hval'
        rw [if_neg (show ¬ t.ks.elem cc = true by rw [hk]; exact Bool.false_ne_true)]
        exact kk σ H1 v0 ex (fun _ _ => rfl) hi (ex.rep0 r0)
    · cases h'
theorem SJ.keep {σ1 : L2.St} (hij : j ≠ some i) (hm : ∀ m, m ≠ i → σ1[m]? = σ[m]?) (h : SJ σ a j) : SJ σ1 a j := by
  cases j with
  | none => trivial
  | some j =>
    have h' : σ[j]? = some (some (.ref a)) := h
    show σ1[j]? = some (some (.ref a))
    rw [hm j (fun e => hij (e ▸ rfl))]; exact h'
/-- what is left to do behind the first statement -/
theorem hcut {t : Option XT} {x : XE} {h : List (Option XT × XE)} {d0 res : D} (e : hVal cc fs ((t, x) :: h) d0 = some res) : ∃ d1, hVal cc fs [(t, x)] d0 = some d1 ∧ hVal cc fs h d1 = some res := by
  have e' : (if XT.on cc t then (x.v fs).bind fun d => hVal cc fs h d else hVal cc fs h d0) = some res := e
  by_cases ho : XT.on cc t = true
  · rw [if_pos ho] at e'
    cases q : x.v fs with
    | none => rw [q] at e'; cases e'
    | some dd =>
      rw [q] at e'
      refine ⟨dd, ?_, e'⟩
      show (if XT.on cc t then (x.v fs).bind fun d => some d else some d0) = some dd
      rw [if_pos ho, q] <;> rfl
  · rw [if_neg ho] at e'
    refine ⟨d0, ?_, e'⟩
    show (if XT.on cc t then (x.v fs).bind fun d => some d else some d0) = some d0
    rw [if_neg ho]
theorem h_ok (ok : XOk tx N nf C G k Ns X sc sc Wx) (xc : XcOk N nx R) (hnx : tx.ex.length = nx) (hv : X.mg (Str.ofString "ValueError") = none) (hij : j ≠ some i) (hz : Zc cls d oe) (hf : ∃ vs, oe.data = .fields vs) : ∀ {h : List (Option XT × XE)} {ss : List Stmt}, chkH tx Ns sc i j h ss = true → PSs (X.suite a ((a, oe) :: pn)) ss (TSu N nx a cls d i j h)
  | [], [], _ => pssImp pss_nil fun D σ H ⟨W, cc, fs, d0, v0, res, ca, hj, hi, r0, hval, kk⟩ => by
    cases hval
    exact kk σ H v0 .refl (fun _ _ => rfl) hi r0
  | [], _ :: _, h => nomatch h
  | _ :: _, [], h => nomatch h
  | (t, x) :: h, st :: ss, hc => by
    have h' : (chkH1 tx Ns sc i j t x st && chkH tx Ns sc i j h ss) = true := hc
    rw [Bool.and_eq_true] at h'
    refine pssImp (pss_cons (h1_ok ok xc hnx hv hij hz hf h'.1) (h_ok ok xc hnx hv hij hz hf h'.2)) fun D σ H ⟨W, cc, fs, d0, v0, res, ca, hj, hi, r0, hval, kk⟩ => ?_
    obtain ⟨d1, e1, e2⟩ := hcut hval
    exact ⟨W, cc, fs, d0, v0, d1, ca, hj, hi, r0, e1, fun σ1 H1 v ex hm h1 rv => ⟨W, cc, fs, d1, v, res, ca.mono ex, SJ.keep hij hm hj, h1, rv, e2, fun σ2 H2 v2 ex2 hm2 h2 rv2 => kk σ2 H2 v2 (ex.trans0 ex2 ca.tr) (fun m hn => by rw [hm2 m hn, hm m hn]) h2 rv2⟩⟩
end
end PX

end

section
set_option Elab.async false
set_option linter.all false
set_option autoImplicit false
set_option maxRecDepth 100000
set_option maxHeartbeats 4000000
namespace PX
open PySem PySem.Spec PyProof.Rows L2
section
variable {N : Nm} {X : Cx} {nx : Nat} {R : Addr} {cc : Nat} {fs : List (Nat × D)} {σ : L2.St} {ρ : Ev} {H H0 H1 H2 : Hp} {W W1 : Addr → Prop}
variable {tx : Tx} {nf : Nat} {k : Nat} {Ns : List Str} {rs sc : Scope} {Wx : WX}
variable (C : Call) (G : Nat → D)
theorem XOk.tr (ok : XOk tx N nf C G k Ns X rs sc Wx) {W' : WX} {pn : List (Addr × Obj)} {xe : Value → Shared → Prop} (tk : Takes (X.tr pn xe) W') : XOk tx N nf C G k Ns (X.tr pn xe) rs sc W' :=
  ⟨ok.hK, ok.hP, ok.hw, ok.calm, ok.room, ok.hN, ok.nd, ok.hsc, ok.fn, tk, ok.free, fun f x h => let ⟨fa, a, b, c⟩ := ok.fns f x h; ⟨fa, a, b, ⟨c.fn⟩⟩,
    fun f c m h => let ⟨fa, a, b, d, e⟩ := ok.mes f c m h; ⟨fa, a, b, ⟨d.fn⟩, e⟩, fun c f x h => let ⟨fa, a, b, d⟩ := ok.cls c f x h; ⟨fa, a, b, ⟨d.fn⟩⟩, ok.gls, ok.fls, ok.nm, ok.xc, ok.exg, ok.xfs, fun c l h1 h2 h3 => let ⟨h⟩ := ok.exi c l h1 h2 h3; ⟨h⟩⟩
theorem own_none (h : ρ.all nOwn = true) {a : Addr} : ¬ Own ρ σ a := fun ⟨i, p, d, h1, _⟩ => by
  have := List.all_eq_true.mp h _ (List.mem_of_getElem? h1)
  cases this
theorem ext_none (h : ρ.all nOwn = true) (e : Ext (Own ρ σ) H W H1 W1) : Ext F0 H W H1 W ∧ ∀ b, W b → W1 b :=
  ⟨⟨fun b o hb _ => e.keep b o hb (own_none h), fun b w => .inl w, fun b w _ => w, e.frz, e.tup, e.there⟩, fun b w => e.stay b w (own_none h)⟩
theorem ext_back (h : ρ.all nOwn = true) (e : Ext F0 H W H1 W) : Ext (Own ρ σ) H W H1 W := ⟨fun b o hb _ => e.keep b o hb id, fun b w => .inl w, fun b w _ => w, e.frz, e.tup, e.there⟩
theorem rel_none (h : ρ.all nOwn = true) (rel : RelS N H W σ ρ) (e : Ext F0 H W H1 W) : RelS N H1 W σ ρ := by
  refine ⟨rel.len, fun i c hc => ?_, fun i j p q d e' a h1 _ _ _ => ?_, e.tr0 rel.tr⟩
  · have s := rel.slot i c hc
    cases c with
    | unset => trivial
    | val d => exact let ⟨v, q1, q2⟩ := s; ⟨v, q1, e.rep0 q2⟩
    | own p d =>
      have := List.all_eq_true.mp h _ (List.mem_of_getElem? hc)
      cases this
  · have := List.all_eq_true.mp h _ (List.mem_of_getElem? h1)
    cases this
theorem ExcR.less {x : Addr} (m : ∀ b, W b → W1 b) (h : ExcR N H W1 cc fs x) : ExcR N H W cc fs x := by
  obtain ⟨gs, h1, h2⟩ := h
  refine ⟨gs, h1, fun i d hm => ?_⟩
  obtain ⟨f, v, q1, q2, q3⟩ := h2 i d hm
  exact ⟨f, v, q1, q2, Rep.less m q3⟩
/-- what the evaluator says of a try -/
theorem tryR_cases {i : Nat} {a : E} {j : Option Nat} {cs : Option Nat} {h : List (Option XT × XE)} {K : Fl → Ev → L2.St → Hp → (Addr → Prop) → Prop} (c : ContS N Wx σ ρ H W K (evS C G (.tryR i a j cs nx h) ρ)) :
    ρ.all nOwn = true ∧ jOk i ρ.length j = true ∧ ∃ d0, ρ[i]? = some (.val d0) ∧ ((∃ p ρ1, ev C G a ρ = .ok p ρ1 ∧ ContS N Wx σ ρ H W K (.ok (.ret p.1 false) ρ1)) ∨
      ∃ cc fs, ev C G a ρ = .exc cc fs ∧ cc < nx ∧ ((catches cs cc = true ∧ ∃ d, hVal cc fs h d0 = some d ∧ ContS N Wx σ ρ H W K (.ok (.ret d false) ρ)) ∨ (catches cs cc = false ∧ ContS N Wx σ ρ H W K (.exc cc fs)))) := by
  have c' : ContS N Wx σ ρ H W K (if ρ.all nOwn && jOk i ρ.length j then (match ρ[i]?, ev C G a ρ with
    | some (.val _), .ok p ρ => .ok (.ret p.1 false) ρ
    | some (.val d), .exc c fs => if c < nx then if catches cs c then (match hVal c fs h d with
      | some d => .ok (.ret d false) ρ
      | none => .bad) else .exc c fs else .bad
    | _, _ => .bad) else .bad) := c
  by_cases hg : (ρ.all nOwn && jOk i ρ.length j) = true
  case neg => rw [if_neg hg] at c'; exact c'.elim
  rw [if_pos hg] at c'
  rw [Bool.and_eq_true] at hg
  refine ⟨hg.1, hg.2, ?_⟩
  split at c'
  · rename_i d0 p ρ1 e1 e2
    exact ⟨_, e1, .inl ⟨_, _, e2, c'⟩⟩
  · rename_i d0 cc fs e1 e2
    refine ⟨_, e1, .inr ⟨_, _, e2, ?_⟩⟩
    by_cases hlt : cc < nx
    case neg => rw [if_neg hlt] at c'; exact c'.elim
    rw [if_pos hlt] at c'
    refine ⟨hlt, ?_⟩
    cases hca : catches cs cc with
    | true =>
      rw [hca, if_pos rfl] at c'
      cases hh : hVal cc fs h d0 with
      | none => rw [hh] at c'; exact c'.elim
      | some d => rw [hh] at c'; exact .inl ⟨rfl, d, rfl, c'⟩
    | false =>
      rw [hca, if_neg Bool.false_ne_true] at c'
      exact .inr ⟨rfl, c'⟩
  · exact c'.elim
/-- a try's one store -/
def tTb (N : Nm) (r : Ev → Res (D × Bool)) (i : Nat) (W' : WX) : TS := fun D σ H => TEv N W' r σ H fun v H1 => D.nx (σ.set i (some v)) H1
/-- what both ways of a try want -/
theorem try_imp {i : Nat} {a : E} {j : Option Nat} {cs : Option Nat} {h : List (Option XT × XE)} {D : Ends} (hq : TSt N Wx H0 (evS C G (.tryR i a j cs nx h)) D σ H) {W' : WX} {Dn : L2.St → Hp → Prop}
    (hn : ∀ σ1 H1 v, σ1[i]? = some (some v) → D.rt v H1 → Dn σ1 H1)
    (hw : ∀ cc fs x W, ∀ H1, cc < nx → Caught N nx (.ref (N.exc cc)) (some x) cc fs H1 W → (∃ d0 v0, σ[i]? = some (some v0) ∧ Rep N H1 W d0 v0 ∧ (∃ res, catches cs cc = true ∧ hVal cc fs h d0 = some res ∧ ∀ H2 v, Ext F0 H1 W H2 W → Rep N H2 W res v → D.rt v H2)) → jOk i σ.length j = true → W' (.ref (N.exc cc)) (some x) σ H1)
    (ho : ∀ cc x H1, cc < nx → catches cs cc = false → Wx (.ref (N.exc cc)) (some x) σ H1 → W' (.ref (N.exc cc)) (some x) σ H1) :
    TEv N W' (ev C G a) σ H fun v H1 => Dn (σ.set i (some v)) H1 := by
  obtain ⟨W, ρ, fr, c⟩ := hq
  obtain ⟨hno, hj, d0, e0, hcase⟩ := tryR_cases C G c
  obtain ⟨v0, ev0, rv0⟩ := fr.rel.slot i _ e0
  refine ⟨W, ρ, fr.rel, ?_⟩
  have hil : i < σ.length := (List.getElem?_eq_some_iff.mp ev0).1
  rcases hcase with ⟨p, ρ1, e1, c1⟩ | ⟨cc, fs, e1, hlt, hc⟩
  · rw [e1]
    intro H1 W1 s v hv
    obtain ⟨W2, s2, rp⟩ := s.freeze fr.rel hv
    exact hn _ _ v (List.getElem?_set_self hil) (c1 σ H1 W2 s2.sst v rp)
  · rw [e1]
    intro x H1 W1 ext er
    obtain ⟨e2, m⟩ := ext_none hno ext
    rcases hc with ⟨hca, d, hh, c1⟩ | ⟨hca, c1⟩
    · refine hw cc fs x W H1 hlt ⟨rfl, hlt, ⟨x, rfl, er.less m⟩, e2.tr0 fr.rel.tr⟩ ⟨d0, v0, ev0, e2.rep0 rv0, d, hca, hh, fun H2 v e3 rp => ?_⟩ (by rw [← fr.rel.len]; exact hj)
      have e4 := e2.trans0 e3 fr.rel.tr
      have st : Sst N σ ρ H W σ ρ H2 W := ⟨rel_none hno fr.rel e4, ext_back hno e4, fun a h => .inl h, fun i d h => ⟨d, h, rfl⟩, fun i h => ⟨h, rfl⟩, rfl⟩
      exact c1 σ H2 W st v rp
    · exact ho cc x H1 hlt hca (c1 x H1 W1 ext er σ)
/-! ### the checker of a try -/
def unTry : List Stmt → Option (Stmt × Expr × Option Str × List Stmt × Expr)
  | [.Try [b] [.ExceptHandler (some c) n suite _] [] [] _, .Return (some e) _] => some (b, c, n, suite, e)
  | _ => none
theorem unTry_of {ss : List Stmt} {b : Stmt} {c e : Expr} {n : Option Str} {suite : List Stmt} (h : unTry ss = some (b, c, n, suite, e)) : ∃ p p' p2, ss = [.Try [b] [.ExceptHandler (some c) n suite p'] [] [] p, .Return (some e) p2] := by
  unfold unTry at h
  split at h
  · cases h; exact ⟨_, _, _, rfl⟩
  · cases h
section
variable (tx : Tx) (Ns : List Str)
def chkJ (sc : Scope) (j : Option Nat) (n : Option Str) : Bool := match j, n with
  | none, none => true
  | some j, some n => slotB Ns j n && decide (sc.names.lookup n = some .local)
  | _, _ => false
def chkCs (sc : Scope) (cs : Option Nat) (c : Expr) : Bool := match unName c with
  | some x => glB sc x && !dbgB x && (match cs with
    | none => decide (x = tx.xb)
    | some k => decide (tx.ex[k]? = some x))
  | none => false
def chkTry (sc : Scope) (i : Nat) (a : E) (j : Option Nat) (cs : Option Nat) (nx : Nat) (h : List (Option XT × XE)) (ss : List Stmt) : Bool := match unTry ss with
  | some (b, c, n, suite, e) => (match unAs1 b with
    | some (t, x) => tgB Ns sc (.name i) t && notComp x && chkE tx Ns sc a x && chkJ Ns sc j n && decide (j ≠ some i) && chkCs tx sc cs c && decide (tx.ex.length = nx) && !suite.isEmpty && chkH tx Ns sc i j h suite && varB Ns sc i e
    | none => false)
  | none => false
end
theorem s_tryR {i : Nat} {a : E} {j : Option Nat} {cs : Option Nat} {h : List (Option XT × XE)} (ok : XOk tx N nf C G k Ns X sc sc Wx) (hst : X.stack = X.env :: X.outer) (hfr : X.env.frame = some X.env.locals) (hv : X.mg (Str.ofString "ValueError") = none)
    (sa : Snd tx N nf C G k Ns a) {ss : List Stmt} (hc : chkTry tx Ns sc i a j cs nx h ss = true) : PSs X ss (TSt N Wx H0 (evS C G (.tryR i a j cs nx h))) := by
  unfold chkTry at hc
  split at hc
  case h_2 => cases hc
  rename_i b c n suite e q1
  obtain ⟨p, p', p2, rfl⟩ := unTry_of q1
  split at hc
  case h_2 => cases hc
  rename_i t x q2
  obtain ⟨pb, rfl⟩ := unAs1_of q2
  simp only [Bool.and_eq_true, decide_eq_true_eq] at hc
  obtain ⟨⟨⟨⟨⟨⟨⟨⟨⟨h1, h2⟩, h3⟩, h4⟩, h5⟩, h6⟩, h7⟩, h8⟩, h9⟩, h10⟩ := hc
  have h1' : (match unName t with
    | some x => slotB Ns i x && locB sc x
    | none => false) = true := h1
  cases q3 : unName t with
  | none => rw [q3] at h1'; cases h1'
  | some y =>
  rw [q3] at h1'
  obtain ⟨py, rfl⟩ := unName_of q3
  simp only [Bool.and_eq_true, slotB, decide_eq_true_eq] at h1'
  obtain ⟨l1, l2⟩ := ok.store h1'.2
  obtain ⟨R, xc, hR⟩ := ok.xc
  rw [h7] at xc
  -- the body
  have body : ∀ (W' : WX) (pn : List (Addr × Obj)) (xe : Value → Shared → Prop), Takes (X.tr pn xe) W' → PSs (X.tr pn xe) [.Assign [.Name y py] x pb] (tTb N (ev C G a) i W') := fun W' pn xe tk =>
    pss_one (ps_set (X := X.tr pn xe) (by show X.N.Nodup; rw [ok.hN]; exact ok.nd) (by show X.N[i]? = some y; rw [ok.hN]; exact h1'.1) l1 (sa.e (ok.tr C G tk) x h3).ev (swaps_no h2) l2)
  have ret : PSs X [.Return (some e) p2] _ := pss_one (ps_ret (ok.var h10))
  -- the class
  unfold chkCs at h6
  cases q4 : unName c with
  | none => rw [q4] at h6; cases h6
  | some xn =>
  rw [q4] at h6
  obtain ⟨pc, rfl⟩ := unName_of q4
  simp only [Bool.and_eq_true, Bool.not_eq_true', dbgB, Bool.or_eq_false_iff] at h6
  obtain ⟨⟨h6a, h6b⟩, h6c⟩ := h6
  cases suite with
  | nil => cases h8
  | cons b0 suite =>
  have cls : ∃ cv, Names X xn (.ref cv) ∧ ∀ cc, cc < nx → PySem.W.exmOne X.K (.ref (N.exc cc)) (.ref cv) = some (catches cs cc) := by
    cases cs with
    | none =>
      have e1 : xn = tx.xb := of_decide_eq_true h6c
      subst e1
      exact ⟨R, ⟨ok.gl h6a, h6b.1, .inl hR⟩, fun cc hcc => by rw [ok.hK]; exact xc.exB cc hcc⟩
    | some kc =>
      have e1 : tx.ex[kc]? = some xn := of_decide_eq_true h6c
      have hk : kc < nx := by rw [← h7]; exact (List.getElem?_eq_some_iff.mp e1).1
      exact ⟨N.exc kc, ⟨ok.gl h6a, h6b.1, .inl (ok.exg kc xn e1)⟩, fun cc hcc => by rw [ok.hK]; exact xc.exO cc kc hcc hk⟩
  obtain ⟨cv, hnm, hex⟩ := cls
  have suiteOk : ∀ (a : Addr) (oe : Obj) (cls : Value) (d : Option Addr) (pn : List (Addr × Obj)), Zc cls d oe → (∃ vs, oe.data = .fields vs) → PSs (X.suite a ((a, oe) :: pn)) (b0 :: suite) (TSu N nx a cls d i j h) := fun a oe cls d pn hz hf => h_ok ok xc h7 hv h5 hz hf h9
  cases j with
  | none =>
    cases n with
    | some _ => cases h4
    | none =>
    refine pssImp (pss_cons (ps_try_only (tb := tTb N (ev C G a) i) (ts := fun a cls d => TSu N nx a cls d i none h) (Wout := Wx) hst hfr hnm ok.tk (fun W' pn xe tk _ => body W' pn xe tk) suiteOk) ret) fun D σ H hq => ?_
    refine try_imp C G hq (fun σ1 H1 v e1 e2 => ⟨v, e1, e2⟩) (fun cc fs x W H1 hlt ca ⟨d0, v0, e0, r0, res, hca, hh, kk⟩ hj => ?_) fun cc x H1 hlt hca hw => ?_
    · exact ⟨true, by rw [hex cc hlt, hca], fun _ a ha => ⟨W, cc, fs, d0, v0, res, ca, trivial, e0, r0, hh, fun σ1 H2 v ex hm h1 rv => ⟨v, h1, kk H2 v ex rv⟩⟩, fun z => nomatch z⟩
    · exact ⟨false, by rw [hex cc hlt, hca], fun z => (nomatch z), fun _ => hw⟩
  | some jj =>
    cases n with
    | none => cases h4
    | some n =>
    have h4' : (slotB Ns jj n && decide (sc.names.lookup n = some .local)) = true := h4
    simp only [Bool.and_eq_true, slotB, decide_eq_true_eq] at h4'
    refine pssImp (pss_cons (ps_try_as (i := jj) (tb := tTb N (ev C G a) i) (ts := fun a cls d => TSu N nx a cls d i (some jj) h) (Wout := Wx) hst hfr (by rw [ok.hN]; exact ok.nd) (by rw [ok.hN]; exact h4'.1) (by show X.env.scope.names.lookup n = _; rw [ok.hsc]; exact h4'.2) hnm ok.tk (fun W' pn xe tk _ => body W' pn xe tk) suiteOk) ret) fun D σ H hq => ?_
    refine try_imp C G hq (fun σ1 H1 v e1 e2 => ⟨v, e1, e2⟩) (fun cc fs x W H1 hlt ca ⟨d0, v0, e0, r0, res, hca, hh, kk⟩ hj => ?_) fun cc x H1 hlt hca hw => ?_
    · have hj' : (jj != i && decide (jj < σ.length)) = true := hj
      simp only [Bool.and_eq_true, decide_eq_true_eq, bne_iff_ne, ne_eq] at hj'
      refine ⟨true, by rw [hex cc hlt, hca], fun _ a ha => ⟨W, cc, fs, d0, v0, res, ca, List.getElem?_set_self hj'.2, by rw [List.getElem?_set_ne hj'.1]; exact e0, r0, hh, fun σ1 H2 v ex hm h1 rv => ⟨v, by rw [List.getElem?_set_ne hj'.1]; exact h1, kk H2 v ex rv⟩⟩, fun z => nomatch z⟩
    · exact ⟨false, by rw [hex cc hlt, hca], fun z => (nomatch z), fun _ => hw⟩
end
end PX

end

section
set_option Elab.async false
set_option linter.all false
set_option autoImplicit false
set_option maxRecDepth 100000
set_option maxHeartbeats 4000000
namespace PX
open PySem PySem.Spec PyProof.Rows L2
def unAsg : List Stmt → Option (Expr × Expr)
  | [.Assign [t] e _] => some (t, e)
  | _ => none
theorem unAsg_of {ss : List Stmt} {t e : Expr} (h : unAsg ss = some (t, e)) : ∃ p, ss = [.Assign [t] e p] := by
  unfold unAsg at h
  split at h
  · cases h; exact ⟨_, rfl⟩
  · cases h
def unExp : List Stmt → Option Expr
  | [.Expr e _] => some e
  | _ => none
theorem unExp_of {ss : List Stmt} {e : Expr} (h : unExp ss = some e) : ∃ p, ss = [.Expr e p] := by
  unfold unExp at h
  split at h
  · cases h; exact ⟨_, rfl⟩
  · cases h
def unRet : List Stmt → Option (Option Expr)
  | [.Return e _] => some e
  | _ => none
theorem unRet_of {ss : List Stmt} {e : Option Expr} (h : unRet ss = some e) : ∃ p, ss = [.Return e p] := by
  unfold unRet at h
  split at h
  · cases h; exact ⟨_, rfl⟩
  · cases h
def unIfS : List Stmt → Option (Expr × List Stmt × List Stmt)
  | [.If c a b _] => some (c, a, b)
  | _ => none
theorem unIfS_of {ss : List Stmt} {c : Expr} {a b : List Stmt} (h : unIfS ss = some (c, a, b)) : ∃ p, ss = [.If c a b p] := by
  unfold unIfS at h
  split at h
  · cases h; exact ⟨_, rfl⟩
  · cases h
def unFor : List Stmt → Option (Expr × Expr × List Stmt)
  | [.For t i b [] _] => some (t, i, b)
  | _ => none
theorem unFor_of {ss : List Stmt} {t i : Expr} {b : List Stmt} (h : unFor ss = some (t, i, b)) : ∃ p, ss = [.For t i b [] p] := by
  unfold unFor at h
  split at h
  · cases h; exact ⟨_, rfl⟩
  · cases h
def unWhile : List Stmt → Option (Expr × List Stmt)
  | [.While t b [] _] => some (t, b)
  | _ => none
theorem unWhile_of {ss : List Stmt} {t : Expr} {b : List Stmt} (h : unWhile ss = some (t, b)) : ∃ p, ss = [.While t b [] p] := by
  unfold unWhile at h
  split at h
  · cases h; exact ⟨_, rfl⟩
  · cases h
def skipB : List Stmt → Bool
  | [] => true
  | [.Pass _] => true
  | [.Expr (.Constant (.str _) _ _) _] => true
  | _ => false
def brkB : List Stmt → Bool
  | [.Break _] => true
  | _ => false
def contB : List Stmt → Bool
  | [.Continue _] => true
  | _ => false
/-- is a comprehension laid at once under a local's name -/
def swB (sc : Scope) (t e : Expr) : Bool := match t, e with
  | .Name y py, .ListComp _ _ s p => decide (sc.names.lookup y = some .local) && (py.line == p.line) && !(s.names.any fun (n, k) => n == y && (k == .local || k == .cell))
  | _, _ => false
def noneE : E → Bool
  | .none => true
  | _ => false
def notSeq : S → Bool
  | .seq _ _ => false
  | _ => true
def isComp : E → Bool
  | .comp .. => true
  | _ => false
def noSC : Expr → Bool
  | .SetComp .. => false
  | .DictComp .. => false
  | _ => true
/-- a body without its docstring -/
def noDoc : List Stmt → List Stmt
  | .Expr (.Constant (.str _) _ _) _ :: r => r
  | l => l
def funB (sc : Scope) : Bool := match sc.kind with
  | .function => true
  | _ => false
def unRaise : List Stmt → Option (Str × List Expr)
  | [.Raise (some e) none _] => unFn e
  | _ => none
theorem unRaise_of {ss : List Stmt} {x : Str} {es : List Expr} (h : unRaise ss = some (x, es)) : ∃ p q r, ss = [.Raise (some (.Call (.Name x p) es [] q)) none r] := by
  unfold unRaise at h
  split at h
  · obtain ⟨p, q, rfl⟩ := unFn_of h
    exact ⟨p, q, _, rfl⟩
  · cases h
section
variable (tx : Tx) (Ns : List Str)
def chkS (sc : Scope) : S → List Stmt → Bool
  | .skip, ss => skipB ss
  | .never, _ => true
  | .brk, ss => brkB ss
  | .cont, ss => contB ss
  | .seq a b, ss => (match ss with
    | st :: rest => notSeq a && chkS sc a [st] && chkS sc b rest
    | [] => false)
  | .expr e, ss => (match unExp ss with
    | some x => notComp x && chkE tx Ns sc e x
    | none => false)
  | .asg o t e, ss => (match unAsg ss with
    | some (tg, x) => tgB Ns sc t tg && swapOk tg x && (if swB sc tg x then isComp e else noSC x) && chkE tx Ns sc e x
    | none => false)
  | .setI i j v, ss => (match unAsg ss with
    | some (tg, x) => (match unSub tg with
      | some (eo, ei) => notSlice ei && varB Ns sc i eo && chkE tx Ns sc j ei && chkE tx Ns sc v x
      | none => false)
    | none => false)
  | .setA i f v, ss => (match unAsg ss with
    | some (tg, x) => (match unAttr tg with
      | some (eo, y, _) => decide (tx.fl[f]? = some y) && varB Ns sc i eo && chkE tx Ns sc v x
      | none => false)
    | none => false)
  | .ret e, ss => (match unRet ss with
    | some (some x) => chkE tx Ns sc e x
    | some none => noneE e
    | none => false)
  | .ite t a b, ss => (match unIfS ss with
    | some (c, sa, sb) => chkT tx Ns sc t c && chkS sc a sa && chkS sc b sb
    | none => false)
  | .for t it b, ss => (match unFor ss with
    | some (tg, iter, body) => tgB Ns sc t tg && notSet iter && chkI tx Ns sc it tg iter && chkS sc b body
    | none => false)
  | .while t b, ss => (match unWhile ss with
    | some (c, body) => chkT tx Ns sc t c && chkS sc b body
    | none => false)
  | .raise c l, ss => (match unRaise ss with
    | some (x, es) => decide (tx.ex[c]? = some x) && glB sc x && !dbgB x && es.all notStar && !es.isEmpty && (match tx.xf[c]? with
      | some fs => decide (lenE l = fs.length) && !fs.isEmpty
      | none => false) && chkL tx Ns sc l es
    | none => false)
  | .tryR i a j cs nx h, ss => chkTry tx Ns sc i a j cs nx h ss
end
section
variable {tx : Tx} {N : Nm} {nf : Nat} {C : Call} {G : Nat → D} {k : Nat} {Ns : List Str} {X : Cx} {rs sc : Scope} {Wx : WX} {H0 : Hp}
theorem swaps_off {t e : Expr} {l : Nat} {env : Env} (h : swB env.scope t e = false) (hl : noSC e = true) : swapsWith e (some t) l env = pure false := by
  cases e with
  | ListComp elt gs s p =>
    cases t with
    | Name y py =>
      have h' : (decide (env.scope.names.lookup y = some .local) && (py.line == p.line) && !(s.names.any fun (n, k) => n == y && (k == .local || k == .cell))) = false := h
      unfold swapsWith
      show (pure (env.blockKind == .function && env.kindOf y == some .local && py.line == p.line && !(s.names.any fun (n, k) => n == y && (k == .local || k == .cell))) : Sem Bool) = pure false
      congr 1
      have e1 : (env.kindOf y == some .local) = decide (env.scope.names.lookup y = some .local) := by
        show (env.scope.names.lookup y == some .local) = _
        cases env.scope.names.lookup y with
        | none => rfl
        | some z => cases z <;> rfl
      rw [e1]
      revert h'
      cases (env.blockKind == .function) <;> cases decide (env.scope.names.lookup y = some .local) <;> cases (py.line == p.line) <;> simp
    | _ => rfl
  | SetComp a g s p => cases hl
  | DictComp a b g s p => cases hl
  | _ => rfl
theorem swB_of {t e : Expr} (h : swB sc t e = true) : ∃ y py elt gs s p, t = .Name y py ∧ e = .ListComp elt gs s p ∧ sc.names.lookup y = some .local ∧ (py.line == p.line) = true ∧ (s.names.any fun (n, k) => n == y && (k == .local || k == .cell)) = false := by
  cases t <;> first | cases h | skip
  cases e <;> first | cases h | skip
  rename_i y py elt gs s p
  have h' : (decide (sc.names.lookup y = some .local) && (py.line == p.line) && !(s.names.any fun (n, k) => n == y && (k == .local || k == .cell))) = true := h
  simp only [Bool.and_eq_true, decide_eq_true_eq, Bool.not_eq_true'] at h'
  exact ⟨y, py, elt, gs, s, p, rfl, rfl, h'.1.1, h'.1.2, h'.2⟩
theorem funB_of (h : funB sc = true) : sc.kind = .function := by
  unfold funB at h
  split at h
  · assumption
  · cases h
theorem both {s : S} {st : Stmt} {t : TS} (h : PS X st t) : PSs X [st] t ∧ (notSeq s = true → ∀ st', [st] = [st'] → PS X st' t) := ⟨pss_one h, fun _ st' z => by cases z; exact h⟩
theorem s_nev {t : TS} (ht : ∀ D σ H, ¬ t D σ H) (st : Stmt) : PS X st t := ⟨fun _ _ σ H D _ h => absurd h (ht D σ H)⟩
/-- the checker is right on statements -/
theorem snds (s : S) : ∀ {X : Cx} {Wx : WX} (ok : XOk tx N nf C G k Ns X sc sc Wx) (own : PassesOwn (model X.prog X.w) X.A X.env X.xe) (hk : funB sc = true) (hst : X.stack = X.env :: X.outer ∧ X.env.frame = some X.env.locals) (ss : List Stmt), chkS tx Ns sc s ss = true → PSs X ss (TSt N Wx H0 (evS C G s)) ∧ (notSeq s = true → ∀ st, ss = [st] → PS X st (TSt N Wx H0 (evS C G s))) := by
  induction s with
  | skip =>
    intro X Wx ok own hk hst ss h
    have h' : skipB ss = true := h
    unfold skipB at h'
    split at h'
    · exact ⟨s_nil C G, fun _ st z => by cases z⟩
    · exact both (s_pass C G)
    · exact both (s_doc C G)
    · cases h'
  | never => exact fun ok own hk hst ss h => ⟨⟨fun _ _ _ _ _ _ ⟨_, _, _, c⟩ => c.elim⟩, fun _ st _ => ⟨fun _ _ _ _ _ _ ⟨_, _, _, c⟩ => c.elim⟩⟩
  | brk =>
    intro X Wx ok own hk hst ss h
    have h' : brkB ss = true := h
    unfold brkB at h'
    split at h'
    · exact both (s_brk C G)
    · cases h'
  | cont =>
    intro X Wx ok own hk hst ss h
    have h' : contB ss = true := h
    unfold contB at h'
    split at h'
    · exact both (s_cont C G)
    · cases h'
  | raise c l =>
    intro X Wx ok own hk hst ss h
    have h' : (match unRaise ss with
      | some (x, es) => decide (tx.ex[c]? = some x) && glB sc x && !dbgB x && es.all notStar && !es.isEmpty && (match tx.xf[c]? with
        | some fs => decide (lenE l = fs.length) && !fs.isEmpty
        | none => false) && chkL tx Ns sc l es
      | none => false) = true := h
    split at h'
    · rename_i x es q
      obtain ⟨p, q2, r, rfl⟩ := unRaise_of q
      simp only [Bool.and_eq_true, decide_eq_true_eq, Bool.not_eq_true', dbgB, Bool.or_eq_false_iff] at h'
      obtain ⟨⟨⟨⟨⟨⟨h1, h2⟩, h3⟩, h4⟩, h5⟩, h6⟩, h7⟩ := h'
      split at h6
      · rename_i fs qf
        simp only [Bool.and_eq_true, decide_eq_true_eq, Bool.not_eq_true'] at h6
        have hc : c < tx.ex.length := (List.getElem?_eq_some_iff.mp h1).1
        obtain ⟨R, xc, hR⟩ := ok.xc
        have e1 := ok.xfs c fs qf
        cases es with
        | nil => cases h5
        | cons e es =>
          exact both (s_raise C G ok.hK ok.calm xc hc (ok.exi c fs hc qf (by intro z; rw [z] at h6; cases h6.2)) ok.room ok.tk (ok.gl h2) (ok.exg c x h1) h3.1 h4 (by rw [e1]; exact h6.1) ((snd l).l ok _ h7))
      · cases h6
    · cases h'
  | tryR i a j cs nx hh =>
    intro X Wx ok own hk hst ss h
    have h' : chkTry tx Ns sc i a j cs nx hh ss = true := h
    refine ⟨s_tryR C G ok hst.1 hst.2 (ok.free _ (by decide)) (snd a) h', fun _ st z => ?_⟩
    subst z
    have e1 : unTry [st] = none := by
      unfold unTry
      split
      · rename_i z; cases z
      · rfl
    unfold chkTry at h'
    rw [e1] at h'
    cases h'
  | seq a b iha ihb =>
    intro X Wx ok own hk hst ss h
    cases ss with
    | nil => cases h
    | cons st rest =>
      have h' : (notSeq a && chkS tx Ns sc a [st] && chkS tx Ns sc b rest) = true := h
      simp only [Bool.and_eq_true] at h'
      have p1 := (iha ok own hk hst [st] h'.1.2).2 h'.1.1 st rfl
      have p2 := (ihb ok own hk hst rest h'.2).1
      exact ⟨s_cons C G p1 p2, fun z => by cases z⟩
  | expr e =>
    intro X Wx ok own hk hst ss h
    have h' : (match unExp ss with
      | some x => notComp x && chkE tx Ns sc e x
      | none => false) = true := h
    split at h'
    · rename_i x q
      obtain ⟨p, rfl⟩ := unExp_of q
      rw [Bool.and_eq_true] at h'
      exact both (s_expr C G h'.1 ((snd e).e ok _ h'.2))
    · cases h'
  | asg o t e =>
    intro X Wx ok own hk hst ss h
    have h' : (match unAsg ss with
      | some (tg, x) => tgB Ns sc t tg && swapOk tg x && (if swB sc tg x then isComp e else noSC x) && chkE tx Ns sc e x
      | none => false) = true := h
    split at h'
    · rename_i tg x q
      obtain ⟨p, rfl⟩ := unAsg_of q
      simp only [Bool.and_eq_true] at h'
      obtain ⟨⟨⟨h1, h2⟩, h3⟩, h4⟩ := h'
      by_cases hsw : swB sc tg x = true
      · rw [if_pos hsw] at h3
        obtain ⟨y, py, elt0, gs0, s0, p0, rfl, hx, hy, hl, hs⟩ := swB_of hsw
        cases e with
        | comp e2 t2 it2 c2 vs2 =>
          obtain ⟨elt, tg, iter, ifs, s, p2, rfl, g1, g2, g3, g4, g5, g6, g7, g8⟩ := lc_parts (snd e2) (snd it2) (snd c2) ok x h4
          cases hx
          cases t with
          | tup l => cases h1
          | name i =>
            have h1' : (slotB Ns i y && locB sc y) = true := h1
            simp only [Bool.and_eq_true, slotB, decide_eq_true_eq] at h1'
            refine both (s_setLc C G g1 ?_)
            have z := ps_setLc (X := X) (spos := p) (y := y) (py := py) (i := i) ok.calm (by rw [ok.hN]; exact ok.nd) (by rw [ok.hN]; exact h1'.1) (by rw [ok.hsc]; exact hy)
              (sw_true (by rw [ok.hsc]; exact funB_of hk) (by rw [ok.hsc]; exact hy) hl hs) g2 g3 g5 g6 g7 g8
            rw [g4] at z
            exact z
        | _ => cases h3
      · rw [if_neg hsw] at h3
        have hoff : swapsWith x (some tg) p.line X.env = pure false := swaps_off (by rw [ok.hsc]; exact Bool.not_eq_true _ ▸ hsw) h3
        cases t with
        | name i =>
          have h1' : (match unName tg with
            | some x => slotB Ns i x && locB sc x
            | none => false) = true := h1
          split at h1'
          · rename_i y q2
            obtain ⟨py, rfl⟩ := unName_of q2
            simp only [Bool.and_eq_true, slotB, decide_eq_true_eq] at h1'
            obtain ⟨a, b⟩ := ok.store h1'.2
            exact both (s_asgN C G (by rw [ok.hN]; exact ok.nd) (by rw [ok.hN]; exact h1'.1) a b hoff ((snd e).e ok _ h4))
          · cases h1'
        | tup l =>
          have h1' : (match unTup tg with
            | some es => nmB Ns sc es l
            | none => false) = true := h1
          split at h1'
          · rename_i es q2
            obtain ⟨kk, pp, rfl⟩ := unTup_of q2
            exact both (s_asgT C G ok.hK ok.calm (by rw [ok.hN]; exact ok.nd) (ok.names h1') h2 ((snd e).e ok _ h4))
          · cases h1'
    · cases h'
  | setI i j v =>
    intro X Wx ok own hk hst ss h
    have h' : (match unAsg ss with
      | some (tg, x) => (match unSub tg with
        | some (eo, ei) => notSlice ei && varB Ns sc i eo && chkE tx Ns sc j ei && chkE tx Ns sc v x
        | none => false)
      | none => false) = true := h
    split at h'
    · rename_i tg x q
      obtain ⟨p, rfl⟩ := unAsg_of q
      split at h'
      · rename_i eo ei q2
        obtain ⟨p2, rfl⟩ := unSub_of q2
        simp only [Bool.and_eq_true] at h'
        exact both (s_setI C G h'.1.1.1 (ok.var h'.1.1.2) ((snd j).e ok _ h'.1.2) ((snd v).e ok _ h'.2))
      · cases h'
    · cases h'
  | setA i f v =>
    intro X Wx ok own hk hst ss h
    have h' : (match unAsg ss with
      | some (tg, x) => (match unAttr tg with
        | some (eo, y, _) => decide (tx.fl[f]? = some y) && varB Ns sc i eo && chkE tx Ns sc v x
        | none => false)
      | none => false) = true := h
    split at h'
    · rename_i tg x q
      obtain ⟨p, rfl⟩ := unAsg_of q
      split at h'
      · rename_i eo y p2 q2
        rw [unAttr_of q2]
        simp only [Bool.and_eq_true, decide_eq_true_eq] at h'
        obtain ⟨rfl, hf⟩ := ok.fls f y h'.1.1
        exact both (s_setA C G ok.nm ok.hK hf (ok.var h'.1.2) ((snd v).e ok _ h'.2))
      · cases h'
    · cases h'
  | ret e =>
    intro X Wx ok own hk hst ss h
    have h' : (match unRet ss with
      | some (some x) => chkE tx Ns sc e x
      | some none => noneE e
      | none => false) = true := h
    split at h'
    · rename_i x q
      obtain ⟨p, rfl⟩ := unRet_of q
      exact both (s_ret C G ((snd e).e ok _ h'))
    · rename_i q
      obtain ⟨p, rfl⟩ := unRet_of q
      cases e <;> first | exact both (s_retN C G) | cases h'
    · cases h'
  | ite t a b iha ihb =>
    intro X Wx ok own hk hst ss h
    have h' : (match unIfS ss with
      | some (c, sa, sb) => chkT tx Ns sc t c && chkS tx Ns sc a sa && chkS tx Ns sc b sb
      | none => false) = true := h
    split at h'
    · rename_i c sa sb q
      obtain ⟨p, rfl⟩ := unIfS_of q
      simp only [Bool.and_eq_true] at h'
      exact both (s_ite C G ((snd t).t ok _ h'.1.1).1 (iha ok own hk hst _ h'.1.2).1 (ihb ok own hk hst _ h'.2).1)
    · cases h'
  | «for» t it b ihb =>
    intro X Wx ok own hk hst ss h
    have h' : (match unFor ss with
      | some (tg, iter, body) => tgB Ns sc t tg && notSet iter && chkI tx Ns sc it tg iter && chkS tx Ns sc b body
      | none => false) = true := h
    split at h'
    · rename_i tg iter body q
      obtain ⟨p, rfl⟩ := unFor_of q
      simp only [Bool.and_eq_true] at h'
      exact both (s_for C G own ok.calm ((snd it).i ok _ _ h'.1.2) (ok.target h'.1.1.1) (ihb ok own hk hst _ h'.2).1 (set_of h'.1.1.2 _))
    · cases h'
  | «while» t b ihb =>
    intro X Wx ok own hk hst ss h
    have h' : (match unWhile ss with
      | some (c, body) => chkT tx Ns sc t c && chkS tx Ns sc b body
      | none => false) = true := h
    split at h'
    · rename_i c body q
      obtain ⟨p, rfl⟩ := unWhile_of q
      rw [Bool.and_eq_true] at h'
      exact both (s_while C G own ((snd t).t ok _ h'.1).1 (ihb ok own hk hst _ h'.2).1)
    · cases h'
theorem pss_noDoc {ss : List Stmt} {t : TS} (h : PSs X (noDoc ss) t) : PSs X ss t := by
  unfold noDoc at h
  split at h
  · rename_i x j p p' r
    have z := pss_cons (X := X) (ps_doc (x := x) (j := j) (pos := p) (pos' := p')) h
    exact ⟨fun pins s σ H D I hw => z.run pins s σ H D I hw⟩
  · exact h
end
end PX

end

section
set_option Elab.async false
set_option linter.all false
set_option autoImplicit false
set_option maxRecDepth 100000
set_option maxHeartbeats 1000000
/-! a whole text: what its head leaves, every def keeps its promise, at every depth -/
namespace PX
open PySem PySem.Spec PyProof.Rows L2
/-! ### globals' data -/
def toV : Value → V
  | .none => .non
  | .bool b => .bl b
  | .int i _ => .int i
  | .str s _ => .str s
  | .ref a => .ref a
  | _ => .non
mutual
theorem gB_ok {K : PySem.W.Frag} : ∀ (d : D) (u : Value), gB K d u = true → RelV (toV u) u ∧ ∀ (N : Nm) (H : Hp) (W : Addr → Prop), N.K = K → Rep N H W d (toV u)
  | .none, u, h => by cases u <;> first | (cases h; done) | exact ⟨rfl, fun _ _ _ _ => rfl⟩
  | .bool b, u, h => by
    cases u <;> first | (cases h; done) | skip
    rename_i c
    have e : b = c := beq_iff_eq.mp (show (b == c) = true from h)
    subst e
    exact ⟨rfl, fun _ _ _ _ => rfl⟩
  | .int b, u, h => by
    cases u <;> first | (cases h; done) | skip
    rename_i c t
    have e : b = c := of_decide_eq_true (show decide (b = c) = true from h)
    subst e
    exact ⟨⟨t, rfl⟩, fun _ _ _ _ => rfl⟩
  | .str b, u, h => by
    cases u <;> first | (cases h; done) | skip
    rename_i c t
    have e : b = c := of_decide_eq_true (show decide (b = c) = true from h)
    subst e
    exact ⟨⟨t, rfl⟩, fun _ _ _ _ => rfl⟩
  | .tup l, u, h => by
    cases u <;> first | (cases h; done) | skip
    rename_i a
    have h' : (match K.lookup a with
      | some ⟨.type c, _, .seq its _, _⟩ => decide (c = "tuple") && decide (its.size ≤ sizeLine) && gBs K l its.toList
      | _ => false) = true := h
    split at h'
    · rename_i c dd its n sl q
      simp only [Bool.and_eq_true, decide_eq_true_eq] at h'
      obtain ⟨⟨rfl, h2⟩, h3⟩ := h'
      obtain ⟨r1, r2⟩ := gBs_ok l its.toList h3
      refine ⟨rfl, fun N H W hK => ⟨a, its.toList.map toV, rfl, .inr ⟨_, its, n, by rw [hK]; exact q, rfl, rfl, h2, ?_⟩, r2 N H W hK⟩⟩
      exact r1
    · cases h'
  | .lst _, u, h => by cases u <;> exact nomatch h
  | .scr _, u, h => by cases u <;> exact nomatch h
  | .dct _ _, u, h => by cases u <;> exact nomatch h
  | .obj _ _, u, h => by cases u <;> exact nomatch h
theorem gBs_ok {K : PySem.W.Frag} : ∀ (ds : List D) (us : List Value), gBs K ds us = true → Vals (us.map toV) us ∧ ∀ (N : Nm) (H : Hp) (W : Addr → Prop), N.K = K → Reps N H W ds (us.map toV)
  | [], [], _ => ⟨.nil, fun _ _ _ _ => rfl⟩
  | [], _ :: _, h => nomatch h
  | _ :: _, [], h => nomatch h
  | d :: ds, u :: us, h => by
    have h' : (gB K d u && gBs K ds us) = true := h
    rw [Bool.and_eq_true] at h'
    obtain ⟨a1, a2⟩ := gB_ok d u h'.1
    obtain ⟨b1, b2⟩ := gBs_ok ds us h'.2
    exact ⟨.cons a1 b1, fun N H W hK => ⟨_, _, rfl, a2 N H W hK, b2 N H W hK⟩⟩
end
/-! ### the text's exceptions -/
theorem oexB_ok {K : PySem.W.Frag} {C : Addr} (h : oexB K C = true) : OexC K C := by
  unfold oexB at h
  simp only [Bool.and_eq_true, decide_eq_true_eq] at h
  obtain ⟨⟨⟨⟨h1, h2⟩, h3⟩, h4⟩, h5⟩ := h
  refine ⟨?_, h2, h3, h4, h5⟩
  split at h1
  · rename_i dd cd sl q
    split at h1
    · rename_i C' bm k0 k1 k2 k3 n k5 e1 e2
      simp only [Bool.and_eq_true, Bool.not_eq_true', beq_iff_eq] at h1
      obtain ⟨⟨⟨⟨rfl, rfl⟩, g1⟩, g2⟩, g3⟩ := h1
      obtain ⟨nm, bs, mro, ns, qn, hd, sn, sb, ab, col, del⟩ := cd
      simp only at e1 g1 g2
      subst e1 g1 g2
      have e3 : sl = #[k0, k1, k2, k3, some (.builtin "ValueError.__new__"), k5] := by rw [← e2]
      subst e3
      exact ⟨_, _, _, _, _, _, _, _, _, _, _, _, _, _, _, q, g3⟩
    · cases h1
  · cases h1
theorem excB_ok {N : Nm} {R : Addr} {Cs : List (Addr × List Str)} (hnd : ∀ p ∈ Cs, p.2.Nodup ∧ p.2.length ≤ 90) (he : ∀ c, c < Cs.length → N.exc c = (Cs.getD c default).1 ∧ N.xfs c = (Cs.getD c default).2) (h : excB N.K R Cs = true) : XcOk N Cs.length R := by
  unfold excB at h
  simp only [Bool.and_eq_true, decide_eq_true_eq] at h
  obtain ⟨⟨⟨h1, h2⟩, h3⟩, h4⟩ := h
  have mem : ∀ c, c < Cs.length → Cs.getD c default ∈ Cs := fun c hc => by
    rw [List.getD_eq_getElem?_getD, List.getElem?_eq_getElem hc]
    exact List.getElem_mem hc
  have at1 : ∀ c, c < Cs.length → ((((((oexB N.K (N.exc c) = true ∧ xfB N.K (N.exc c) = true) ∧ PySem.W.findIn N.K (.ref (N.exc c)) "__class__" = some (some (.builtin "object.__class__"))) ∧ PySem.W.mroIn N.K (N.exc c) (.type "object") = some true) ∧ ∀ f ∈ N.xfs c, PySem.W.findIn N.K (.ref (N.exc c)) f = some none) ∧
      PySem.W.kitOne N.K (.ref (N.exc c)) (.type "ValueError") = some true) ∧ PySem.W.exmOne N.K (.ref (N.exc c)) (.ref R) = some true) := fun c hc => by
    have z := List.all_eq_true.mp h1 _ (mem c hc)
    rw [← (he c hc).1, ← (he c hc).2] at z
    simp only [Bool.and_eq_true, decide_eq_true_eq, List.all_eq_true] at z
    exact z
  have at2 : ∀ c c', c < Cs.length → c' < Cs.length → PySem.W.kitOne N.K (.ref (N.exc c)) (.ref (N.exc c')) = some (c == c') ∧ PySem.W.exmOne N.K (.ref (N.exc c)) (.ref (N.exc c')) = some (c == c') := fun c c' hc hc' => by
    have z := List.all_eq_true.mp (List.all_eq_true.mp h2 c (List.mem_range.mpr hc)) c' (List.mem_range.mpr hc')
    rw [← (he c hc).1, ← (he c' hc').1] at z
    simp only [Bool.and_eq_true, decide_eq_true_eq] at z
    exact z
  exact ⟨fun c hc => oexB_ok (at1 c hc).1.1.1.1.1.1, fun c hc => xfB_ok (at1 c hc).1.1.1.1.1.2, fun c hc => (at1 c hc).1.1.1.1.2, h3, h4, fun c hc => (at1 c hc).1.1.1.2, fun c hc => (at1 c hc).1.1.2, fun c hc => by rw [(he c hc).2]; exact (hnd _ (mem c hc)).1, fun c hc => by rw [(he c hc).2]; exact (hnd _ (mem c hc)).2,
    fun c c' hc hc' => (at2 c c' hc hc').1, fun c hc => (at1 c hc).1.2, fun c hc => (at1 c hc).2, fun c c' hc hc' => (at2 c c' hc hc').2⟩
/-! ### an exception's __init__ -/
def chkIniS (Ns : List Str) (sc : Scope) : Nat → List Str → List Stmt → Bool
  | _, [], [] => true
  | i, f :: fs, .Assign [.Attribute es g _] ep _ :: sts => decide (f = g) && varB Ns sc 0 es && varB Ns sc i ep && chkIniS Ns sc (i + 1) fs sts
  | _, _, _ => false
def chkIni (xb : Str) (Ns : List Str) (sc : Scope) (fs : List Str) (body : List Stmt) : Bool := match body with
  | .Expr (.Call (.Attribute (.Name x _) m p2) [es, .Constant (.str _) _ _] [] pos) _ :: sts => decide (x = xb) && decide (m = "__init__") && glB sc x && !dbgB x && (p2.endLine == pos.line) && notStar es && varB Ns sc 0 es && !fs.isEmpty && decide (fs.length ≤ 90) && chkIniS Ns sc 1 fs sts
  | _ => false
section
variable {X : Cx} {Ns : List Str} {sc : Scope}
theorem var_of (hN : X.N = Ns) (hsc : X.env.scope = sc) {i : Nat} {e : Expr} (h : varB Ns sc i e = true) : PE X e (tVar i) := by
  unfold varB at h
  cases q : unName e with
  | none => rw [q] at h; cases h
  | some x =>
    rw [q] at h
    obtain ⟨p, rfl⟩ := unName_of q
    simp only [Bool.and_eq_true, Bool.not_eq_true', slotB, decide_eq_true_eq, dbgB, Bool.or_eq_false_iff] at h
    exact pe_var (by rw [hN]; exact h.1.1) (by rw [hsc]; exact visB_of h.1.2) h.2.1 h.2.2
theorem iniS_of (hN : X.N = Ns) (hsc : X.env.scope = sc) : ∀ {i : Nat} {fs : List Str} {sts : List Stmt}, chkIniS Ns sc i fs sts = true → IniS X i fs sts
  | i, [], [], _ => .nil
  | i, [], _ :: _, h => by unfold chkIniS at h; cases h
  | i, f :: fs, [], h => by unfold chkIniS at h; cases h
  | i, f :: fs, st :: sts, h => by
    unfold chkIniS at h
    split at h
    · rename_i e1 e2; cases e1
    · rename_i f' fs' es g p1 ep p2 sts' e1 e2
      cases e1; cases e2
      simp only [Bool.and_eq_true, decide_eq_true_eq] at h
      obtain ⟨⟨⟨rfl, h2⟩, h3⟩, h4⟩ := h
      exact .cons (var_of hN hsc h2) (var_of hN hsc h3) rfl (iniS_of hN hsc h4)
    · cases h
/-- the base class, read -/
theorem ini_ok {xb : Str} {R Ca : Addr} {fs : List Str} {body : List Stmt} (hN : X.N = Ns) (hsc : X.env.scope = sc) (hm : X.mg xb = some (.ref R)) (hb : baseB X.K R = true) (T : OexC X.K Ca) (hno : ∀ g ∈ fs, PySem.W.findIn X.K (.ref Ca) g = some none) (h : chkIni xb Ns sc fs body = true) :
    ∃ t : TS, PSs X body t ∧ ∀ (Ns : List Str) (vs : List V) (H : Hp) (Q : VK) (E : XK), spX X.K Ca fs vs H Q E → t { nx := fun _ H' => Q .non H', rt := Q } (L2.start Ns vs) H := by
  unfold chkIni at h
  split at h
  · rename_i x p1 m p2 es s j pc pos pe sts
    simp only [Bool.and_eq_true, decide_eq_true_eq, Bool.not_eq_true', dbgB, Bool.or_eq_false_iff] at h
    obtain ⟨⟨⟨⟨⟨⟨⟨⟨⟨rfl, rfl⟩, h3⟩, h4⟩, h5⟩, h6⟩, h7⟩, h8⟩, h9⟩, h10⟩ := h
    unfold baseB at hb
    simp only [Bool.and_eq_true, decide_eq_true_eq] at hb
    obtain ⟨⟨b1, b2⟩, b3⟩ := hb
    have b4 : PySem.W.findCls X.K (.ref R) (.type "type") "__init__" = some (.val (.builtin "ValueError.__init__")) := by
      split at b3
      · rename_i n q
        rw [q, of_decide_eq_true b3]
      · cases b3
    cases fs with
    | nil => cases h8
    | cons f fs =>
      have r := iniS_of (X := X) hN hsc h10
      cases r with
      | cons hs hp hn hr =>
        have gl : Gl X x := by
          have := glB_of h3
          rw [← hsc] at this
          exact this
        have pa : PA X [es, .Constant (.str s) j pc] (tCons (tVar 0) (tCons (tC (.str s)) tNil)) := pa_cons (var_of hN hsc h7) (pa_cons pe_str pa_nil) (star_cons h6 _ _)
        exact ini_all T (pe_rinit gl hm b1 b2 b4 h4.1 pa (by rw [List.all_cons, h6] <;> rfl) (by show 2 < 30; decide) h5) rfl hs hp hr hno (by simp at h9; omega)
  · cases h
end
end PX

end

section
set_option Elab.async false
set_option linter.all false
set_option autoImplicit false
set_option maxRecDepth 100000
set_option maxHeartbeats 1000000
namespace PX
open PySem PySem.Spec PyProof.Rows L2
/-- a def of a text, as the program has it and as the small language has it -/
structure Ent where
  fd : FD
  Ns : List Str
  ps : List Str
  dd : He.DefD
/-- an exception's __init__ -/
structure XEnt where
  c : Nat
  Ns : List Str
  ps : List Str
  dd : He.DefD
def BindsN (d : He.DefD) (ps : List Str) : Prop := ∀ (kV doc pm : Value) (an : Option Addr) (cdv ct : Value) (us : List Value), us.length = ps.length → bindArgs (PySem.W.fnOf d.name d.qual d.params d.body d.scope .none kV doc pm an cdv ct) ⟨us, []⟩ = pure (ps.zip us)
structure EntOk (tx : Tx) (e : Ent) : Prop where
  sc : FnScope e.Ns e.ps e.dd.scope
  hn : e.Ns.length = e.fd.ns
  hp : e.ps.length = e.fd.np
  hle : e.fd.np ≤ e.fd.ns
  chk : chkS tx e.Ns e.dd.scope e.fd.body (noDoc e.dd.body) = true
  fk : funB e.dd.scope = true
  dfl : e.dd.dfl = []
  kwd : e.dd.kwd = []
  bd : BindsN e.dd e.ps
structure XEntOk (tx : Tx) (e : XEnt) : Prop where
  sc : FnScope e.Ns e.ps e.dd.scope
  hp : e.ps.length = (tx.xf.getD e.c []).length + 1
  chk : chkIni tx.xb e.Ns e.dd.scope (tx.xf.getD e.c []) (noDoc e.dd.body) = true
  dfl : e.dd.dfl = []
  kwd : e.dd.kwd = []
  bd : BindsN e.dd e.ps
inductive AllOk {α : Type} (p : α → Prop) : List α → Prop where
  | nil : AllOk p []
  | cons {a : α} {l : List α} : p a → AllOk p l → AllOk p (a :: l)
theorem AllOk.mem {α : Type} {p : α → Prop} : ∀ {l : List α}, AllOk p l → ∀ a ∈ l, p a
  | _, .nil, _, h => by cases h
  | _, .cons h r, a, m => by
    rcases List.mem_cons.mp m with rfl | m
    · exact h
    · exact r.mem a m
/-- a text -/
structure Txt where
  tx : Tx
  ents : List Ent
  inits : List XEnt
  clsn : List Str
  gd : List D
namespace Txt
variable (L : Txt)
def T : List FD := L.ents.map (·.fd)
def G (k : Nat) : D := L.gd.getD k .none
/-- the facts that the head tells -/
def fa : List He.Fa := (L.tx.fn.filterMap fun x => x.map He.Fa.glo) ++ (BN.map fun x => He.Fa.free (Str.ofString x)) ++ (L.tx.ex.map He.Fa.glo) ++ [He.Fa.glo L.tx.xb] ++
  (L.clsn.flatMap fun c => [He.Fa.glo c, .cls c, .mkr c] ++ (L.tx.fl.map fun f => He.Fa.noat c f)) ++ (L.tx.me.filterMap fun m => m.map fun p => He.Fa.meth (L.clsn.getD p.1 default) p.2)
def fn : List He.DefD := L.ents.map (·.dd) ++ L.inits.map (·.dd)
def ex (K : PySem.W.Frag) : Bool := exOf L.tx.xb L.tx.ex L.tx.xf (L.inits.map fun e => (e.c, e.dd)) L.tx.gl L.gd K
theorem ex_eq (K : PySem.W.Frag) : L.ex K = (excB K (He.ga K L.tx.xb) ((L.tx.ex.zip L.tx.xf).map fun p => (He.ga K p.1, p.2)) && baseB K (He.ga K L.tx.xb) &&
  L.inits.all (fun e => decide (PySem.W.findIn K (.ref (He.ga K (L.tx.ex.getD e.c default))) "__init__" = some (some (.ref (He.fAd K e.dd.at_)))) && decide (PySem.W.typeIn K (.ref (He.fAd K e.dd.at_)) = some (.type "function"))) &&
  (L.tx.gl.zip L.gd).all (fun p => match PySem.W.nsIn K mainGlobals p.1 with
    | some (some u) => gB K p.2 u
    | _ => false)) := by
  unfold ex exOf
  rw [List.all_map]
  rfl
def nm (K : PySem.W.Frag) (P : Program) (w : World) : Nm where
  K := K
  P := P
  w := w
  cls c := He.ga K ((L.clsn[c]?).getD (L.clsn.headD default))
  fld f := (L.tx.fl[f]?).getD ⟨#[f + 2000000]⟩
  exc c := He.ga K (L.tx.ex.getD c default)
  xfs c := L.tx.xf.getD c []
/-- what a text is, whatever the heap -/
structure Ok : Prop where
  ents : AllOk (EntOk L.tx) L.ents
  inits : AllOk (XEntOk L.tx) L.inits
  /-- a def stands where its number says -/
  fnAt : ∀ (f : Nat) (x : Str), L.tx.fn[f]? = some (some x) → ∃ e, L.ents[f]? = some e ∧ e.dd.at_ = (x, none)
  meAt : ∀ (f c : Nat) (m : Str), L.tx.me[f]? = some (some (c, m)) → (∃ e, L.ents[f]? = some e ∧ e.dd.at_ = (L.clsn.getD c default, some m)) ∧ c < L.clsn.length ∧ m ∉ L.tx.fl
  clAt : ∀ (c f : Nat) (x : Str), L.tx.cl[c]? = some (x, f) → L.clsn[c]? = some x ∧ ∃ e, L.ents[f]? = some e ∧ e.dd.at_ = (x, some ("__init__" : Str))
  ini : ∀ (c : Nat) (l : List Str), c < L.tx.ex.length → L.tx.xf[c]? = some l → l ≠ [] → ∃ e ∈ L.inits, e.c = c
  glen : L.tx.gl.length = L.gd.length
  xlen : L.tx.ex.length = L.tx.xf.length
  xnd : ∀ l ∈ L.tx.xf, l.Nodup ∧ l.length ≤ 90
  fnd : L.tx.fl.Nodup
  flo : ∀ x ∈ L.tx.fl, ∀ n : Nat, x ≠ ⟨#[n + 2000000]⟩
  mlo : ∀ (f c : Nat) (m : Str), L.tx.me[f]? = some (some (c, m)) → ∀ n : Nat, m ≠ ⟨#[n + 2000000]⟩
  cne : L.tx.fl ≠ [] → L.clsn ≠ []
end Txt
section
variable {L : Txt} {P : Program} {w : World} {K : PySem.W.Frag} {mg : Str → Option Value} {h : Heap}
theorem Txt.fa_ok (c : He.SaysD L.fa L.fn K) {f : He.Fa} (hf : f ∈ L.fa) : f.ok K = true := by
  obtain ⟨i, hi, e⟩ := List.mem_iff_getElem.mp hf
  exact c.fact i (by rw [List.getElem?_eq_getElem hi, e])
theorem Txt.fa_fn {f : Nat} {x : Str} (hx : L.tx.fn[f]? = some (some x)) : He.Fa.glo x ∈ L.fa := by
  unfold Txt.fa
  simp only [List.mem_append]
  exact .inl (.inl (.inl (.inl (.inl (List.mem_filterMap.mpr ⟨_, List.mem_of_getElem? hx, rfl⟩)))))
theorem Txt.fa_bn {x : String} (hx : x ∈ BN) : He.Fa.free (Str.ofString x) ∈ L.fa := by
  unfold Txt.fa
  simp only [List.mem_append]
  exact .inl (.inl (.inl (.inl (.inr (List.mem_map_of_mem hx)))))
theorem Txt.fa_ex {c : Nat} {x : Str} (hx : L.tx.ex[c]? = some x) : He.Fa.glo x ∈ L.fa := by
  unfold Txt.fa
  simp only [List.mem_append]
  exact .inl (.inl (.inl (.inr (List.mem_map_of_mem (List.mem_of_getElem? hx)))))
theorem Txt.fa_xb : He.Fa.glo L.tx.xb ∈ L.fa := by
  unfold Txt.fa
  simp only [List.mem_append]
  exact .inl (.inl (.inr (List.mem_singleton.mpr rfl)))
theorem Txt.fa_cl {x : Str} (hx : x ∈ L.clsn) : He.Fa.glo x ∈ L.fa ∧ He.Fa.cls x ∈ L.fa ∧ He.Fa.mkr x ∈ L.fa ∧ ∀ f ∈ L.tx.fl, He.Fa.noat x f ∈ L.fa := by
  have key : ∀ {z : He.Fa}, z ∈ [He.Fa.glo x, .cls x, .mkr x] ++ (L.tx.fl.map fun f => He.Fa.noat x f) → z ∈ L.fa := fun {z} hz => by
    unfold Txt.fa
    simp only [List.mem_append]
    exact .inl (.inr (List.mem_flatMap.mpr ⟨x, hx, hz⟩))
  exact ⟨key (by simp), key (by simp), key (by simp), fun f hf => key (List.mem_append_right _ (List.mem_map_of_mem hf))⟩
theorem Txt.fa_me {f c : Nat} {m : Str} (hx : L.tx.me[f]? = some (some (c, m))) : He.Fa.meth (L.clsn.getD c default) m ∈ L.fa := by
  unfold Txt.fa
  simp only [List.mem_append]
  exact .inr (List.mem_filterMap.mpr ⟨_, List.mem_of_getElem? hx, rfl⟩)
/-- the functions' records -/
theorem Txt.recs (ok : L.Ok) (c : He.SaysD L.fa L.fn K) : (∀ e ∈ L.ents, ∃ fdd, FunD K e.dd.name e.dd.qual e.dd.params e.dd.body e.dd.scope [] [] (He.fAd K e.dd.at_) fdd) ∧
    ∀ e ∈ L.inits, ∃ fdd, FunD K e.dd.name e.dd.qual e.dd.params e.dd.body e.dd.scope [] [] (He.fAd K e.dd.at_) fdd := by
  have key : ∀ d ∈ L.fn, d.dfl = [] → d.kwd = [] → ∃ fdd, FunD K d.name d.qual d.params d.body d.scope [] [] (He.fAd K d.at_) fdd := fun d hd h1 h2 => by
    obtain ⟨i, hi, e⟩ := List.mem_iff_getElem.mp hd
    obtain ⟨fdd, F⟩ := c.def_ i (d := d) (by rw [List.getElem?_eq_getElem hi, e])
    refine ⟨fdd, ?_⟩
    have e1 : d.dvs K = [] := by unfold He.DefD.dvs; rw [h1] <;> rfl
    have e2 : d.kws K = [] := by unfold He.DefD.kws; rw [h2] <;> rfl
    rw [e1, e2] at F
    exact F
  exact ⟨fun e he => key _ (List.mem_append_left _ (List.mem_map_of_mem he)) (ok.ents.mem e he).dfl (ok.ents.mem e he).kwd, fun e he => key _ (List.mem_append_right _ (List.mem_map_of_mem he)) (ok.inits.mem e he).dfl (ok.inits.mem e he).kwd⟩
theorem Txt.nmOk (ok : L.Ok) (c : He.SaysD L.fa L.fn K) : NmOk (L.nm K P w) L.tx.fl.length := by
  have clm : L.tx.fl ≠ [] → ∀ c : Nat, (L.clsn[c]?).getD (L.clsn.headD default) ∈ L.clsn := fun hne (c : Nat) => by
    have hc := ok.cne hne
    cases q : L.clsn[c]? with
    | some x => exact List.mem_of_getElem? q
    | none =>
      cases q2 : L.clsn with
      | nil => exact absurd q2 hc
      | cons a l => exact List.mem_cons_self
  refine ⟨fun f g e => ?_, fun hne cc => ?_, fun cc f hf => ?_⟩
  · have e' : (L.tx.fl[f]?).getD ⟨#[f + 2000000]⟩ = (L.tx.fl[g]?).getD ⟨#[g + 2000000]⟩ := e
    cases q : L.tx.fl[f]? with
    | none => cases q2 : L.tx.fl[g]? with
      | none =>
        rw [q, q2] at e'
        have e2 : (#[f + 2000000] : Array Nat) = #[g + 2000000] := congrArg Str.cps e'
        have e3 : f + 2000000 = g + 2000000 := by simpa using e2
        omega
      | some y => rw [q, q2] at e'; exact absurd e'.symm (ok.flo y (List.mem_of_getElem? q2) f)
    | some x => cases q2 : L.tx.fl[g]? with
      | none => rw [q, q2] at e'; exact absurd e' (ok.flo x (List.mem_of_getElem? q) g)
      | some y =>
        rw [q, q2] at e'
        have e2 : x = y := e'
        subst e2
        exact nodup_ix ok.fnd q q2
  · exact He.cls_ok (Txt.fa_ok c (Txt.fa_cl (clm (by intro z; rw [z] at hne; cases hne) cc)).2.1)
  · have e1 : L.tx.fl[f]? = some (L.tx.fl[f]) := List.getElem?_eq_getElem hf
    have hne : L.tx.fl ≠ [] := by intro z; rw [z] at hf; cases hf
    have e2 : (L.nm K P w).fld f = L.tx.fl[f] := by show (L.tx.fl[f]?).getD _ = _; rw [e1] <;> rfl
    rw [e2]
    exact He.noat_ok (Txt.fa_ok c ((Txt.fa_cl (clm hne cc)).2.2.2 _ (List.mem_of_getElem? e1)))
end
end PX

end

section
set_option Elab.async false
set_option linter.all false
set_option autoImplicit false
set_option maxRecDepth 100000
set_option maxHeartbeats 2000000
namespace PX
open PySem PySem.Spec PyProof.Rows L2
section
variable {L : Txt} {P : Program} {w : World} {K : PySem.W.Frag} {mg : Str → Option Value} {h base : Heap}
/-- what the head has left, in one -/
structure HdOk (L : Txt) (K : PySem.W.Frag) (mg : Str → Option Value) : Prop where
  ok : L.Ok
  says : He.SaysD L.fa L.fn K
  ex : L.ex K = true
  glo : ∀ x, He.Fa.glo x ∈ L.fa → mg x = some (.ref (He.ga K x))
  free : ∀ x, He.Fa.free x ∈ L.fa → mg x = none
  ns : ∀ (x : Str) (u : Value), PySem.W.nsIn K mainGlobals x = some (some u) → mg x = some u
theorem HdOk.of (ok : L.Ok) (X : K.In h) (G : h.Ns mainGlobals mg) (c : He.SaysD L.fa L.fn K) (ex : L.ex K = true) : HdOk L K mg :=
  ⟨ok, c, ex, fun x hx => He.glo_ok X G (Txt.fa_ok c hx), fun x hx => He.free_ok X G (Txt.fa_ok c hx), fun x u e => PySem.W.mg_of X G e⟩
/-- an exception's __init__ keeps its promise -/
theorem HdOk.ini (H : HdOk L K mg) {c : Nat} {l : List Str} (hc : c < L.tx.ex.length) (hl : L.tx.xf[c]? = some l) (hne : l ≠ []) (xc : XcOk (L.nm K P w) L.tx.ex.length (He.ga K L.tx.xb)) :
    ∃ (fI : Addr) (fd : FuncData) (ps : List Str), PySem.W.findIn K (.ref ((L.nm K P w).exc c)) "__init__" = some (some (.ref fI)) ∧ PySem.W.typeIn K (.ref fI) = some (.type "function") ∧
      FnG P w K mg base (L2.CX P w) 1 fI fd ps (spX K ((L.nm K P w).exc c) ((L.nm K P w).xfs c)) ∧ Binds K fd ps [] := by
  obtain ⟨e, he, rfl⟩ := H.ok.ini c l hc hl hne
  have xo := H.ok.inits.mem e he
  obtain ⟨fdd, F⟩ := (Txt.recs H.ok H.says).2 e he
  have hex := H.ex
  rw [Txt.ex_eq] at hex
  simp only [Bool.and_eq_true, List.all_eq_true, decide_eq_true_eq] at hex
  obtain ⟨⟨⟨h1, h2⟩, h3⟩, h4⟩ := hex
  obtain ⟨i1, i2⟩ := h3 e he
  have e1 : (L.nm K P w).xfs e.c = l := by show L.tx.xf.getD e.c [] = l; rw [List.getD_eq_getElem?_getD, hl] <;> rfl
  have e2 : L.tx.xf.getD e.c [] = l := e1
  refine ⟨He.fAd K e.dd.at_, fdd, e.ps, i1, i2, ?_, F.bindsN xo.bd⟩
  rw [e1]
  obtain ⟨oc, od, dV, kV, doc, pm, an, cdv, ct, osl, rfl, lk, hcd, hD, hK⟩ := F.ex
  have hps : e.ps.length = l.length + 1 := by rw [xo.hp, e2]
  refine fnG_of lk hcd xo.sc (fun vs H Q E ⟨a, ws, e, hl, _⟩ => by subst e; rw [List.length_cons, hl, hps]) fun A outer s H' vs Q E hr hsp => ?_
  have hchk := xo.chk
  rw [e2] at hchk
  obtain ⟨t, pt, kt⟩ := ini_ok (X := cxOf (L2.CX P w) P w K mg base e.Ns e.dd.qual e.dd.scope (He.fAd K e.dd.at_) cdv A outer s H' E) (Ns := e.Ns) (sc := e.dd.scope) rfl rfl (H.glo _ Txt.fa_xb) h2 (xc.oex e.c hc) (fun g hg => xc.nof e.c hc g (by rw [e1]; exact hg)) hchk
  exact ⟨t, pss_noDoc pt, kt e.Ns vs H' Q E hsp⟩
theorem HdOk.xc (H : HdOk L K mg) : XcOk (L.nm K P w) L.tx.ex.length (He.ga K L.tx.xb) := by
  have hex := H.ex
  rw [Txt.ex_eq] at hex
  simp only [Bool.and_eq_true] at hex
  obtain ⟨⟨⟨h1, h2⟩, h3⟩, h4⟩ := hex
  have hl : ((L.tx.ex.zip L.tx.xf).map fun p => (He.ga K p.1, p.2)).length = L.tx.ex.length := by rw [List.length_map, List.length_zip, H.ok.xlen]; omega
  have z := excB_ok (N := L.nm K P w) (R := He.ga K L.tx.xb) (Cs := (L.tx.ex.zip L.tx.xf).map fun p : Str × List Str => (He.ga K p.1, p.2)) (fun p hp => ?_) (fun c hc => ?_) h1
  · rw [hl] at z; exact z
  · obtain ⟨q, hq, rfl⟩ := List.mem_map.mp hp
    exact H.ok.xnd _ (List.of_mem_zip hq).2
  · rw [hl] at hc
    have hc2 : c < L.tx.xf.length := by rw [← H.ok.xlen]; exact hc
    have e1 : ((L.tx.ex.zip L.tx.xf).map fun p => (He.ga K p.1, p.2)).getD c default = (He.ga K (L.tx.ex[c]), L.tx.xf[c]) := by
      rw [List.getD_eq_getElem?_getD, List.getElem?_map, List.getElem?_eq_getElem (by rw [List.length_zip]; omega), List.getElem_zip] <;> rfl
    rw [e1]
    refine ⟨?_, ?_⟩
    · show He.ga K (L.tx.ex.getD c default) = _
      rw [List.getD_eq_getElem?_getD, List.getElem?_eq_getElem hc] <;> rfl
    · show L.tx.xf.getD c [] = _
      rw [List.getD_eq_getElem?_getD, List.getElem?_eq_getElem hc2] <;> rfl
/-- every def keeps its promise, at every depth -/
theorem HdOk.all (H : HdOk L K mg) (F : Nat → FuncData) (hF : ∀ (f : Nat) (e : Ent), L.ents[f]? = some e → FunD K e.dd.name e.dd.qual e.dd.params e.dd.body e.dd.scope [] [] (He.fAd K e.dd.at_) (F f)) : ∀ (n f : Nat) (e : Ent), L.ents[f]? = some e →
    FnG P w K mg base (L2.CX P w) (2 * n + 2) (He.fAd K e.dd.at_) (F f) e.ps (spC (L.nm K P w) (callN L.T L.G n) f)
  | 0, f, e, he => fn_zero
  | n + 1, f, e, he => by
    have ih := HdOk.all H F hF n
    have eo := H.ok.ents.mem e (List.mem_of_getElem? he)
    have bd : ∀ (f : Nat) (e : Ent), L.ents[f]? = some e → Binds K (F f) e.ps [] := fun f e he => (hF f e he).bindsN (H.ok.ents.mem e (List.mem_of_getElem? he)).bd
    have FO : ∀ {X : Cx} (f : Nat) (e : Ent), X.prog = P → X.w = w → X.K = K → X.mg = mg → X.base = base → L.ents[f]? = some e → FOk (L.nm K P w) (callN L.T L.G n) X (2 * n + 2) f (He.fAd K e.dd.at_) [] := fun {X} f e h1 h2 h3 h4 h5 he => by
      subst h1 h2 h3 h4 h5
      exact ⟨_, _, [], ih f e he, bd f e he, .nil⟩
    obtain ⟨oc, od, dV, kV, doc, pm, an, cdv, ct, osl, e0, lk, hcd, hD, hK⟩ := (hF f e he).ex
    have kp := fun (f : Nat) (e : Ent) (he : L.ents[f]? = some e) => (hF f e he).kp
    rw [e0] at lk
    rw [e0]
    have hT : L.T[f]? = some e.fd := by unfold Txt.T; rw [List.getElem?_map, he] <;> rfl
    have hex := H.ex
    rw [Txt.ex_eq] at hex
    simp only [Bool.and_eq_true, List.all_eq_true] at hex
    refine fn_ok (k := 2 * n + 3) lk hcd eo.sc hT eo.hn eo.hp eo.hle fun A outer s H' E hr => ?_
    refine pss_noDoc (snds (tx := L.tx) (nf := L.tx.fl.length) (k := 2 * n + 2) (Ns := e.Ns) (sc := e.dd.scope) (H0 := H') e.fd.body ?_ owns_cx eo.fk ⟨rfl, rfl⟩ _ eo.chk).1
    refine ⟨rfl, rfl, rfl, rfl, hr, rfl, eo.sc.nd, rfl, fun x hx => ⟨hx, .inl rfl⟩, takes_cx, fun x hx => H.free _ (Txt.fa_bn hx), fun f x hx => ?_, fun f c m hx => ?_, fun c f x hx => ?_, fun k x hx => ?_, fun f x hx => ?_, Txt.nmOk H.ok H.says, ⟨_, H.xc, H.glo _ Txt.fa_xb⟩, fun c x hx => ?_, fun c l hl => ?_, fun c l hc hl hne => ?_⟩
    · obtain ⟨e1, he1, ha⟩ := H.ok.fnAt f x hx
      have ea : He.fAd K e1.dd.at_ = He.ga K x := by rw [ha] <;> rfl
      refine ⟨He.fAd K e1.dd.at_, ?_, kp f e1 he1, FO f e1 rfl rfl rfl rfl rfl he1⟩
      rw [ea]
      exact H.glo _ (Txt.fa_fn hx)
    · obtain ⟨⟨e1, he1, ha⟩, hc, hm⟩ := H.ok.meAt f c m hx
      have ec : (L.nm K P w).cls c = He.ga K (L.clsn.getD c default) := by
        show He.ga K ((L.clsn[c]?).getD _) = _
        rw [List.getD_eq_getElem?_getD, List.getElem?_eq_getElem hc] <;> rfl
      have ea : He.fAd K e1.dd.at_ = He.ma K (He.ga K (L.clsn.getD c default)) m := by rw [ha] <;> rfl
      have mc : L.clsn.getD c default ∈ L.clsn := by rw [List.getD_eq_getElem?_getD, List.getElem?_eq_getElem hc]; exact List.getElem_mem hc
      refine ⟨He.fAd K e1.dd.at_, ?_, ?_, FO f e1 rfl rfl rfl rfl rfl he1, fun g => ?_⟩
      · rw [ec]; exact He.cls_ok (Txt.fa_ok H.says (Txt.fa_cl mc).2.1)
      · rw [ec, ea]; exact He.meth_ok (Txt.fa_ok H.says (Txt.fa_me hx))
      · show (L.tx.fl[g]?).getD _ ≠ m
        cases q : L.tx.fl[g]? with
        | none => exact fun z => H.ok.mlo f c m hx g z.symm
        | some y => exact fun z => hm (by rw [← show y = m from z]; exact List.mem_of_getElem? q)
    · obtain ⟨hc, e1, he1, ha⟩ := H.ok.clAt c f x hx
      have ec : (L.nm K P w).cls c = He.ga K x := by
        show He.ga K ((L.clsn[c]?).getD _) = _
        rw [hc] <;> rfl
      have ea : He.fAd K e1.dd.at_ = He.ma K (He.ga K x) "__init__" := by rw [ha] <;> rfl
      have fc := Txt.fa_cl (L := L) (List.mem_of_getElem? hc)
      refine ⟨He.fAd K e1.dd.at_, ?_, ?_, FO f e1 rfl rfl rfl rfl rfl he1⟩
      · rw [ec]; exact H.glo _ fc.1
      · rw [ec, ea]; exact He.mkr_ok (Txt.fa_ok H.says fc.2.2.1)
    · have hk : k < L.gd.length := by rw [← H.ok.glen]; exact (List.getElem?_eq_some_iff.mp hx).1
      have hm : (x, L.gd[k]) ∈ L.tx.gl.zip L.gd := by
        refine List.mem_iff_getElem?.mpr ⟨k, ?_⟩
        rw [List.getElem?_zip_eq_some]
        exact ⟨hx, List.getElem?_eq_getElem hk⟩
      have z := hex.2 _ hm
      split at z
      · rename_i u q
        obtain ⟨r1, r2⟩ := gB_ok _ _ z
        refine ⟨u, toV u, H.ns _ _ q, r1, fun H1 W1 => ?_⟩
        have eg : L.G k = L.gd[k] := by unfold Txt.G; rw [List.getD_eq_getElem?_getD, List.getElem?_eq_getElem hk] <;> rfl
        rw [eg]
        exact r2 _ _ _ rfl
      · cases z
    · refine ⟨?_, (List.getElem?_eq_some_iff.mp hx).1⟩
      show x = (L.tx.fl[f]?).getD _
      rw [hx] <;> rfl
    · have ec : (L.nm K P w).exc c = He.ga K x := by
        show He.ga K (L.tx.ex.getD c default) = _
        rw [List.getD_eq_getElem?_getD, hx] <;> rfl
      rw [ec]
      exact H.glo _ (Txt.fa_ex hx)
    · show L.tx.xf.getD c [] = l
      rw [List.getD_eq_getElem?_getD, hl] <;> rfl
    · obtain ⟨fI, fd, ps, i1, i2, i3, i4⟩ := H.ini (P := P) (w := w) (base := base) hc hl hne H.xc
      exact ⟨fI, fd, ps, i1, i2, ⟨i3.len, fun A outer s H args us vs Q E hr => i3.run A outer s H args us vs Q E (hr.mono (by omega))⟩, i4⟩
/-- the whole: F's promise for walk_G -/
theorem Txt.end_ {n f : Nat} {e : Ent} {x x0 : Str} (ok : L.Ok) (he : L.ents[f]? = some e) (hps : e.ps = [x]) (hat : e.dd.at_ = (x0, none)) (X : K.In h) (G : h.Ns mainGlobals mg) (c : He.SaysD L.fa L.fn K) (ex : L.ex K = true) {fa : Addr} (hfa : mg x0 = some (.ref fa)) (hfn : L.tx.fn[f]? = some (some x0)) :
    ∃ fd : FuncData, (∀ (s : Shared) (u : Value), BindsTo s fd ⟨[u], []⟩ [(x, u)]) ∧ ∀ base : Heap, K.In base → base.Ns mainGlobals mg → FnG P w K mg base (L2.CX P w) (2 * n + 2) fa fd [x] (spC (L.nm K P w) (callN L.T L.G n) f) := by
  have H := HdOk.of ok X G c ex
  have rcs := (Txt.recs ok c).1
  have ch : ∃ F : Nat → FuncData, ∀ (f : Nat) (e : Ent), L.ents[f]? = some e → FunD K e.dd.name e.dd.qual e.dd.params e.dd.body e.dd.scope [] [] (He.fAd K e.dd.at_) (F f) := by
    obtain ⟨fd0, _⟩ := rcs e (List.mem_of_getElem? he)
    have q : ∀ g : Nat, ∃ fd : FuncData, ∀ e : Ent, L.ents[g]? = some e → FunD K e.dd.name e.dd.qual e.dd.params e.dd.body e.dd.scope [] [] (He.fAd K e.dd.at_) fd := fun g => by
      cases qg : L.ents[g]? with
      | none => exact ⟨fd0, fun _ z => nomatch z⟩
      | some e1 =>
        obtain ⟨fd1, F1⟩ := rcs e1 (List.mem_of_getElem? qg)
        exact ⟨fd1, fun e2 z => by cases z; exact F1⟩
    exact ⟨fun g => Classical.choose (q g), fun g e he => Classical.choose_spec (q g) e he⟩
  obtain ⟨F, hF⟩ := ch
  have ea : fa = He.fAd K e.dd.at_ := by
    have := H.glo _ (Txt.fa_fn hfn)
    rw [hfa] at this
    rw [hat]
    exact Value.ref.inj (Option.some.inj this)
  subst ea
  refine ⟨F f, fun s u => ?_, fun base _ _ => ?_⟩
  · have := FunD.bindsA (ps := e.ps) (hF f e he) (ok.ents.mem e (List.mem_of_getElem? he)).bd s [u] (by rw [hps] <;> rfl)
    rw [hps] at this
    exact this
  · have := HdOk.all (P := P) (w := w) (base := base) H F hF n f e he
    rw [hps] at this
    exact this
end
end PX

end

section
set_option Elab.async false
set_option linter.all false
set_option autoImplicit false
set_option maxRecDepth 100000
set_option maxHeartbeats 1000000
namespace PX
open PySem PySem.Spec PyProof.Rows L2
theorem scr_reps {N : Nm} {H : Hp} {W : Addr → Prop} : ∀ ns : List Int, Reps N H W (ns.map D.int) (ns.map V.int)
  | [] => rfl
  | n :: ns => ⟨.int n, ns.map V.int, rfl, rfl, scr_reps ns⟩
/-- the law's promise at the script -/
theorem sp_script {N : Nm} {C : Call} {f : Nat} {ns : List Int} {outs : List Cell} (main : C f [.val (.scr (ns.map .int))] = .ok (.bool true) false outs) {H : Hp} {a : Addr} (hO : Only H) (hS : SqL N.K H a (ns.map V.int)) : spC N C f [.ref a] H (fun v _ => v = .bl true) fun _ _ _ => False := by
  have hs : ScL N.K H a (ns.map V.int) := by
    rcases hS with (h | h) | h
    · rcases hO a with z | ⟨o, xs, z⟩
      · rw [h] at z; cases z
      · rw [h] at z; cases z
    · exact .inl h
    · exact .inr h
  refine ⟨fun _ => False, [.val (.scr (ns.map .int))], .cons ⟨a, ns.map V.int, rfl, hs, scr_reps ns⟩ .nil, fun x w => w.elim, fun i j p q d e b h1 _ _ _ => ?_, ?_⟩
  · cases i with
    | zero => cases h1
    | succ i => simp at h1
  · rw [main]
    intro v H1 W1 _ _ _ vr
    exact vr
end PX

end

section
set_option Elab.async false
set_option linter.all false
set_option maxRecDepth 100000
namespace PX
open PySem
/-! ### what comes of a reckoning -/
abbrev EQ := Nat → List (Nat × D) → Prop
def wp {α : Type} (r : Res α) (Q : α → Ev → Prop) (E : EQ) : Prop := match r with
  | .ok a ρ => Q a ρ
  | .exc c fs => E c fs
  | .bad => False
def wpC (r : CRes) (Q : D → Bool → List Cell → Prop) (E : EQ) : Prop := match r with
  | .ok d fr outs => Q d fr outs
  | .exc c fs => E c fs
  | .bad => False
section
variable {α β : Type} {Q : α → Ev → Prop} {E : EQ} {ρ : Ev}
theorem wp_ok {a : α} : wp (.ok a ρ) Q E = Q a ρ := rfl
theorem wp_exc {c : Nat} {fs : List (Nat × D)} : wp (.exc c fs) Q E = E c fs := rfl
theorem wp_bad : wp (.bad : Res α) Q E = False := rfl
theorem wp_bind {r : Res β} {f : β → Ev → Res α} : wp (r.bind f) Q E = wp r (fun a ρ => wp (f a ρ) Q E) E := by cases r <;> rfl
theorem wp_ofO {o : Option α} : wp (ofO o ρ) Q E = (∃ a, o = some a ∧ Q a ρ) := by
  cases o with
  | none => simp [ofO, wp]
  | some a => simp [ofO, wp]
theorem wp_ofO_some {a : α} : wp (ofO (some a) ρ) Q E = Q a ρ := rfl
theorem wp_ofO_if {c : Prop} [Decidable c] {a : α} : wp (ofO (if c then some a else none) ρ) Q E = (c ∧ Q a ρ) := by
  by_cases h : c <;> simp [h, ofO, wp]
theorem wp_ite {c : Prop} [Decidable c] {a b : Res α} : wp (if c then a else b) Q E = (if c then wp a Q E else wp b Q E) := by split <;> rfl
theorem wp_mono {r : Res α} {Q' : α → Ev → Prop} {E' : EQ} (h : wp r Q E) (k : ∀ a ρ, Q a ρ → Q' a ρ) (e : ∀ c fs, E c fs → E' c fs) : wp r Q' E' := by
  cases r with
  | ok a ρ => exact k _ _ h
  | exc c fs => exact e _ _ h
  | bad => exact h
theorem wpC_mono {r : CRes} {Q Q' : D → Bool → List Cell → Prop} {E' : EQ} (h : wpC r Q E) (k : ∀ d fr o, Q d fr o → Q' d fr o) (e : ∀ c fs, E c fs → E' c fs) : wpC r Q' E' := by
  cases r with
  | ok a fr o => exact k _ _ _ h
  | exc c fs => exact e _ _ h
  | bad => exact h
theorem wp_nox {r : Res α} : wp (nox r) Q E = wp r Q (fun _ _ => False) := by cases r <;> rfl
end
theorem wp_doCall {C : Call} {f : Nat} {args : List Arg} {ρ : Ev} {Q : D × Bool → Ev → Prop} {E : EQ} {cells : List Cell} (hn : nodupB (slotsOf args) = true) (hc : argCells ρ args = some cells)
    (h : wpC (C f cells) (fun d fr outs => ∃ ρ', giveBack args outs ρ = some ρ' ∧ Q (d, fr) ρ') E) : wp (doCall C f args ρ) Q E := by
  unfold doCall
  rw [if_pos hn, hc]
  show wp (match C f cells with
    | .ok d fr outs => (match giveBack args outs ρ with
      | some ρ' => .ok (d, fr) ρ'
      | none => .bad)
    | .exc c fs => .exc c fs
    | .bad => .bad) Q E
  revert h
  cases C f cells with
  | ok d fr outs =>
    rintro ⟨ρ', h1, h2⟩
    show wp (match giveBack args outs ρ with | some ρ' => .ok (d, fr) ρ' | none => .bad) Q E
    rw [h1]
    exact h2
  | exc c fs => exact fun h => h
  | bad => exact fun h => h
theorem wpC_call {T : List FD} {G : Nat → D} {n f : Nat} {fd : FD} {cells : List Cell} {Q : D → Bool → List Cell → Prop} {E : EQ} (hT : T[f]? = some fd) (hl : cells.length = fd.np)
    (h : wp (evS (callN T G n) G fd.body (cells.map markC ++ List.replicate (fd.ns - fd.np) .unset)) (fun fl ρ => match fl with
      | .ret d fr => Q d fr (ρ.take fd.np)
      | .nx => Q .none false (ρ.take fd.np)
      | _ => False) E) : wpC (callN T G (n + 1) f cells) Q E := by
  have e : callN T G (n + 1) f cells = runF fd (callN T G n) G cells := by
    show (match T[f]? with | some fd => runF fd (callN T G n) G cells | none => CRes.bad) = _
    rw [hT]
  rw [e]
  unfold runF
  rw [if_pos hl]
  revert h
  cases evS (callN T G n) G fd.body (cells.map markC ++ List.replicate (fd.ns - fd.np) .unset) with
  | ok fl ρ => cases fl <;> exact fun h => h
  | exc c fs => exact fun h => h
  | bad => exact fun h => h
/-! ### loops -/
/-- behind one turn -/
def Turn (Q : Fl → Ev → Prop) (next : Ev → Prop) : Fl → Ev → Prop := fun fl ρ => match fl with
  | .nx => next ρ
  | .ct => next ρ
  | .bk => Q .nx ρ
  | .ret d fr => Q (.ret d fr) ρ
theorem wp_forL {f : D → Ev → Res Fl} {E : EQ} {Q : Fl → Ev → Prop} (I : List D → Ev → Prop) : ∀ (ds done : List D) (ρ : Ev), I done ρ → (∀ (pre : List D) (d : D) (post : List D) (ρ : Ev), done ++ ds = pre ++ d :: post → I pre ρ → wp (f d ρ) (Turn Q (I (pre ++ [d]))) E) → (∀ ρ, I (done ++ ds) ρ → Q .nx ρ) → wp (forL f ds ρ) Q E
  | [], done, ρ, h, _, e => e ρ (by simpa using h)
  | d :: ds, done, ρ, h, s, e => by
    show wp ((f d ρ).bind fun r ρ => match r with
      | .nx => forL f ds ρ
      | .ct => forL f ds ρ
      | .bk => .ok .nx ρ
      | .ret d fr => .ok (.ret d fr) ρ) Q E
    rw [wp_bind]
    refine wp_mono (s done d ds ρ rfl h) (fun fl ρ1 h1 => ?_) fun _ _ h => h
    have e1 : done ++ d :: ds = (done ++ [d]) ++ ds := by simp
    rw [e1] at e
    cases fl with
    | nx => exact wp_forL I ds (done ++ [d]) ρ1 h1 (fun pre d' post ρ h => s pre d' post ρ (by rw [e1]; exact h)) e
    | ct => exact wp_forL I ds (done ++ [d]) ρ1 h1 (fun pre d' post ρ h => s pre d' post ρ (by rw [e1]; exact h)) e
    | bk => exact h1
    | ret d fr => exact h1
theorem wp_compL {t : D → Ev → Res Bool} {f : D → Ev → Res D} {E : EQ} {Q : List D → Ev → Prop} (I : List D → List D → Ev → Prop) : ∀ (ds done out : List D) (ρ : Ev), I done out ρ →
    (∀ (pre : List D) (d : D) (post out : List D) (ρ : Ev), done ++ ds = pre ++ d :: post → I pre out ρ → wp (t d ρ) (fun b ρ => if b then wp (f d ρ) (fun y ρ => I (pre ++ [d]) (out ++ [y]) ρ) E else I (pre ++ [d]) out ρ) E) →
    (∀ r ρ, I (done ++ ds) (out ++ r) ρ → Q r ρ) → wp (compL t f ds ρ) Q E
  | [], done, out, ρ, h, _, e => e [] ρ (by simpa using h)
  | d :: ds, done, out, ρ, h, s, e => by
    show wp ((t d ρ).bind fun b ρ => if b then (f d ρ).bind fun y ρ => (compL t f ds ρ).bind fun r ρ => .ok (y :: r) ρ else compL t f ds ρ) Q E
    rw [wp_bind]
    have e1 : done ++ d :: ds = (done ++ [d]) ++ ds := by simp
    rw [e1] at e
    have s' : ∀ (pre : List D) (d' : D) (post out : List D) (ρ : Ev), (done ++ [d]) ++ ds = pre ++ d' :: post → I pre out ρ → wp (t d' ρ) (fun b ρ => if b then wp (f d' ρ) (fun y ρ => I (pre ++ [d']) (out ++ [y]) ρ) E else I (pre ++ [d']) out ρ) E := fun pre d' post out ρ h => s pre d' post out ρ (by rw [e1]; exact h)
    refine wp_mono (s done d ds out ρ rfl h) (fun b ρ1 h1 => ?_) fun _ _ h => h
    cases b with
    | true =>
      rw [if_pos rfl] at h1 ⊢
      rw [wp_bind]
      refine wp_mono h1 (fun y ρ2 h2 => ?_) fun _ _ h => h
      rw [wp_bind]
      refine wp_compL I ds (done ++ [d]) (out ++ [y]) ρ2 h2 s' fun r ρ3 h3 => ?_
      rw [wp_ok]
      refine e (y :: r) ρ3 ?_
      have : out ++ y :: r = out ++ [y] ++ r := by simp
      rw [this]; exact h3
    | false =>
      rw [if_neg Bool.false_ne_true] at h1 ⊢
      exact wp_compL I ds (done ++ [d]) out ρ1 h1 s' e
end PX

end

section
set_option Elab.async false
set_option linter.all false
set_option maxRecDepth 100000
namespace PX
open PySem
/-! ### the small language step by step: what is wanted behind each piece -/
section
variable (C : Call) (G : Nat → D)
def We (e : E) (ρ : Ev) (K : D × Bool → Ev → Prop) (X : EQ) : Prop := wp (ev C G e ρ) K X
def Wd (e : E) (ρ : Ev) (K : D → Ev → Prop) (X : EQ) : Prop := wp (rdOr e (ev C G e) ρ) K X
def W2 (a b : E) (ρ : Ev) (K : D × D → Ev → Prop) (X : EQ) : Prop := wp (two a b (ev C G a) (ev C G b) ρ) K X
def Wt (e : E) (ρ : Ev) (K : Bool → Ev → Prop) (X : EQ) : Prop := wp (evT C G e ρ) K X
def Wl (e : E) (ρ : Ev) (K : List D → Ev → Prop) (X : EQ) : Prop := wp (evs C G e ρ) K X
def Wr (e : E) (ρ : Ev) (K : List D → Ev → Prop) (X : EQ) : Prop := wp (evRs C G e ρ) K X
def Wa (e : E) (ρ : Ev) (K : List Arg → Ev → Prop) (X : EQ) : Prop := wp (evA C G e ρ) K X
def Wo (e : E) (ρ : Ev) (K : D → Ev → Prop) (X : EQ) : Prop := wp (evO C G e ρ) K X
def Wi (e : E) (ρ : Ev) (K : List D × List Nat → Ev → Prop) (X : EQ) : Prop := wp (evI C G e ρ) K X
def Wq (e : E) (ρ : Ev) (K : List D × List Nat → Ev → Prop) (X : EQ) : Prop := wp (seqR e (ev C G e) ρ) K X
def Ws (s : S) (ρ : Ev) (K : Fl → Ev → Prop) (X : EQ) : Prop := wp (evS C G s ρ) K X
end
def Bo (o : Op2) (x y : D) (k : D → Prop) : Prop := ∃ d, bop o x y = some d ∧ k d
def Co (c : Cp) (x y : D) (k : Bool → Prop) : Prop := ∃ t, cpd c x y = some t ∧ k t
def Ix (x y : D) (k : D → Prop) : Prop := ∃ d, getIx x y = some d ∧ k d
def Tr (x : D) (k : Bool → Prop) : Prop := ∃ t, truth x = some t ∧ k t
def Sl (x a b : D) (k : D × Bool → Prop) : Prop := ∃ r, slc x a b = some r ∧ k r
def Bf (b : BI) (ds : List D) (k : D × Bool → Prop) : Prop := ∃ r, biF b ds = some r ∧ k r
def Bm (b : BM) (d : D) (ds : List D) (k : D × Bool → Prop) : Prop := ∃ r, bmf b d ds = some r ∧ k r
def Mf (m : MU) (d : D) (ds : List D) (k : D × D → Prop) : Prop := ∃ r, muf m d ds = some r ∧ k r
def Ng (d : D) (k : Int → Prop) : Prop := ∃ i, d = .int i ∧ k i
def Oi (d : D) (k : Prop) : Prop := d.isInt = true ∧ k
def Mi (m : MU) (i : Nat) (ds : List D) (ρ : Ev) (k : D → Ev → Prop) : Prop := ∃ p d, ρ[i]? = some (.own p d) ∧ Mf m d ds fun r => k r.1 (ρ.set i (.own p r.2))
def R1 (d : D) (k : List D → Prop) : Prop := ∃ i, d = .int i ∧ rOk 0 i = true ∧ k (irange 0 i)
def R2 (x y : D) (k : List D → Prop) : Prop := ∃ i j, x = .int i ∧ y = .int j ∧ rOk i j = true ∧ k (irange i j)
def Zn (x y : D) (k : List D → Prop) : Prop := ∃ l m, x = .tup l ∧ y = .tup m ∧ k (zipD l m)
def Zp (x y : D) (k : List D → Prop) : Prop := ∃ l m, seqOf x = some l ∧ seqOf y = some m ∧ (x.isTup == y.isTup) = true ∧ k (zipD l m)
def Sq (d : D) (k : List D → Prop) : Prop := ∃ l, seqOf d = some l ∧ k l
section
variable {C : Call} {G : Nat → D} {ρ : Ev} {X : EQ} {K : D × Bool → Ev → Prop} {a b c l : E}
def nvB : E → Bool
  | .var _ => false
  | _ => true
theorem nv_of (h : nvB a = true) : ∀ i, a ≠ .var i := by
  intro i e
  subst e
  cases h
def plainC : Cp → Bool
  | .isN => false
  | .notN => false
  | _ => true
theorem wp_of {α : Type} {o : Option α} {Q : α → Ev → Prop} {x : α} (h : o = some x) (k : Q x ρ) : wp (ofO o ρ) Q X := by rw [h]; exact k
theorem nv_rd {r : Ev → Res (D × Bool)} {K : D → Ev → Prop} (h : ∀ i, a ≠ .var i) : wp (rdOr a r ρ) K X = wp (r ρ) (fun d ρ => K d.1 ρ) X := by
  cases a <;> first | exact wp_bind | exact absurd rfl (h _)
theorem nv_two {ra rb : Ev → Res (D × Bool)} {K : D × D → Ev → Prop} (h : ∀ i, a ≠ .var i) : wp (two a b ra rb ρ) K X = wp (ra ρ) (fun x ρ => wp (rdOr b rb ρ) (fun y ρ => K (x.1, y) ρ) X) X := by
  have e : two a b ra rb ρ = (ra ρ).bind fun x ρ => (rdOr b rb ρ).bind fun y ρ => .ok (x.1, y) ρ := by cases a <;> first | rfl | exact absurd rfl (h _)
  rw [e, wp_bind]
  congr 1
  funext x ρ
  rw [wp_bind] <;> rfl
/-! values -/
theorem we_none (k : K (.none, false) ρ) : We C G .none ρ K X := k
theorem we_bool {v : Bool} (k : K (.bool v, false) ρ) : We C G (.bool v) ρ K X := k
theorem we_int {v : Int} (k : K (.int v, false) ρ) : We C G (.int v) ρ K X := k
theorem we_str {v : Str} (k : K (.str v, false) ρ) : We C G (.str v) ρ K X := k
theorem we_glob {i : Nat} (k : K (G i, false) ρ) : We C G (.glob i) ρ K X := k
theorem we_val {i : Nat} {d : D} (h : ρ[i]? = some (.val d)) (k : K (d, false) ρ) : We C G (.var i) ρ K X := by
  show wp (match ρ[i]? with
    | some (.val d) => .ok (d, false) ρ
    | some (.own false d) => .ok (d, false) (ρ.set i (.val d))
    | _ => .bad) K X
  rw [h]; exact k
theorem we_own {i : Nat} {d : D} (h : ρ[i]? = some (.own false d)) (k : K (d, false) (ρ.set i (.val d))) : We C G (.var i) ρ K X := by
  show wp (match ρ[i]? with
    | some (.val d) => .ok (d, false) ρ
    | some (.own false d) => .ok (d, false) (ρ.set i (.val d))
    | _ => .bad) K X
  rw [h]; exact k
theorem we_bin {o : Op2} (k : W2 C G a b ρ (fun p ρ => Bo o p.1 p.2 fun d => K (d, d.isLst) ρ) X) : We C G (.bin o a b) ρ K X := by
  show wp ((two a b (ev C G a) (ev C G b) ρ).bind fun p ρ => (ofO (bop o p.1 p.2) ρ).bind fun d ρ => .ok (d, match d with | .lst _ => true | _ => false) ρ) K X
  rw [wp_bind]
  refine wp_mono k (fun p ρ ⟨d, h, q⟩ => ?_) fun _ _ h => h
  rw [wp_bind]
  refine wp_of h ?_
  cases d <;> exact q
theorem we_neg (k : Wd C G a ρ (fun d ρ => Ng d fun i => K (.int (-i), false) ρ) X) : We C G (.neg a) ρ K X := by
  show wp ((rdOr a (ev C G a) ρ).bind fun d ρ => match d with
    | .int i => .ok (.int (-i), false) ρ
    | _ => .bad) K X
  rw [wp_bind]
  refine wp_mono k (fun d ρ ⟨i, h, q⟩ => ?_) fun _ _ h => h
  subst h; exact q
theorem we_not (k : Wd C G a ρ (fun d ρ => Tr d fun t => K (.bool (!t), false) ρ) X) : We C G (.not a) ρ K X := by
  show wp ((rdOr a (ev C G a) ρ).bind fun d ρ => (ofO (truth d) ρ).bind fun b ρ => .ok (.bool (!b), false) ρ) K X
  rw [wp_bind]
  refine wp_mono k (fun d ρ ⟨t, h, q⟩ => ?_) fun _ _ h => h
  rw [wp_bind]; exact wp_of h q
theorem we_and (k : We C G a ρ (fun d ρ => Tr d.1 fun t => if t then We C G b ρ (fun d ρ => K (d.1, false) ρ) X else K (d.1, false) ρ) X) : We C G (.and a b) ρ K X := by
  show wp ((ev C G a ρ).bind fun d ρ => (ofO (truth d.1) ρ).bind fun t ρ => if t then (ev C G b ρ).bind fun d ρ => .ok (d.1, false) ρ else .ok (d.1, false) ρ) K X
  rw [wp_bind]
  refine wp_mono k (fun d ρ ⟨t, h, q⟩ => ?_) fun _ _ h => h
  rw [wp_bind]
  refine wp_of h ?_
  cases t with
  | true => rw [if_pos rfl] at q ⊢; rw [wp_bind]; exact q
  | false => rw [if_neg Bool.false_ne_true] at q ⊢; exact q
theorem we_or (k : We C G a ρ (fun d ρ => Tr d.1 fun t => if t then K (d.1, false) ρ else We C G b ρ (fun d ρ => K (d.1, false) ρ) X) X) : We C G (.or a b) ρ K X := by
  show wp ((ev C G a ρ).bind fun d ρ => (ofO (truth d.1) ρ).bind fun t ρ => if t then .ok (d.1, false) ρ else (ev C G b ρ).bind fun d ρ => .ok (d.1, false) ρ) K X
  rw [wp_bind]
  refine wp_mono k (fun d ρ ⟨t, h, q⟩ => ?_) fun _ _ h => h
  rw [wp_bind]
  refine wp_of h ?_
  cases t with
  | true => rw [if_pos rfl] at q ⊢; exact q
  | false => rw [if_neg Bool.false_ne_true] at q ⊢; rw [wp_bind]; exact q
theorem we_isN (k : Wd C G a ρ (fun d ρ => K (.bool d.isNone, false) ρ) X) : We C G (.cmp .isN a b) ρ K X := by
  show wp ((rdOr a (ev C G a) ρ).bind fun d ρ => .ok (.bool d.isNone, false) ρ) K X
  rw [wp_bind]; exact k
theorem we_notN (k : Wd C G a ρ (fun d ρ => K (.bool (!d.isNone), false) ρ) X) : We C G (.cmp .notN a b) ρ K X := by
  show wp ((rdOr a (ev C G a) ρ).bind fun d ρ => .ok (.bool (!d.isNone), false) ρ) K X
  rw [wp_bind]; exact k
theorem ev_cmp {o : Cp} (h : o ≠ .isN) (h' : o ≠ .notN) : ev C G (.cmp o a b) ρ = (two a b (ev C G a) (ev C G b) ρ).bind fun p ρ => (ofO (cpd o p.1 p.2) ρ).bind fun t ρ => .ok (.bool t, false) ρ := by
  cases o <;> first | rfl | exact absurd rfl h | exact absurd rfl h'
theorem we_cmp {o : Cp} (k : W2 C G a b ρ (fun p ρ => Co o p.1 p.2 fun t => K (.bool t, false) ρ) X) (ho : plainC o = true) : We C G (.cmp o a b) ρ K X := by
  have h : o ≠ .isN := fun e => by subst e; cases ho
  have h' : o ≠ .notN := fun e => by subst e; cases ho
  unfold We
  rw [ev_cmp h h', wp_bind]
  refine wp_mono k (fun p ρ ⟨d, h, q⟩ => ?_) fun _ _ h => h
  rw [wp_bind]; exact wp_of h q
theorem we_cmp2 {o o' : Cp} (k : W2 C G a b ρ (fun p ρ => Co o p.1 p.2 fun t => if t then Oi p.2 (Wd C G c ρ (fun z ρ => Co o' p.2 z fun t => K (.bool t, false) ρ) X) else K (.bool false, false) ρ) X) : We C G (.cmp2 o o' a b c) ρ K X := by
  show wp ((two a b (ev C G a) (ev C G b) ρ).bind fun p ρ => (ofO (cpd o p.1 p.2) ρ).bind fun t ρ => if t then if p.2.isInt then (rdOr c (ev C G c) ρ).bind fun z ρ => (ofO (cpd o' p.2 z) ρ).bind fun t ρ => .ok (.bool t, false) ρ else .bad else .ok (.bool false, false) ρ) K X
  rw [wp_bind]
  refine wp_mono k (fun p ρ ⟨d, h, q⟩ => ?_) fun _ _ h => h
  rw [wp_bind]
  refine wp_of h ?_
  cases d with
  | false => rw [if_neg Bool.false_ne_true] at q ⊢; exact q
  | true =>
    rw [if_pos rfl] at q ⊢
    rw [if_pos q.1, wp_bind]
    refine wp_mono q.2 (fun z ρ ⟨d, h, q⟩ => ?_) fun _ _ h => h
    rw [wp_bind]; exact wp_of h q
theorem we_ite (k : Wt C G c ρ (fun t ρ => if t then We C G a ρ (fun d ρ => K (d.1, false) ρ) X else We C G b ρ (fun d ρ => K (d.1, false) ρ) X) X) : We C G (.ite c a b) ρ K X := by
  show wp ((evT C G c ρ).bind fun t ρ => if t then (ev C G a ρ).bind fun d ρ => .ok (d.1, false) ρ else (ev C G b ρ).bind fun d ρ => .ok (d.1, false) ρ) K X
  rw [wp_bind]
  refine wp_mono k (fun t ρ q => ?_) fun _ _ h => h
  cases t with
  | true => rw [if_pos rfl] at q ⊢; rw [wp_bind]; exact q
  | false => rw [if_neg Bool.false_ne_true] at q ⊢; rw [wp_bind]; exact q
theorem we_tup (k : Wl C G l ρ (fun ds ρ => K (.tup ds, false) ρ) X) : We C G (.tup l) ρ K X := by
  show wp ((evs C G l ρ).bind fun ds ρ => .ok (.tup ds, false) ρ) K X
  rw [wp_bind]; exact k
theorem we_lst (k : Wl C G l ρ (fun ds ρ => K (.lst ds, true) ρ) X) : We C G (.lst l) ρ K X := by
  show wp ((evs C G l ρ).bind fun ds ρ => .ok (.lst ds, true) ρ) K X
  rw [wp_bind]; exact k
theorem we_idx (k : W2 C G a b ρ (fun p ρ => Ix p.1 p.2 fun d => K (d, false) ρ) X) : We C G (.idx a b) ρ K X := by
  show wp ((two a b (ev C G a) (ev C G b) ρ).bind fun p ρ => (ofO (getIx p.1 p.2) ρ).bind fun d ρ => .ok (d, false) ρ) K X
  rw [wp_bind]
  refine wp_mono k (fun p ρ ⟨d, h, q⟩ => ?_) fun _ _ h => h
  rw [wp_bind]; exact wp_of h q
theorem we_slice (k : Wd C G a ρ (fun d ρ => Wo C G b ρ (fun x ρ => Wo C G c ρ (fun y ρ => wp (again a d ρ) (fun d ρ => Sl d x y fun r => K r ρ) X) X) X) X) : We C G (.slice a b c) ρ K X := by
  show wp ((rdOr a (ev C G a) ρ).bind fun d ρ => (evO C G b ρ).bind fun x ρ => (evO C G c ρ).bind fun y ρ => (again a d ρ).bind fun d ρ => ofO (slc d x y) ρ) K X
  rw [wp_bind]
  refine wp_mono k (fun d ρ q => ?_) fun _ _ h => h
  rw [wp_bind]
  refine wp_mono q (fun x ρ q => ?_) fun _ _ h => h
  rw [wp_bind]
  refine wp_mono q (fun y ρ q => ?_) fun _ _ h => h
  rw [wp_bind]
  refine wp_mono q (fun d ρ ⟨r, h, q⟩ => ?_) fun _ _ h => h
  exact wp_of h q
theorem ag_nv {d : D} {K : D → Ev → Prop} (k : K d ρ) (hv : nvB a = true) : wp (again a d ρ) K X := by
  have h := nv_of hv
  have e : again a d ρ = .ok d ρ := by cases a <;> first | rfl | exact absurd rfl (h _)
  rw [e]; exact k
theorem ag_val {i : Nat} {d d0 : D} {K : D → Ev → Prop} (h : ρ[i]? = some (.val d)) (k : K d ρ) : wp (again (.var i) d0 ρ) K X := by
  show wp (rd i ρ) K X
  unfold rd; rw [h]; exact k
theorem ag_own {i : Nat} {p : Bool} {d d0 : D} {K : D → Ev → Prop} (h : ρ[i]? = some (.own p d)) (k : K d ρ) : wp (again (.var i) d0 ρ) K X := by
  show wp (rd i ρ) K X
  unfold rd; rw [h]; exact k
theorem we_call {f : Nat} (k : Wa C G l ρ (fun args ρ => wp (doCall C f args ρ) K X) X) : We C G (.call f l) ρ K X := by
  show wp ((evA C G l ρ).bind fun args ρ => doCall C f args ρ) K X
  rw [wp_bind]; exact k
theorem we_bi {o : BI} (k : Wr C G l ρ (fun ds ρ => Bf o ds fun r => K r ρ) X) : We C G (.bi o l) ρ K X := by
  show wp ((evRs C G l ρ).bind fun ds ρ => ofO (biF o ds) ρ) K X
  rw [wp_bind]
  exact wp_mono k (fun p ρ ⟨d, h, q⟩ => wp_of h q) fun _ _ h => h
theorem we_bm {o : BM} (hk : bmKeep o = false) (k : Wd C G a ρ (fun d ρ => bmTy o d = true ∧ Wr C G l ρ (fun ds ρ => wp (again a d ρ) (fun d ρ => Bm o d ds fun r => K r ρ) X) X) X) : We C G (.bm o a l) ρ K X := by
  show wp ((rdOr a (ev C G a) ρ).bind fun d ρ => if bmTy o d then (if bmKeep o then evs C G l ρ else evRs C G l ρ).bind fun ds ρ => (again a d ρ).bind fun d ρ => ofO (bmf o d ds) ρ else .bad) K X
  rw [wp_bind]
  refine wp_mono k (fun d ρ ⟨h, q⟩ => ?_) fun _ _ h => h
  rw [if_pos h, wp_bind, hk]
  refine wp_mono q (fun ds ρ q => ?_) fun _ _ h => h
  rw [wp_bind]
  exact wp_mono q (fun d ρ ⟨r, h, q⟩ => wp_of h q) fun _ _ h => h
theorem we_bmK {o : BM} (hk : bmKeep o = true) (k : Wd C G a ρ (fun d ρ => bmTy o d = true ∧ Wl C G l ρ (fun ds ρ => wp (again a d ρ) (fun d ρ => Bm o d ds fun r => K r ρ) X) X) X) : We C G (.bm o a l) ρ K X := by
  show wp ((rdOr a (ev C G a) ρ).bind fun d ρ => if bmTy o d then (if bmKeep o then evs C G l ρ else evRs C G l ρ).bind fun ds ρ => (again a d ρ).bind fun d ρ => ofO (bmf o d ds) ρ else .bad) K X
  rw [wp_bind]
  refine wp_mono k (fun d ρ ⟨h, q⟩ => ?_) fun _ _ h => h
  rw [if_pos h, wp_bind, hk]
  refine wp_mono q (fun ds ρ q => ?_) fun _ _ h => h
  rw [wp_bind]
  exact wp_mono q (fun d ρ ⟨r, h, q⟩ => wp_of h q) fun _ _ h => h
theorem we_mut {m : MU} {i : Nat} {p : Bool} {dl : List D} (h : ρ[i]? = some (.own p (.lst dl))) (k : Wl C G l ρ (fun ds ρ => Mi m i ds ρ fun d ρ => K (d, false) ρ) X) : We C G (.mut m i l) ρ K X := by
  show wp ((rd i ρ).bind fun d ρ => if d.isLst then (evs C G l ρ).bind fun ds ρ => match ρ[i]? with
    | some (.own p d) => (ofO (muf m d ds) ρ).bind fun r ρ => .ok (r.1, false) (ρ.set i (.own p r.2))
    | _ => .bad
    else .bad) K X
  rw [wp_bind]
  unfold rd
  rw [h]
  show wp (if true then _ else _) K X
  rw [if_pos rfl, wp_bind]
  refine wp_mono k (fun ds ρ ⟨p, d, h, r, h2, q⟩ => ?_) fun _ _ h => h
  rw [h]
  show wp ((ofO (muf m d ds) ρ).bind fun r ρ => .ok (r.1, false) (ρ.set i (.own p r.2))) K X
  rw [wp_bind]; exact wp_of h2 q
theorem we_comp {e : E} {t : Tg} {it : E} {vs : List Nat} (k : Wi C G it ρ (fun q ρ₀ => q.1.length ≤ lim ∧ wp (compL (fun d ρ => (bindT t d (wipe ρ vs)).bind fun _ ρ => evC C G c ρ) (fun _ ρ => (ev C G e ρ).bind fun y ρ => .ok y.1 ρ) q.1 (wipe ρ₀ q.2)) (fun r ρ => K (.lst r, true) (back ρ₀ ρ (vs ++ q.2))) (fun _ _ => False)) X) : We C G (.comp e t it c vs) ρ K X := by
  show wp ((evI C G it ρ).bind fun q ρ₀ => if q.1.length ≤ lim then (nox (compL (fun d ρ => (bindT t d (wipe ρ vs)).bind fun _ ρ => evC C G c ρ) (fun _ ρ => (ev C G e ρ).bind fun y ρ => .ok y.1 ρ) q.1 (wipe ρ₀ q.2))).bind fun r ρ => .ok (.lst r, true) (back ρ₀ ρ (vs ++ q.2)) else .bad) K X
  rw [wp_bind]
  refine wp_mono k (fun q ρ ⟨h, k⟩ => ?_) fun _ _ h => h
  rw [if_pos h, wp_bind, wp_nox]
  exact k
/-! looked at alone; two -/
theorem wd_val {i : Nat} {d : D} {K : D → Ev → Prop} (h : ρ[i]? = some (.val d)) (k : K d ρ) : Wd C G (.var i) ρ K X := by
  show wp (rd i ρ) K X
  unfold rd; rw [h]; exact k
theorem wd_own {i : Nat} {p : Bool} {d : D} {K : D → Ev → Prop} (h : ρ[i]? = some (.own p d)) (k : K d ρ) : Wd C G (.var i) ρ K X := by
  show wp (rd i ρ) K X
  unfold rd; rw [h]; exact k
theorem wd_nv {K : D → Ev → Prop} (k : We C G a ρ (fun d ρ => K d.1 ρ) X) (hv : nvB a = true) : Wd C G a ρ K X := by
  unfold Wd; rw [nv_rd (nv_of hv)]; exact k
theorem w2_var {i : Nat} {d : D} {K : D × D → Ev → Prop} (h : ∃ c, ρ[i]? = some c ∧ (c = .val d ∨ ∃ p, c = .own p d)) (k : Wd C G b ρ (fun y ρ => wp (rd i ρ) (fun x ρ => K (x, y) ρ) X) X) : W2 C G (.var i) b ρ K X := by
  show wp ((rd i ρ).bind fun _ ρ => (rdOr b (ev C G b) ρ).bind fun y ρ => (rd i ρ).bind fun x ρ => .ok (x, y) ρ) K X
  rw [wp_bind]
  have e : rd i ρ = .ok d ρ := by
    obtain ⟨c, h1, h2⟩ := h
    unfold rd
    rcases h2 with rfl | ⟨p, rfl⟩ <;> rw [h1]
  rw [e, wp_ok, wp_bind]
  refine wp_mono k (fun y ρ q => ?_) fun _ _ h => h
  rw [wp_bind]; exact q
theorem w2_val {i : Nat} {d : D} {K : D × D → Ev → Prop} (h : ρ[i]? = some (.val d)) (k : Wd C G b ρ (fun y ρ => wp (rd i ρ) (fun x ρ => K (x, y) ρ) X) X) : W2 C G (.var i) b ρ K X := w2_var ⟨_, h, .inl rfl⟩ k
theorem w2_own {i : Nat} {p : Bool} {d : D} {K : D × D → Ev → Prop} (h : ρ[i]? = some (.own p d)) (k : Wd C G b ρ (fun y ρ => wp (rd i ρ) (fun x ρ => K (x, y) ρ) X) X) : W2 C G (.var i) b ρ K X := w2_var ⟨_, h, .inr ⟨p, rfl⟩⟩ k
theorem rd_val {i : Nat} {d : D} {K : D → Ev → Prop} (h : ρ[i]? = some (.val d)) (k : K d ρ) : wp (rd i ρ) K X := by unfold rd; rw [h]; exact k
theorem rd_own {i : Nat} {p : Bool} {d : D} {K : D → Ev → Prop} (h : ρ[i]? = some (.own p d)) (k : K d ρ) : wp (rd i ρ) K X := by unfold rd; rw [h]; exact k
theorem w2_nv {K : D × D → Ev → Prop} (k : We C G a ρ (fun x ρ => Wd C G b ρ (fun y ρ => K (x.1, y) ρ) X) X) (hv : nvB a = true) : W2 C G a b ρ K X := by
  unfold W2; rw [nv_two (nv_of hv)]; exact k
/-! tests -/
theorem wt_and {K : Bool → Ev → Prop} (k : Wt C G a ρ (fun t ρ => if t then Wt C G b ρ K X else K false ρ) X) : Wt C G (.and a b) ρ K X := by
  show wp ((evT C G a ρ).bind fun t ρ => if t then evT C G b ρ else .ok false ρ) K X
  rw [wp_bind]
  refine wp_mono k (fun t ρ q => ?_) fun _ _ h => h
  cases t <;> exact q
theorem wt_or {K : Bool → Ev → Prop} (k : Wt C G a ρ (fun t ρ => if t then K true ρ else Wt C G b ρ K X) X) : Wt C G (.or a b) ρ K X := by
  show wp ((evT C G a ρ).bind fun t ρ => if t then .ok true ρ else evT C G b ρ) K X
  rw [wp_bind]
  refine wp_mono k (fun t ρ q => ?_) fun _ _ h => h
  cases t <;> exact q
theorem wt_not {K : Bool → Ev → Prop} (k : Wt C G a ρ (fun t ρ => K (!t) ρ) X) : Wt C G (.not a) ρ K X := by
  show wp ((evT C G a ρ).bind fun t ρ => .ok (!t) ρ) K X
  rw [wp_bind]; exact k
theorem wt_isN {K : Bool → Ev → Prop} (k : Wd C G a ρ (fun d ρ => K d.isNone ρ) X) : Wt C G (.cmp .isN a b) ρ K X := by
  show wp ((rdOr a (ev C G a) ρ).bind fun d ρ => .ok d.isNone ρ) K X
  rw [wp_bind]; exact k
theorem wt_notN {K : Bool → Ev → Prop} (k : Wd C G a ρ (fun d ρ => K (!d.isNone) ρ) X) : Wt C G (.cmp .notN a b) ρ K X := by
  show wp ((rdOr a (ev C G a) ρ).bind fun d ρ => .ok (!d.isNone) ρ) K X
  rw [wp_bind]; exact k
theorem wt_cmp {o : Cp} {K : Bool → Ev → Prop} (k : W2 C G a b ρ (fun p ρ => Co o p.1 p.2 fun t => K t ρ) X) (ho : plainC o = true) : Wt C G (.cmp o a b) ρ K X := by
  have h : o ≠ .isN := fun e => by subst e; cases ho
  have h' : o ≠ .notN := fun e => by subst e; cases ho
  have e : evT C G (.cmp o a b) ρ = (two a b (ev C G a) (ev C G b) ρ).bind fun p ρ => ofO (cpd o p.1 p.2) ρ := by cases o <;> first | rfl | exact absurd rfl h | exact absurd rfl h'
  unfold Wt
  rw [e, wp_bind]
  exact wp_mono k (fun p ρ ⟨d, h, q⟩ => wp_of h q) fun _ _ h => h
theorem wt_cmp2 {o o' : Cp} {K : Bool → Ev → Prop} (k : W2 C G a b ρ (fun p ρ => Co o p.1 p.2 fun t => if t then Oi p.2 (Wd C G c ρ (fun z ρ => Co o' p.2 z fun t => K t ρ) X) else K false ρ) X) : Wt C G (.cmp2 o o' a b c) ρ K X := by
  show wp ((two a b (ev C G a) (ev C G b) ρ).bind fun p ρ => (ofO (cpd o p.1 p.2) ρ).bind fun t ρ => if t then if p.2.isInt then (rdOr c (ev C G c) ρ).bind fun z ρ => ofO (cpd o' p.2 z) ρ else .bad else .ok false ρ) K X
  rw [wp_bind]
  refine wp_mono k (fun p ρ ⟨d, h, q⟩ => ?_) fun _ _ h => h
  rw [wp_bind]
  refine wp_of h ?_
  cases d with
  | false => rw [if_neg Bool.false_ne_true] at q ⊢; exact q
  | true =>
    rw [if_pos rfl] at q ⊢
    rw [if_pos q.1, wp_bind]
    exact wp_mono q.2 (fun z ρ ⟨d, h, q⟩ => wp_of h q) fun _ _ h => h
theorem wt_tval {K : Bool → Ev → Prop} (k : Wd C G a ρ (fun d ρ => Tr d fun t => K t ρ) X) : Wt C G (.tval a) ρ K X := by
  show wp ((rdOr a (ev C G a) ρ).bind fun d ρ => ofO (truth d) ρ) K X
  rw [wp_bind]
  exact wp_mono k (fun p ρ ⟨d, h, q⟩ => wp_of h q) fun _ _ h => h
/-! lists of pieces -/
theorem wl_nil {K : List D → Ev → Prop} (k : K [] ρ) : Wl C G .nil ρ K X := k
theorem wl_cons {K : List D → Ev → Prop} (k : We C G a ρ (fun d ρ => Wl C G b ρ (fun r ρ => K (d.1 :: r) ρ) X) X) : Wl C G (.cons a b) ρ K X := by
  show wp ((ev C G a ρ).bind fun d ρ => (evs C G b ρ).bind fun r ρ => .ok (d.1 :: r) ρ) K X
  rw [wp_bind]
  refine wp_mono k (fun d ρ q => ?_) fun _ _ h => h
  rw [wp_bind]; exact q
theorem wr_nil {K : List D → Ev → Prop} (k : K [] ρ) : Wr C G .nil ρ K X := k
theorem ev_rs : evRs C G (.cons a b) ρ = (two a (.tup b) (ev C G a) (fun ρ => (evRs C G b ρ).bind fun r ρ => .ok (.tup r, false) ρ) ρ).bind fun p ρ => match p.2 with
    | .tup r => .ok (p.1 :: r) ρ
    | _ => .bad := rfl
theorem wr_nv {K : List D → Ev → Prop} (k : We C G a ρ (fun x ρ => Wr C G b ρ (fun r ρ => K (x.1 :: r) ρ) X) X) (hv : nvB a = true) : Wr C G (.cons a b) ρ K X := by
  unfold Wr
  rw [ev_rs, wp_bind, nv_two (nv_of hv)]
  refine wp_mono k (fun x ρ q => ?_) fun _ _ h => h
  rw [nv_rd (by exact nofun), wp_bind]
  exact q
theorem wr_rd {i : Nat} {d : D} {K : List D → Ev → Prop} (h : rd i ρ = .ok d ρ) (k : Wr C G b ρ (fun r ρ => wp (rd i ρ) (fun x ρ => K (x :: r) ρ) X) X) : Wr C G (.cons (.var i) b) ρ K X := by
  unfold Wr
  rw [ev_rs]
  show wp (((rd i ρ).bind fun _ ρ => (rdOr (.tup b) (fun ρ => (evRs C G b ρ).bind fun r ρ => .ok (.tup r, false) ρ) ρ).bind fun y ρ => (rd i ρ).bind fun x ρ => .ok (x, y) ρ).bind fun p ρ => match p.2 with
    | .tup r => .ok (p.1 :: r) ρ
    | _ => .bad) K X
  rw [wp_bind, wp_bind, h, wp_ok, wp_bind, nv_rd (by exact nofun), wp_bind]
  refine wp_mono k (fun r ρ q => ?_) fun _ _ h => h
  rw [wp_ok, wp_bind]
  exact q
theorem wr_val {i : Nat} {d : D} {K : List D → Ev → Prop} (h : ρ[i]? = some (.val d)) (k : Wr C G b ρ (fun r ρ => wp (rd i ρ) (fun x ρ => K (x :: r) ρ) X) X) : Wr C G (.cons (.var i) b) ρ K X := wr_rd (d := d) (by unfold rd; rw [h]) k
theorem wr_own {i : Nat} {p : Bool} {d : D} {K : List D → Ev → Prop} (h : ρ[i]? = some (.own p d)) (k : Wr C G b ρ (fun r ρ => wp (rd i ρ) (fun x ρ => K (x :: r) ρ) X) X) : Wr C G (.cons (.var i) b) ρ K X := wr_rd (d := d) (by unfold rd; rw [h]) k
theorem wa_nil {K : List Arg → Ev → Prop} (k : K [] ρ) : Wa C G .nil ρ K X := k
theorem wa_val {i : Nat} {d : D} {K : List Arg → Ev → Prop} (h : ρ[i]? = some (.val d)) (k : Wa C G b ρ (fun r ρ => K (.val d :: r) ρ) X) : Wa C G (.cons (.var i) b) ρ K X := by
  show wp ((match ρ[i]? with
    | some (.val d) => .ok (.val d) ρ
    | some (.own _ _) => .ok (.slot i) ρ
    | _ => .bad : Res Arg).bind fun d ρ => (evA C G b ρ).bind fun r ρ => .ok (d :: r) ρ) K X
  rw [h, wp_bind, wp_ok, wp_bind]; exact k
theorem wa_own {i : Nat} {p : Bool} {d : D} {K : List Arg → Ev → Prop} (h : ρ[i]? = some (.own p d)) (k : Wa C G b ρ (fun r ρ => K (.slot i :: r) ρ) X) : Wa C G (.cons (.var i) b) ρ K X := by
  show wp ((match ρ[i]? with
    | some (.val d) => .ok (.val d) ρ
    | some (.own _ _) => .ok (.slot i) ρ
    | _ => .bad : Res Arg).bind fun d ρ => (evA C G b ρ).bind fun r ρ => .ok (d :: r) ρ) K X
  rw [h, wp_bind, wp_ok, wp_bind]; exact k
theorem wa_nv {K : List Arg → Ev → Prop} (k : We C G a ρ (fun d ρ => Wa C G b ρ (fun r ρ => K (.val d.1 :: r) ρ) X) X) (hv : nvB a = true) : Wa C G (.cons a b) ρ K X := by
  show wp ((argOf a (ev C G a) ρ).bind fun d ρ => (evA C G b ρ).bind fun r ρ => .ok (d :: r) ρ) K X
  have h := nv_of hv
  have e : argOf a (ev C G a) ρ = (ev C G a ρ).bind fun d ρ => .ok (.val d.1) ρ := by cases a <;> first | rfl | exact absurd rfl (h _)
  rw [e, wp_bind, wp_bind]
  refine wp_mono k (fun d ρ q => ?_) fun _ _ h => h
  rw [wp_ok, wp_bind]; exact q
theorem wo_nil {K : D → Ev → Prop} (k : K .none ρ) : Wo C G .nil ρ K X := k
theorem wo_val {K : D → Ev → Prop} (k : Wd C G a ρ (fun d ρ => Oi d (K d ρ)) X) : Wo C G (.tval a) ρ K X := by
  show wp ((rdOr a (ev C G a) ρ).bind fun d ρ => if d.isInt then .ok d ρ else .bad) K X
  rw [wp_bind]
  refine wp_mono k (fun d ρ ⟨h, q⟩ => ?_) fun _ _ h => h
  rw [if_pos h]; exact q
/-! what is walked -/
theorem wq_ (K : List D × List Nat → Ev → Prop) (k : Wd C G a ρ (fun d ρ => Sq d fun l => K (l, hid a ρ) ρ) X) : Wq C G a ρ K X := by
  show wp ((rdOr a (ev C G a) ρ).bind fun d ρ => (ofO (seqOf d) ρ).bind fun l ρ => .ok (l, hid a ρ) ρ) K X
  rw [wp_bind]
  refine wp_mono k (fun d ρ ⟨l, h, q⟩ => ?_) fun _ _ h => h
  rw [wp_bind]; exact wp_of h q
theorem wi_seq {K : List D × List Nat → Ev → Prop} (k : Wd C G a ρ (fun d ρ => Sq d fun l => K (l, hid a ρ) ρ) X) : Wi C G (.isq a) ρ K X := wq_ K k
theorem wi_rng1 {K : List D × List Nat → Ev → Prop} (k : Wd C G a ρ (fun d ρ => R1 d fun l => K (l, []) ρ) X) : Wi C G (.rng1 a) ρ K X := by
  show wp ((rdOr a (ev C G a) ρ).bind fun d ρ => match d with
    | .int i => if rOk 0 i then .ok (irange 0 i, []) ρ else .bad
    | _ => .bad) K X
  rw [wp_bind]
  refine wp_mono k (fun d ρ ⟨i, h, h2, q⟩ => ?_) fun _ _ h => h
  subst h
  show wp (if rOk 0 i then _ else _) K X
  rw [if_pos h2]; exact q
theorem wi_rng2 {K : List D × List Nat → Ev → Prop} (k : W2 C G a b ρ (fun p ρ => R2 p.1 p.2 fun l => K (l, []) ρ) X) : Wi C G (.rng2 a b) ρ K X := by
  show wp ((two a b (ev C G a) (ev C G b) ρ).bind fun p ρ => match p.1, p.2 with
    | .int i, .int j => if rOk i j then .ok (irange i j, []) ρ else .bad
    | _, _ => .bad) K X
  rw [wp_bind]
  refine wp_mono k (fun p ρ ⟨i, j, h, h1, h2, q⟩ => ?_) fun _ _ h => h
  rw [h, h1]
  show wp (if rOk i j then _ else _) K X
  rw [if_pos h2]; exact q
theorem wi_enum {K : List D × List Nat → Ev → Prop} (k : Wd C G a ρ (fun d ρ => Sq d fun l => K (enumF 0 l, hid a ρ) ρ) X) : Wi C G (.enum a) ρ K X := by
  show wp ((seqR a (ev C G a) ρ).bind fun q ρ => .ok (enumF 0 q.1, q.2) ρ) K X
  rw [wp_bind]
  exact wq_ (fun q ρ => K (enumF 0 q.1, q.2) ρ) k
theorem wi_rev {K : List D × List Nat → Ev → Prop} (k : Wd C G a ρ (fun d ρ => Sq d fun l => K (l.reverse, hid a ρ) ρ) X) : Wi C G (.rev a) ρ K X := by
  show wp ((seqR a (ev C G a) ρ).bind fun q ρ => .ok (q.1.reverse, q.2) ρ) K X
  rw [wp_bind]
  exact wq_ (fun q ρ => K (q.1.reverse, q.2) ρ) k
theorem wi_zipN {K : List D × List Nat → Ev → Prop} (k : W2 C G a b ρ (fun p ρ => Zn p.1 p.2 fun l => K (l, []) ρ) X) : Wi C G (.zipN a b) ρ K X := by
  show wp ((two a b (ev C G a) (ev C G b) ρ).bind fun p ρ => match p.1, p.2 with
    | .tup l, .tup m => .ok (zipD l m, []) ρ
    | _, _ => .bad) K X
  rw [wp_bind]
  refine wp_mono k (fun p ρ ⟨l, m, h, h1, q⟩ => ?_) fun _ _ h => h
  rw [h, h1]; exact q
theorem wi_zip {K : List D × List Nat → Ev → Prop} (k : W2 C G a b ρ (fun p ρ => Zp p.1 p.2 fun l => K (l, hid a ρ ++ hid b ρ) ρ) X) : Wi C G (.zip a b) ρ K X := by
  show wp ((two a b (ev C G a) (ev C G b) ρ).bind fun p ρ => (ofO (seqOf p.1) ρ).bind fun l ρ => (ofO (seqOf p.2) ρ).bind fun m ρ => if p.1.isTup == p.2.isTup then .ok (zipD l m, hid a ρ ++ hid b ρ) ρ else .bad) K X
  rw [wp_bind]
  refine wp_mono k (fun p ρ ⟨l, m, h, h1, h2, q⟩ => ?_) fun _ _ h => h
  rw [wp_bind]
  refine wp_of h ?_
  rw [wp_bind]
  refine wp_of h1 ?_
  rw [if_pos h2]; exact q
end
end PX

end

section
set_option Elab.async false
set_option linter.all false
set_option maxRecDepth 100000
namespace PX
open PySem
section
variable {C : Call} {G : Nat → D} {ρ : Ev} {X : EQ} {K : Fl → Ev → Prop} {s s' : S} {a b l : E}
/-- the rest of a block -/
def Then (C : Call) (G : Nat → D) (s : S) (K : Fl → Ev → Prop) (X : EQ) (fl : Fl) (ρ : Ev) : Prop := match fl with
  | .nx => Ws C G s ρ K X
  | .bk => K .bk ρ
  | .ct => K .ct ρ
  | .ret d fr => K (.ret d fr) ρ
theorem th_nx (k : Ws C G s ρ K X) : Then C G s K X .nx ρ := k
theorem th_bk (k : K .bk ρ) : Then C G s K X .bk ρ := k
theorem th_ct (k : K .ct ρ) : Then C G s K X .ct ρ := k
theorem th_ret {d : D} {fr : Bool} (k : K (.ret d fr) ρ) : Then C G s K X (.ret d fr) ρ := k
theorem ws_skip (k : K .nx ρ) : Ws C G .skip ρ K X := k
theorem ws_brk (k : K .bk ρ) : Ws C G .brk ρ K X := k
theorem ws_cont (k : K .ct ρ) : Ws C G .cont ρ K X := k
theorem ws_seq (k : Ws C G s ρ (Then C G s' K X) X) : Ws C G (.seq s s') ρ K X := by
  show wp ((evS C G s ρ).bind fun r ρ => match r with
    | .nx => evS C G s' ρ
    | .bk => .ok .bk ρ
    | .ct => .ok .ct ρ
    | .ret d fr => .ok (.ret d fr) ρ) K X
  rw [wp_bind]
  refine wp_mono k (fun fl ρ q => ?_) fun _ _ h => h
  cases fl <;> exact q
theorem ws_expr (k : We C G a ρ (fun _ ρ => K .nx ρ) X) : Ws C G (.expr a) ρ K X := by
  show wp ((ev C G a ρ).bind fun _ ρ => .ok .nx ρ) K X
  rw [wp_bind]; exact k
/-- a store -/
def As (o : Bool) (t : Tg) (p : D × Bool) (ρ : Ev) (K : Fl → Ev → Prop) (X : EQ) : Prop := wp (match t, o && p.2 with
    | .name i, true => (put i (.own false p.1) ρ).bind fun _ ρ => .ok .nx ρ
    | t, _ => (bindT t p.1 ρ).bind fun _ ρ => .ok .nx ρ) K X
theorem ws_asg {o : Bool} {t : Tg} (k : We C G a ρ (fun p ρ => As o t p ρ K X) X) : Ws C G (.asg o t a) ρ K X := by
  show wp ((ev C G a ρ).bind fun p ρ => match t, o && p.2 with
    | .name i, true => (put i (.own false p.1) ρ).bind fun _ ρ => .ok .nx ρ
    | t, _ => (bindT t p.1 ρ).bind fun _ ρ => .ok .nx ρ) K X
  rw [wp_bind]; exact k
/-- the slot may be stored -/
def Free (c : Option Cell) : Bool := match c with
  | some (.own true _) => false
  | some _ => true
  | none => false
theorem put_free {i : Nat} {c : Cell} (h : Free ρ[i]? = true) : put i c ρ = .ok () (ρ.set i c) := by
  unfold Free at h
  unfold put
  cases q : ρ[i]? with
  | none => rw [q] at h; cases h
  | some z =>
    rw [q] at h
    cases z with
    | own p d => cases p with
      | true => cases h
      | false => rfl
    | _ => rfl
theorem as_val {i : Nat} {p : D × Bool} {o : Bool} (ho : (o && p.2) = false) (h : Free ρ[i]? = true) (k : K .nx (ρ.set i (.val p.1))) : As o (.name i) p ρ K X := by
  unfold As
  rw [ho]
  show wp ((put i (.val p.1) ρ).bind fun _ ρ => .ok .nx ρ) K X
  rw [put_free h]; exact k
theorem as_own {i : Nat} {p : D × Bool} {o : Bool} (ho : (o && p.2) = true) (h : Free ρ[i]? = true) (k : K .nx (ρ.set i (.own false p.1))) : As o (.name i) p ρ K X := by
  unfold As
  rw [ho]
  show wp ((put i (.own false p.1) ρ).bind fun _ ρ => .ok .nx ρ) K X
  rw [put_free h]; exact k
theorem as_tup {is : List Nat} {p : D × Bool} {o : Bool} (k : wp (bindT (.tup is) p.1 ρ) (fun _ ρ => K .nx ρ) X) : As o (.tup is) p ρ K X := by
  unfold As
  have e : (match Tg.tup is, o && p.2 with
    | .name i, true => (put i (.own false p.1) ρ).bind fun _ ρ => (.ok .nx ρ : Res Fl)
    | t, _ => (bindT t p.1 ρ).bind fun _ ρ => .ok .nx ρ) = (bindT (.tup is) p.1 ρ).bind fun _ ρ => .ok .nx ρ := by cases (o && p.2) <;> rfl
  rw [e, wp_bind]; exact k
theorem bt_name {i : Nat} {d : D} {Q : Unit → Ev → Prop} (h : Free ρ[i]? = true) (k : Q () (ρ.set i (.val d))) : wp (bindT (.name i) d ρ) Q X := by
  show wp (put i (.val d) ρ) Q X
  rw [put_free h]; exact k
theorem bt_tup {is : List Nat} {ds : List D} {Q : Unit → Ev → Prop} (k : wp (putAll is ds ρ) Q X) : wp (bindT (.tup is) (.tup ds) ρ) Q X := k
theorem pa_nil' {Q : Unit → Ev → Prop} (k : Q () ρ) : wp (putAll [] [] ρ) Q X := k
theorem pa_cons' {i : Nat} {is : List Nat} {d : D} {ds : List D} {Q : Unit → Ev → Prop} (h : Free ρ[i]? = true) (k : wp (putAll is ds (ρ.set i (.val d))) Q X) : wp (putAll (i :: is) (d :: ds) ρ) Q X := by
  show wp ((put i (.val d) ρ).bind fun _ ρ => putAll is ds ρ) Q X
  rw [put_free h]; exact k
/-- l[k] = v -/
def Si (i : Nat) (y x : D) (ρ : Ev) (k : Ev → Prop) : Prop := ∃ p d, ρ[i]? = some (.own p d) ∧ ∃ d', putI d y x = some d' ∧ k (ρ.set i (.own p d'))
theorem ws_setI {i : Nat} (k : We C G b ρ (fun x ρ => wp (rd i ρ) (fun _ ρ => Wd C G a ρ (fun y ρ => Si i y x.1 ρ fun ρ => K .nx ρ) X) X) X) : Ws C G (.setI i a b) ρ K X := by
  show wp ((ev C G b ρ).bind fun x ρ => (rd i ρ).bind fun _ ρ => (rdOr a (ev C G a) ρ).bind fun y ρ => match ρ[i]? with
    | some (.own p d) => (ofO (putI d y x.1) ρ).bind fun d' ρ => .ok .nx (ρ.set i (.own p d'))
    | _ => .bad) K X
  rw [wp_bind]
  refine wp_mono k (fun x ρ q => ?_) fun _ _ h => h
  rw [wp_bind]
  refine wp_mono q (fun _ ρ q => ?_) fun _ _ h => h
  rw [wp_bind]
  refine wp_mono q (fun y ρ ⟨p, d, h, d', h2, q⟩ => ?_) fun _ _ h => h
  rw [h]
  show wp ((ofO (putI d y x.1) ρ).bind fun d' ρ => .ok .nx (ρ.set i (.own p d'))) K X
  rw [wp_bind]; exact wp_of h2 q
theorem ws_ret_val {i : Nat} {d : D} (h : ρ[i]? = some (.val d)) (k : K (.ret d false) ρ) : Ws C G (.ret (.var i)) ρ K X := by
  show wp (match ρ[i]? with
    | some (.val d) => .ok (.ret d false) ρ
    | some (.own false d) => .ok (.ret d true) ρ
    | _ => .bad) K X
  rw [h]; exact k
theorem ws_ret_own {i : Nat} {d : D} (h : ρ[i]? = some (.own false d)) (k : K (.ret d true) ρ) : Ws C G (.ret (.var i)) ρ K X := by
  show wp (match ρ[i]? with
    | some (.val d) => .ok (.ret d false) ρ
    | some (.own false d) => .ok (.ret d true) ρ
    | _ => .bad) K X
  rw [h]; exact k
theorem ws_ret (k : We C G a ρ (fun p ρ => K (.ret p.1 p.2) ρ) X) (hv : nvB a = true) : Ws C G (.ret a) ρ K X := by
  have h := nv_of hv
  have e : evS C G (.ret a) ρ = (ev C G a ρ).bind fun p ρ => .ok (.ret p.1 p.2) ρ := by cases a <;> first | rfl | exact absurd rfl (h _)
  unfold Ws
  rw [e, wp_bind]; exact k
theorem ws_ite (k : Wt C G a ρ (fun t ρ => if t then Ws C G s ρ K X else Ws C G s' ρ K X) X) : Ws C G (.ite a s s') ρ K X := by
  show wp ((evT C G a ρ).bind fun t ρ => if t then evS C G s ρ else evS C G s' ρ) K X
  rw [wp_bind]
  refine wp_mono k (fun t ρ q => ?_) fun _ _ h => h
  cases t <;> exact q
theorem ws_for {t : Tg} {it : E} (k : Wi C G it ρ (fun q ρ₀ => wp (forL (fun d ρ => (bindT t d ρ).bind fun _ ρ => evS C G s ρ) q.1 (wipe ρ₀ q.2)) (fun r ρ => q.2.all (fun i => isUns i ρ) = true ∧ K r (back ρ₀ ρ q.2)) X) X) : Ws C G (.for t it s) ρ K X := by
  show wp ((evI C G it ρ).bind fun q ρ₀ => (forL (fun d ρ => (bindT t d ρ).bind fun _ ρ => evS C G s ρ) q.1 (wipe ρ₀ q.2)).bind fun r ρ => if q.2.all (fun i => isUns i ρ) then .ok r (back ρ₀ ρ q.2) else .bad) K X
  rw [wp_bind]
  refine wp_mono k (fun q ρ h => ?_) fun _ _ h => h
  rw [wp_bind]
  refine wp_mono h (fun r ρ ⟨h1, h2⟩ => ?_) fun _ _ h => h
  rw [if_pos h1]; exact h2
theorem ws_raise {c : Nat} (k : Wl C G l ρ (fun ds _ => X c ((List.range ds.length).zip ds)) X) : Ws C G (.raise c l) ρ K X := by
  show wp ((evs C G l ρ).bind fun ds _ => .exc c ((List.range ds.length).zip ds)) K X
  rw [wp_bind]; exact k
theorem ws_try {i : Nat} {j cs : Option Nat} {nx : Nat} {h : List (Option XT × XE)} {d0 : D} (h1 : (ρ.all nOwn && jOk i ρ.length j) = true) (h2 : ρ[i]? = some (.val d0)) (k : We C G a ρ (fun p ρ => K (.ret p.1 false) ρ) (fun c fs => c < nx ∧ if catches cs c then ∃ d, hVal c fs h d0 = some d ∧ K (.ret d false) ρ else X c fs)) : Ws C G (.tryR i a j cs nx h) ρ K X := by
  show wp (if ρ.all nOwn && jOk i ρ.length j then (match ρ[i]?, ev C G a ρ with
    | some (.val _), .ok p ρ => .ok (.ret p.1 false) ρ
    | some (.val d), .exc c fs => if c < nx then if catches cs c then (match hVal c fs h d with
      | some d => .ok (.ret d false) ρ
      | none => .bad) else .exc c fs else .bad
    | _, _ => .bad) else .bad) K X
  rw [if_pos h1, h2]
  have k' : wp (ev C G a ρ) (fun p ρ => K (.ret p.1 false) ρ) (fun c fs => c < nx ∧ if catches cs c then ∃ d, hVal c fs h d0 = some d ∧ K (.ret d false) ρ else X c fs) := k
  cases q : ev C G a ρ with
  | bad => rw [q] at k'; exact k'
  | ok p ρ1 => rw [q] at k'; exact k'
  | exc c fs =>
    rw [q] at k'
    obtain ⟨hc, k2⟩ := k'
    show wp (if c < nx then _ else _) K X
    rw [if_pos hc]
    cases hk : catches cs c with
    | true =>
      rw [hk, if_pos rfl] at k2
      obtain ⟨d, e1, e2⟩ := k2
      rw [if_pos rfl, e1]
      exact e2
    | false =>
      rw [hk, if_neg Bool.false_ne_true] at k2
      rw [if_neg Bool.false_ne_true]
      exact k2
end
/-! ### reckoning -/
section
variable {k : D → Prop} {kb : Bool → Prop} {kp : D × Bool → Prop} {i j : Int} {x y : D}
theorem bo_addI (h : k (.int (i + j))) : Bo .add (.int i) (.int j) k := ⟨_, rfl, h⟩
theorem bo_subI (h : k (.int (i - j))) : Bo .sub (.int i) (.int j) k := ⟨_, rfl, h⟩
theorem bo_mulI (z : (i64 i || i64 j) = true) (h : k (.int (i * j))) : Bo .mul (.int i) (.int j) k := ⟨_, by show (if _ then _ else _) = _; rw [if_pos z], h⟩
theorem bo_modI (z : j ≠ 0) (h : k (.int (i.fmod j))) : Bo .mod (.int i) (.int j) k := ⟨_, by show (if _ then _ else _) = _; rw [if_neg z], h⟩
theorem bo_divI (z : (decide (j ≠ 0) && decide (j.natAbs < 1073741824)) = true) (h : k (.int (i.fdiv j))) : Bo .fdiv (.int i) (.int j) k := ⟨_, by show (if _ then _ else _) = _; rw [if_pos z], h⟩
theorem bo_powI (z : (decide (0 ≤ j) && decide (j ≤ 1000000) && decide (i.natAbs < 2 ^ 64)) = true) (h : k (.int (i ^ j.toNat))) : Bo .pow (.int i) (.int j) k := ⟨_, by show (if _ then _ else _) = _; rw [if_pos z], h⟩
theorem bo_addT {l m : List D} (z : l.length ≤ lim ∧ m.length ≤ lim ∧ l.length + m.length ≤ lim) (h : k (.tup (l ++ m))) : Bo .add (.tup l) (.tup m) k := ⟨_, by show (if _ then _ else _) = _; rw [if_pos z], h⟩
theorem bo_addL {l m : List D} (z : l.length + m.length ≤ lim) (h : k (.lst (l ++ m))) : Bo .add (.lst l) (.lst m) k := ⟨_, by show (if _ then _ else _) = _; rw [if_pos z], h⟩
theorem bo_mulL {l : List D} (z : (decide (-(2 ^ 63) ≤ j) && decide (j < 2 ^ 63) && decide (l.length * j.toNat ≤ lim)) = true) (h : k (.lst (List.replicate j.toNat l).flatten)) : Bo .mul (.lst l) (.int j) k := ⟨_, by show (if _ then _ else _) = _; rw [if_pos z], h⟩
theorem bo_mulT {l : List D} (z : (decide (-1000 ≤ j) && decide (j ≤ 1000) && decide (l.length ≤ 1000)) = true) (h : k (.tup (List.replicate j.toNat l).flatten)) : Bo .mul (.tup l) (.int j) k := ⟨_, by show (if _ then _ else _) = _; rw [if_pos z], h⟩
theorem deq_int : D.eq (.int i) (.int j) = decide (i = j) := by
  show PyData.eqv (.int i) (.int j) = _
  first | rfl | (unfold PyData.eqv; simp)
theorem cpd_eq (z : (x.ok 60 && y.ok 60) = true) : cpd .eq x y = some (D.eq x y) := by
  show (if (x.ok 60 && y.ok 60) = true then some (D.eq x y) else none) = _
  rw [if_pos z]
theorem cpd_ne (z : (x.ok 60 && y.ok 60) = true) : cpd .ne x y = some (!D.eq x y) := by
  show (if (x.ok 60 && y.ok 60) = true then some (!D.eq x y) else none) = _
  rw [if_pos z]
theorem co_eqI (h : kb (decide (i = j))) : Co .eq (.int i) (.int j) kb := ⟨_, cpd_eq rfl, by rw [deq_int]; exact h⟩
theorem co_neI (h : kb (!decide (i = j))) : Co .ne (.int i) (.int j) kb := ⟨_, cpd_ne rfl, by rw [deq_int]; exact h⟩
theorem co_ltI (h : kb (decide (i < j))) : Co .lt (.int i) (.int j) kb := ⟨_, rfl, h⟩
theorem co_leI (h : kb (decide (i ≤ j))) : Co .le (.int i) (.int j) kb := ⟨_, rfl, h⟩
theorem co_gtI (h : kb (decide (j < i))) : Co .gt (.int i) (.int j) kb := ⟨_, rfl, h⟩
theorem co_geI (h : kb (decide (j ≤ i))) : Co .ge (.int i) (.int j) kb := ⟨_, rfl, h⟩
theorem co_eq (z : (x.ok 60 && y.ok 60) = true) (h : kb (D.eq x y)) : Co .eq x y kb := ⟨_, cpd_eq z, h⟩
theorem co_ne (z : (x.ok 60 && y.ok 60) = true) (h : kb (!D.eq x y)) : Co .ne x y kb := ⟨_, cpd_ne z, h⟩
theorem tr_b {b : Bool} (h : kb b) : Tr (.bool b) kb := ⟨_, rfl, h⟩
theorem tr_none (h : kb false) : Tr .none kb := ⟨_, rfl, h⟩
theorem tr_int (h : kb (i != 0)) : Tr (.int i) kb := ⟨_, rfl, h⟩
theorem tr_lst {l : List D} (h : kb (!l.isEmpty)) : Tr (.lst l) kb := ⟨_, rfl, h⟩
theorem tr_tup {l : List D} (h : kb (!l.isEmpty)) : Tr (.tup l) kb := ⟨_, rfl, h⟩
theorem getIx_at {d : D} (h : at_ x i = some d) : getIx x (.int i) = some d := by
  cases x with
  | dct k l => cases h
  | _ => exact h
theorem ix_of {d : D} (h : at_ x i = some d) (kk : k d) : Ix x (.int i) k := ⟨_, getIx_at h, kk⟩
theorem at_nat {l : List D} {n : Nat} {d : D} (h : l[n]? = some d) : at_ (.lst l) (n : Int) = some d ∧ at_ (.tup l) (n : Int) = some d ∧ at_ (.scr l) (n : Int) = some d := by
  have hl := (List.getElem?_eq_some_iff.mp h).1
  have e : place l.length (n : Int) = some n := by
    unfold place L2.ixN
    rw [if_pos (by omega), if_pos (by omega), Int.toNat_natCast]
  refine ⟨?_, ?_, ?_⟩ <;> (show (place l.length (n : Int)).bind _ = _; rw [e]; exact h)
theorem sl_of {a b : D} {r : D × Bool} (h : slc x a b = some r) (kk : kp r) : Sl x a b kp := ⟨_, h, kk⟩
theorem sq_lst {l : List D} {kk : List D → Prop} (h : kk l) : Sq (.lst l) kk := ⟨_, rfl, h⟩
theorem sq_tup {l : List D} {kk : List D → Prop} (h : kk l) : Sq (.tup l) kk := ⟨_, rfl, h⟩
theorem sq_scr {l : List D} {kk : List D → Prop} (h : kk l) : Sq (.scr l) kk := ⟨_, rfl, h⟩
theorem bf_of {b : BI} {ds : List D} {r : D × Bool} (h : biF b ds = some r) (kk : kp r) : Bf b ds kp := ⟨_, h, kk⟩
theorem mf_of {m : MU} {d : D} {ds : List D} {kk : D × D → Prop} {r : D × D} (z : muf m d ds = some r) (h : kk r) : Mf m d ds kk := ⟨_, z, h⟩
theorem si_of {n : Nat} {p : Bool} {d d' : D} {ρ : Ev} {kk : Ev → Prop} (h : ρ[n]? = some (.own p d)) (h2 : putI d y x = some d') (kk' : kk (ρ.set n (.own p d'))) : Si n y x ρ kk := ⟨_, _, h, _, h2, kk'⟩
theorem mi_of {n : Nat} {p : Bool} {d : D} {ρ : Ev} {m : MU} {ds : List D} {r : D × D} {kk : D → Ev → Prop} (h : ρ[n]? = some (.own p d)) (h2 : muf m d ds = some r) (kk' : kk r.1 (ρ.set n (.own p r.2))) : Mi m n ds ρ kk := ⟨_, _, h, _, h2, kk'⟩
theorem ng_of {kk : Int → Prop} (h : kk i) : Ng (.int i) kk := ⟨_, rfl, h⟩
theorem oi_of {A : Prop} (h : A) : Oi (.int i) A := ⟨rfl, h⟩
theorem r1_of {kk : List D → Prop} (h : rOk 0 i = true) (h2 : kk (irange 0 i)) : R1 (.int i) kk := ⟨_, rfl, h, h2⟩
theorem r2_of {kk : List D → Prop} (h : rOk i j = true) (h2 : kk (irange i j)) : R2 (.int i) (.int j) kk := ⟨_, _, rfl, rfl, h, h2⟩
theorem zn_of {l m : List D} {kk : List D → Prop} (h : kk (zipD l m)) : Zn (.tup l) (.tup m) kk := ⟨_, _, rfl, rfl, h⟩
theorem zp_T {l m : List D} {kk : List D → Prop} (h : kk (zipD l m)) : Zp (.tup l) (.tup m) kk := ⟨_, _, rfl, rfl, rfl, h⟩
theorem zp_L {l m : List D} {kk : List D → Prop} (h : kk (zipD l m)) : Zp (.lst l) (.lst m) kk := ⟨_, _, rfl, rfl, rfl, h⟩
theorem bf_len {l : List D} {kk : D × Bool → Prop} (h : kk (.int (l.length : Nat), false)) : Bf .len [.lst l] kk := ⟨_, rfl, h⟩
theorem bf_lenT {l : List D} {kk : D × Bool → Prop} (h : kk (.int (l.length : Nat), false)) : Bf .len [.tup l] kk := ⟨_, rfl, h⟩
theorem bf_intB {b : Bool} {kk : D × Bool → Prop} (h : kk (.int (if b then 1 else 0), false)) : Bf .int [.bool b] kk := ⟨_, rfl, h⟩
theorem bf_tupL {l : List D} {kk : D × Bool → Prop} (h : kk (.tup l, false)) : Bf .tuple [.lst l] kk := ⟨_, rfl, h⟩
theorem if_dec {p : Prop} [Decidable p] {A B : Prop} (h1 : p → A) (h2 : ¬ p → B) : if decide p then A else B := by
  by_cases h : p
  · rw [decide_eq_true h]; exact h1 h
  · rw [decide_eq_false h]; exact h2 h
theorem if_b {b : Bool} {A B : Prop} (h1 : b = true → A) (h2 : b = false → B) : if b then A else B := by
  cases b with
  | true => exact h1 rfl
  | false => exact h2 rfl
theorem if_t {A B : Prop} (h : A) : if (true : Bool) then A else B := h
theorem if_f {A B : Prop} (h : B) : if (false : Bool) then A else B := h
end
end PX

end

section
set_option Elab.async false
set_option linter.all false
set_option maxRecDepth 100000
namespace PX
open PySem
abbrev no : EQ := fun _ _ => False
theorem no_of {E : EQ} (c : Nat) (fs : List (Nat × D)) (h : no c fs) : E c fs := h.elim
/-! ### the feed -/
def feedD (cs : List Int) (sp lf : Int) : D := .lst [.lst (cs.map .int), .int sp, .int lf]
structure FeedOk (cs : List Int) (sp lf B : Int) : Prop where
  ne : 0 < cs.length
  le : cs.length ≤ 64
  sp0 : 0 ≤ sp
  spB : sp ≤ B
  lf0 : 0 ≤ lf
def Fd (B : Int) (d : D) : Prop := ∃ cs sp lf, d = feedD cs sp lf ∧ FeedOk cs sp lf B
theorem Fd.mono {B B' : Int} {d : D} (h : Fd B d) (hb : B ≤ B') : Fd B' d := by
  obtain ⟨cs, sp, lf, e, f⟩ := h
  exact ⟨cs, sp, lf, e, ⟨f.ne, f.le, f.sp0, Int.le_trans f.spB hb, f.lf0⟩⟩
theorem fm_bd {a m : Int} (h : 0 < m) : 0 ≤ a.fmod m ∧ a.fmod m < m := ⟨Int.fmod_nonneg_of_pos a h, Int.fmod_lt_of_pos a h⟩
theorem fd_nn {a m : Int} (h : 0 < m) (h0 : 0 ≤ a) : 0 ≤ a.fdiv m := Int.fdiv_nonneg h0 (by omega)
theorem at_fm {cs : List Int} {a : Int} (h : 0 < cs.length) : ∃ c, at_ (.lst (cs.map .int)) (a.fmod ((cs.map D.int).length : Nat)) = some (.int c) := by
  have hb := fm_bd (a := a) (m := (((cs.map D.int).length : Nat) : Int)) (by simp only [List.length_map]; omega)
  obtain ⟨n, hn⟩ := Int.eq_ofNat_of_zero_le hb.1
  rw [hn] at hb ⊢
  have hl : n < cs.length := by have := hb.2; simp only [List.length_map] at this; omega
  exact ⟨cs[n], (at_nat (by rw [List.getElem?_map, List.getElem?_eq_getElem hl]; rfl)).1⟩
theorem i64_fm {a m : Int} {b : Bool} (h : 0 < m) (h2 : m ≤ 18446744073709551616) : (i64 (a.fmod m) || b) = true := by
  have h3 := Int.fmod_nonneg_of_pos a h
  have h4 := Int.fmod_lt_of_pos a h
  have : i64 (a.fmod m) = true := by simp only [i64, Bool.and_eq_true, decide_eq_true_eq]; omega
  rw [this]; rfl
/-- a def whose first argument is the feed -/
def FdC (C : Call) (f : Nat) (as : List D) (c : Int) (fr : Bool) (P : D → Prop) : Prop := ∀ (d : D) (B : Int), Fd B d → B + c < 2 ^ 40 → wpC (C f (.own true d :: as.map .val)) (fun r fr' o => fr' = fr ∧ P r ∧ ∃ d' rest, Fd (B + c) d' ∧ o = .own true d' :: rest ∧ rest.length = as.length) no
theorem FdC.mono {C : Call} {f : Nat} {as : List D} {c : Int} {fr : Bool} {P P' : D → Prop} (h : FdC C f as c fr P) (k : ∀ r, P r → P' r) : FdC C f as c fr P' := fun d B hd hB => wpC_mono (h d B hd hB) (fun r _ o q => ⟨q.1, k r q.2.1, q.2.2⟩) fun _ _ q => q
theorem sl_v : ∀ l : List D, slotsOf (l.map Arg.val) = []
  | [] => rfl
  | d :: l => sl_v l
theorem ac_v (ρ : Ev) : ∀ l : List D, argCells ρ (l.map Arg.val) = some (l.map Cell.val)
  | [] => rfl
  | d :: l => by show (argCells ρ (l.map Arg.val)).map (Cell.val d :: ·) = _; rw [ac_v ρ l]; rfl
theorem gb_v (ρ : Ev) : ∀ (l : List D) (cs : List Cell), cs.length = l.length → giveBack (l.map Arg.val) cs ρ = some ρ
  | [], [], _ => rfl
  | d :: l, c :: cs, h => gb_v ρ l cs (by simpa using h)
  | [], _ :: _, h => by simp at h
  | _ :: _, [], h => by simp at h
theorem call_fd {C : Call} {f : Nat} {as : List D} {args : List Arg} {c B : Int} {fr p : Bool} {P : D → Prop} {ρ : Ev} {i : Nat} {d : D} {K : D × Bool → Ev → Prop} {X : EQ} (h : FdC C f as c fr P) (ha : args = as.map Arg.val) (hρ : ρ[i]? = some (.own p d)) (hF : Fd B d) (hB : B + c < 2 ^ 40)
    (k : ∀ r d', P r → Fd (B + c) d' → K (r, fr) (ρ.set i (.own p d'))) : wp (doCall C f (.slot i :: args) ρ) K X := by
  subst ha
  refine wp_doCall (cells := Cell.own true d :: as.map Cell.val) ?_ ?_ ?_
  · show nodupB (i :: slotsOf (as.map Arg.val)) = true
    rw [sl_v]; rfl
  · show (match ρ[i]? with
      | some (Cell.own p d) => (argCells ρ (as.map Arg.val)).map (Cell.own true d :: ·)
      | _ => none) = _
    rw [hρ, ac_v]; rfl
  · refine wpC_mono (h d B hF hB) (fun r fr' o q => ?_) fun _ _ q => q.elim
    obtain ⟨e1, hp, d', rest, hd, e2, e3⟩ := q
    subst e1; subst e2
    refine ⟨ρ.set i (Cell.own p d'), ?_, k r d' hp hd⟩
    show (match ρ[i]? with
      | some (.own p _) => giveBack (as.map Arg.val) rest (ρ.set i (.own p d'))
      | _ => none) = _
    rw [hρ]
    exact gb_v _ as rest e3
/-- a def whose arguments are values -/
def VC (C : Call) (f : Nat) (as : List D) (Q : D → Bool → Prop) (X : EQ) : Prop := wpC (C f (as.map .val)) (fun r fr o => Q r fr ∧ o.length = as.length) X
theorem call_v {C : Call} {f : Nat} {as : List D} {args : List Arg} {Q : D → Bool → Prop} {ρ : Ev} {K : D × Bool → Ev → Prop} {X X' : EQ} (h : VC C f as Q X) (ha : args = as.map Arg.val) (k : ∀ r fr, Q r fr → K (r, fr) ρ) (kx : ∀ c fs, X c fs → X' c fs) : wp (doCall C f args ρ) K X' := by
  subst ha
  refine wp_doCall (cells := as.map Cell.val) ?_ (ac_v ρ as) ?_
  · rw [sl_v]; rfl
  · refine wpC_mono h (fun r fr' o q => ?_) kx
    obtain ⟨hq, e2⟩ := q
    exact ⟨ρ, gb_v _ as o e2, k r fr' hq⟩
/-! ### blocks -/
theorem mw_len (ρ : Ev) : ∀ vs, (wipe ρ vs).length = ρ.length
  | [] => rfl
  | v :: vs => by show ((wipe ρ vs).set v .unset).length = _; rw [List.length_set, mw_len ρ vs]
theorem mw_get (ρ : Ev) : ∀ (vs : List Nat) (j : Nat), j < ρ.length → (wipe ρ vs)[j]? = if j ∈ vs then some .unset else ρ[j]?
  | [], j, _ => by simp [wipe]
  | v :: vs, j, h => by
    show ((wipe ρ vs).set v .unset)[j]? = _
    rw [List.getElem?_set, mw_len, mw_get ρ vs j h]
    by_cases e : v = j
    · subst e; rw [if_pos rfl, if_pos h]; simp
    · rw [if_neg e]
      have : (j ∈ v :: vs) ↔ j ∈ vs := by simp [Ne.symm e]
      simp only [this]
theorem mb_len (ρ ρ' : Ev) : ∀ vs, (back ρ ρ' vs).length = ρ'.length
  | [] => rfl
  | v :: vs => by show ((back ρ ρ' vs).set v _).length = _; rw [List.length_set, mb_len ρ ρ' vs]
theorem mb_get (ρ ρ' : Ev) : ∀ (vs : List Nat) (j : Nat), j < ρ'.length → (back ρ ρ' vs)[j]? = if j ∈ vs then some (ρ.getD j .unset) else ρ'[j]?
  | [], j, _ => by simp [back]
  | v :: vs, j, h => by
    show ((back ρ ρ' vs).set v (ρ.getD v .unset))[j]? = _
    rw [List.getElem?_set, mb_len, mb_get ρ ρ' vs j h]
    by_cases e : v = j
    · subst e; rw [if_pos rfl, if_pos h]; simp
    · rw [if_neg e]
      have : (j ∈ v :: vs) ↔ j ∈ vs := by simp [Ne.symm e]
      simp only [this]
theorem mb_wipe (ρ ρ' : Ev) (vs : List Nat) : back ρ (wipe ρ' vs) vs = back ρ ρ' vs := by
  apply List.ext_getElem?
  intro j
  by_cases h : j < ρ'.length
  · rw [mb_get _ _ _ _ (by rw [mw_len]; exact h), mb_get _ _ _ _ h]
    by_cases m : j ∈ vs
    · rw [if_pos m, if_pos m]
    · rw [if_neg m, if_neg m, mw_get _ _ _ h, if_neg m]
  · rw [List.getElem?_eq_none (by rw [mb_len, mw_len]; omega), List.getElem?_eq_none (by rw [mb_len]; omega)]
theorem back_of {ρ ρ1 ρ2 : Ev} {vs : List Nat} (h : wipe ρ1 vs = wipe ρ2 vs) : back ρ ρ1 vs = back ρ ρ2 vs := by rw [← mb_wipe ρ ρ1, h, mb_wipe]
/-- a block that draws from the feed -/
theorem comp_fd {C : Call} {G : Nat → D} {e c : E} {t : Tg} {vs : List Nat} {ds : List D} {ρ : Ev} {i : Nat} {p : Bool} {d : D} {B n : Int} {P : D → Prop} {Q : List D → Ev → Prop} {X : EQ} (hn : 0 ≤ n) (hρ : ρ[i]? = some (.own p d)) (hF : Fd B d) (hB : B + ds.length * n < 2 ^ 40)
    (step : ∀ x ∈ ds, ∀ d' B', Fd B' d' → B' + n < 2 ^ 40 → wp (bindT t x (wipe (ρ.set i (.own p d')) vs)) (fun _ ρ' => wp (evC C G c ρ') (fun b ρ' => if b then We C G e ρ' (fun y ρ1 => P y.1 ∧ ∃ d'', Fd (B' + n) d'' ∧ wipe ρ1 vs = wipe (ρ.set i (.own p d'')) vs) X else ∃ d'', Fd (B' + n) d'' ∧ wipe ρ' vs = wipe (ρ.set i (.own p d'')) vs) X) X)
    (k : ∀ out d' ρ', out.length ≤ ds.length → (c = .nil → out.length = ds.length) → (∀ y ∈ out, P y) → Fd (B + ds.length * n) d' → (∀ ρ0, back ρ0 ρ' vs = back ρ0 (ρ.set i (.own p d')) vs) → Q out ρ') :
    wp (compL (fun x ρ => (bindT t x (wipe ρ vs)).bind fun _ ρ => evC C G c ρ) (fun _ ρ => (ev C G e ρ).bind fun y ρ => .ok y.1 ρ) ds ρ) Q X := by
  refine wp_compL (fun done out ρ' => out.length ≤ done.length ∧ (c = .nil → out.length = done.length) ∧ (∀ y ∈ out, P y) ∧ ∃ d', Fd (B + done.length * n) d' ∧ wipe ρ' vs = wipe (ρ.set i (.own p d')) vs) ds [] [] ρ ?_ ?_ ?_
  · refine ⟨Nat.le_refl _, fun _ => rfl, nofun, d, hF.mono (by simp), ?_⟩
    have : ρ.set i (.own p d) = ρ := by
      apply List.ext_getElem?
      intro j
      rw [List.getElem?_set]
      by_cases e : i = j
      · subst e
        obtain ⟨hl, _⟩ := List.getElem?_eq_some_iff.mp hρ
        rw [if_pos rfl, if_pos hl, hρ]
      · rw [if_neg e]
    rw [this]
  · intro pre x post out ρ' hs ⟨h1, h1', h2, d', h3, h4⟩
    have hx : x ∈ ds := by
      have : x ∈ [] ++ ds := by rw [hs]; simp
      simpa using this
    have hlen : (pre.length : Int) + 1 ≤ ds.length := by
      have : ([] ++ ds).length = (pre ++ x :: post).length := by rw [hs]
      simp at this; omega
    have hb : B + pre.length * n + n < 2 ^ 40 := by
      have h5 : ((pre.length : Int) + 1) * n ≤ ds.length * n := Int.mul_le_mul_of_nonneg_right hlen hn
      rw [Int.add_mul] at h5; omega
    have st := step x hx d' _ h3 hb
    rw [wp_bind, h4]
    have hl2 : B + pre.length * n + n = B + ((pre ++ [x]).length : Nat) * n := by
      rw [List.length_append]
      show _ = B + ((pre.length + 1 : Nat) : Int) * n
      rw [Int.natCast_add, Int.add_mul]; simp [Int.add_assoc]
    refine wp_mono st (fun _ ρ1 q => ?_) fun _ _ h => h
    have hl3 : (pre ++ [x]).length = pre.length + 1 := by simp
    have hcb : c = .nil → ∀ {Y : Bool → Ev → Prop}, wp (evC C G c ρ1) Y X = Y true ρ1 := by intro e; subst e; intro Y; rfl
    by_cases hc : c = .nil
    · rw [hcb hc] at q
      rw [hcb hc]
      rw [if_pos rfl] at q ⊢
      rw [wp_bind]
      refine wp_mono q (fun y ρ2 ⟨hp, d'', h5, h6⟩ => ?_) fun _ _ h => h
      rw [wp_ok]
      refine ⟨by simp; omega, fun _ => by simp [h1' hc], ?_, d'', hl2 ▸ h5, h6⟩
      intro z hz
      rcases List.mem_append.mp hz with hz | hz
      · exact h2 z hz
      · rw [List.mem_singleton.mp hz]; exact hp
    · refine wp_mono q (fun b ρ2 q => ?_) fun _ _ h => h
      cases b with
      | true =>
        rw [if_pos rfl] at q ⊢
        rw [wp_bind]
        refine wp_mono q (fun y ρ2 ⟨hp, d'', h5, h6⟩ => ?_) fun _ _ h => h
        rw [wp_ok]
        refine ⟨by simp; omega, fun e => absurd e hc, ?_, d'', hl2 ▸ h5, h6⟩
        intro z hz
        rcases List.mem_append.mp hz with hz | hz
        · exact h2 z hz
        · rw [List.mem_singleton.mp hz]; exact hp
      | false =>
        rw [if_neg Bool.false_ne_true] at q ⊢
        obtain ⟨d'', h5, h6⟩ := q
        exact ⟨by omega, fun e => absurd e hc, h2, d'', hl2 ▸ h5, h6⟩
  · intro r ρ' ⟨h1, h1', h2, d', h3, h4⟩
    simp only [List.nil_append] at h1 h1' h2 h3
    exact k r d' ρ' h1 h1' h2 h3 fun ρ0 => back_of h4
/-- a block without the feed -/
theorem comp_pure {C : Call} {G : Nat → D} {e c : E} {t : Tg} {vs : List Nat} {ds : List D} {ρ : Ev} (F : D → D) (g : D → Bool) {Q : List D → Ev → Prop} {X : EQ}
    (step : ∀ x ∈ ds, wp (bindT t x (wipe ρ vs)) (fun _ ρ' => wp (evC C G c ρ') (fun b ρ' => b = g x ∧ if g x then We C G e ρ' (fun y ρ1 => y.1 = F x ∧ wipe ρ1 vs = wipe ρ vs) X else wipe ρ' vs = wipe ρ vs) X) X)
    (k : ∀ ρ', (∀ ρ0, back ρ0 ρ' vs = back ρ0 ρ vs) → Q ((ds.filter g).map F) ρ') :
    wp (compL (fun x ρ => (bindT t x (wipe ρ vs)).bind fun _ ρ => evC C G c ρ) (fun _ ρ => (ev C G e ρ).bind fun y ρ => .ok y.1 ρ) ds ρ) Q X := by
  refine wp_compL (fun done out ρ' => out = (done.filter g).map F ∧ wipe ρ' vs = wipe ρ vs) ds [] [] ρ ⟨rfl, rfl⟩ ?_ ?_
  · intro pre x post out ρ' hs ⟨h1, h4⟩
    have hx : x ∈ ds := by
      have : x ∈ [] ++ ds := by rw [hs]; simp
      simpa using this
    rw [wp_bind, h4]
    refine wp_mono (step x hx) (fun _ ρ1 q => ?_) fun _ _ h => h
    refine wp_mono q (fun b ρ2 ⟨hb, q⟩ => ?_) fun _ _ h => h
    subst hb
    cases hg : g x with
    | true =>
      rw [hg, if_pos rfl] at q
      rw [if_pos rfl, wp_bind]
      refine wp_mono q (fun y ρ2 ⟨hp, h6⟩ => ?_) fun _ _ h => h
      rw [wp_ok]
      exact ⟨by simp [h1, hp, hg], h6⟩
    | false =>
      rw [hg, if_neg Bool.false_ne_true] at q
      rw [if_neg Bool.false_ne_true]
      exact ⟨by simp [h1, hg], q⟩
  · intro r ρ' ⟨h1, h4⟩
    simp only [List.nil_append] at h1
    rw [h1]
    exact k ρ' fun ρ0 => back_of h4
theorem wc_nil {C : Call} {G : Nat → D} {ρ : Ev} {K : Bool → Ev → Prop} {X : EQ} (k : K true ρ) : wp (evC C G .nil ρ) K X := k
theorem wc_cons {C : Call} {G : Nat → D} {a b : E} {ρ : Ev} {K : Bool → Ev → Prop} {X : EQ} (k : Wt C G a ρ K X) : wp (evC C G (.cons a b) ρ) K X := k
theorem cut_mem {α : Type} {l : List α} {a b : Option Int} {x : α} (h : x ∈ cut l a b) : x ∈ l := List.mem_of_mem_drop (List.mem_of_mem_take h)
theorem cut_len {α : Type} (l : List α) (a b : Option Int) : (cut l a b).length ≤ l.length := by
  unfold cut; rw [List.length_take, List.length_drop]; omega
theorem we_compV {C : Call} {G : Nat → D} {e it c : E} {t : Tg} {vs : List Nat} {ρ : Ev} {K : D × Bool → Ev → Prop} {X : EQ} (k : Wi C G it ρ (fun q ρ₀ => q.2 = [] ∧ q.1.length ≤ lim ∧ wp (compL (fun d ρ => (bindT t d (wipe ρ vs)).bind fun _ ρ => evC C G c ρ) (fun _ ρ => (ev C G e ρ).bind fun y ρ => .ok y.1 ρ) q.1 ρ₀) (fun r ρ => K (.lst r, true) (back ρ₀ ρ vs)) (fun _ _ => False)) X) : We C G (.comp e t it c vs) ρ K X := by
  refine we_comp (wp_mono k (fun q ρ₀ ⟨h, h2, h3⟩ => ?_) fun _ _ h => h)
  rw [h, List.append_nil]
  exact ⟨h2, h3⟩
theorem ws_forV {C : Call} {G : Nat → D} {s : S} {it : E} {t : Tg} {ρ : Ev} {K : Fl → Ev → Prop} {X : EQ} (k : Wi C G it ρ (fun q ρ₀ => q.2 = [] ∧ wp (forL (fun d ρ => (bindT t d ρ).bind fun _ ρ => evS C G s ρ) q.1 ρ₀) K X) X) : Ws C G (.for t it s) ρ K X := by
  refine ws_for (wp_mono k (fun q ρ₀ ⟨h, h2⟩ => ?_) fun _ _ h => h)
  rw [h]
  exact wp_mono h2 (fun r ρ h => ⟨rfl, h⟩) fun _ _ h => h
/-! ### plain data, bounded -/
structure Pl (k n : Nat) (d : D) : Prop where
  ok : D.ok k d = true
  sh : d.py.showable = true
  ln : d.py.shown.length ≤ n
structure PlL (k n : Nat) (l : List D) : Prop where
  ok : l.all (D.ok k) = true
  sh : PyData.showableAll (D.pys l) = true
  ln : piled (PyData.shownAll (D.pys l)) ≤ n
mutual
theorem ok_le : ∀ (d : D) {k k' : Nat}, D.ok k d = true → k ≤ k' → D.ok k' d = true
  | .none, _, _, _, _ => by cases ‹Nat› <;> rfl
  | .bool _, _, _, _, _ => by cases ‹Nat› <;> rfl
  | .int _, _, _, _, _ => by cases ‹Nat› <;> rfl
  | .str s, k, k', h, _ => by cases k <;> cases k' <;> exact h
  | .tup l, k, k', h, e => by
    cases k with
    | zero => cases h
    | succ k => cases k' with
      | zero => omega
      | succ k' => exact oks_le l h (by omega)
  | .lst l, k, k', h, e => by
    cases k with
    | zero => cases h
    | succ k => cases k' with
      | zero => omega
      | succ k' => exact oks_le l h (by omega)
  | .scr l, k, k', h, e => by
    cases k with
    | zero => cases h
    | succ k => cases k' with
      | zero => omega
      | succ k' => exact oks_le l h (by omega)
  | .dct _ _, k, _, h, _ => by cases k <;> cases h
  | .obj _ _, k, _, h, _ => by cases k <;> cases h
theorem oks_le : ∀ (l : List D) {k k' : Nat}, l.all (D.ok k) = true → k ≤ k' → l.all (D.ok k') = true
  | [], _, _, _, _ => rfl
  | d :: l, k, k', h, e => by
    rw [List.all_cons, Bool.and_eq_true] at h ⊢
    exact ⟨ok_le d h.1 e, oks_le l h.2 e⟩
end
theorem Pl.mono {k n k' n' : Nat} {d : D} (h : Pl k n d) (hk : k ≤ k') (hn : n ≤ n') : Pl k' n' d := ⟨ok_le d h.ok hk, h.sh, Nat.le_trans h.ln hn⟩
theorem plL_nil {k : Nat} : PlL k 0 [] := ⟨rfl, rfl, Nat.le_refl _⟩
theorem plL_cons {k a b : Nat} {d : D} {l : List D} (h : Pl k a d) (h2 : PlL k b l) : PlL k (a + 2 + b) (d :: l) := by
  refine ⟨by rw [List.all_cons, h.ok, h2.ok]; rfl, ?_, ?_⟩
  · show (d.py.showable && PyData.showableAll (D.pys l)) = true
    rw [h.sh, h2.sh]; rfl
  · show piled (d.py.shown :: PyData.shownAll (D.pys l)) ≤ _
    rw [piled_cons]
    have := h.ln; have := h2.ln
    omega
theorem PlL.mono {k n k' n' : Nat} {l : List D} (h : PlL k n l) (hk : k ≤ k') (hn : n ≤ n') : PlL k' n' l := ⟨oks_le l h.ok hk, h.sh, Nat.le_trans h.ln hn⟩
theorem plL_all {k a : Nat} : ∀ {l : List D}, (∀ d ∈ l, Pl k a d) → PlL k (l.length * (a + 2)) l
  | [], _ => plL_nil.mono (Nat.le_refl _) (Nat.zero_le _)
  | d :: l, h => by
    refine (plL_cons (h d (by simp)) (plL_all fun d hd => h d (by simp [hd]))).mono (Nat.le_refl _) ?_
    rw [List.length_cons, Nat.add_mul]; omega
theorem pl_tup {k n : Nat} {l : List D} (h : PlL k n l) : Pl (k + 1) (n + 3) (.tup l) := by
  refine ⟨h.ok, h.sh, ?_⟩
  show (tupleText (PyData.shownAll (D.pys l))).length ≤ n + 3
  have hl := h.ln
  unfold tupleText
  rw [strLen_append, strLen_append]
  have e1 : ((("(" : String) : Str)).length = 1 := rfl
  have e3 : (((if (PyData.shownAll (D.pys l)).length == 1 then ",)" else ")" : String) : Str)).length ≤ 2 := by split <;> decide
  by_cases hz : PyData.shownAll (D.pys l) = []
  · rw [hz] at hl ⊢
    have : (Str.join ", " ([] : List Str)).length = 0 := rfl
    rw [e1, this]
    have : (((if ([] : List Str).length == 1 then ",)" else ")" : String) : Str)).length ≤ 2 := by decide
    omega
  · have := join_length_add _ hz
    omega
theorem pl_lst {k n : Nat} {l : List D} (h : PlL k n l) : Pl (k + 1) (n + 3) (.lst l) := by
  refine ⟨h.ok, h.sh, ?_⟩
  show (listText (PyData.shownAll (D.pys l))).length ≤ n + 3
  have hl := h.ln
  have key : ∀ (ts : List Str) (k : Nat) (acc : Str), (textFrom k acc ts).length ≤ acc.length + piled ts := by
    intro ts
    induction ts with
    | nil => intro k acc; show acc.length ≤ _; omega
    | cons t r ih =>
      intro k acc
      have := ih (k + 1) (acc ++ (if k > 0 then ", " else "" : String) ++ t)
      have e : (acc ++ (if k > 0 then ", " else "" : String) ++ t).length ≤ acc.length + 2 + t.length := by
        rw [strLen_append, strLen_append]
        have : (((if k > 0 then ", " else "" : String) : Str)).length ≤ 2 := by split <;> decide
        omega
      show (textFrom (k + 1) (acc ++ (if k > 0 then ", " else "" : String) ++ t) r).length ≤ _
      rw [piled_cons]; omega
  unfold listText
  rw [strLen_append]
  have := key (PyData.shownAll (D.pys l)) 0 "["
  have e1 : ((("[" : String) : Str)).length = 1 := rfl
  have e3 : ((("]" : String) : Str)).length = 1 := rfl
  omega
theorem pl_int {i : Int} (h : -64 ≤ i) (h2 : i ≤ 64) : Pl 0 3 (.int i) := by
  have key : ∀ n : Fin 129, ((D.int ((n.val : Int) - 64)).py.showable && decide ((D.int ((n.val : Int) - 64)).py.shown.length ≤ 3)) = true := by decide +kernel
  have := key ⟨(i + 64).toNat, by omega⟩
  have e : (((i + 64).toNat : Nat) : Int) - 64 = i := by omega
  simp only [e, Bool.and_eq_true, decide_eq_true_eq] at this
  exact ⟨rfl, this.1, this.2⟩
theorem pl_dec {k n : Nat} {d : D} (h : (D.ok k d && d.py.showable && decide (d.py.shown.length ≤ n)) = true) : Pl k n d := by
  simp only [Bool.and_eq_true, decide_eq_true_eq] at h
  exact ⟨h.1.1, h.1.2, h.2⟩
/-! ### sameness -/
mutual
theorem ok_plain : ∀ (d : D) {k : Nat}, D.ok k d = true → PyData.eqv d.py d.py = true
  | .none, _, _ => rfl
  | .bool b, _, _ => by simp [D.py, PyData.eqv]
  | .int b, _, _ => by simp [D.py, PyData.eqv]
  | .str b, _, _ => by simp [D.py, PyData.eqv]
  | .tup l, k, h => by
    cases k with
    | zero => cases h
    | succ k => rw [D.py, PyData.eqv]; exact oks_plain l h
  | .lst l, k, h => by
    cases k with
    | zero => cases h
    | succ k => rw [D.py, PyData.eqv]; exact oks_plain l h
  | .scr l, k, h => by
    cases k with
    | zero => cases h
    | succ k => rw [D.py, PyData.eqv]; exact oks_plain l h
  | .dct _ _, k, h => by cases k <;> cases h
  | .obj _ _, k, h => by cases k <;> cases h
theorem oks_plain : ∀ (l : List D) {k : Nat}, l.all (D.ok k) = true → PyData.eqvAll (D.pys l) (D.pys l) = true
  | [], _, _ => rfl
  | d :: l, k, h => by
    rw [List.all_cons, Bool.and_eq_true] at h
    rw [D.pys, PyData.eqvAll, ok_plain d h.1, oks_plain l h.2]; rfl
end
theorem eq_refl {d : D} {k : Nat} (h : D.ok k d = true) : D.eq d d = true := ok_plain d h
end PX

end

set_option Elab.async false
set_option linter.all false
set_option maxRecDepth 100000
namespace PX
open PySem
end PX
open PySem PX
local macro_rules
  | `(tactic| walk_at "ex") => `(tactic| first
  | ((with_reducible refine' ws_ret_val ?h ?_); (case h => exact rfl))
  | ((with_reducible refine' ws_ret_own ?h ?_); (case h => exact rfl))
  | ((with_reducible refine' wd_val ?h ?_); (case h => exact rfl))
  | ((with_reducible refine' wd_own ?h ?_); (case h => exact rfl))
  | ((with_reducible refine' w2_val ?h ?_); (case h => exact rfl))
  | ((with_reducible refine' w2_own ?h ?_); (case h => exact rfl))
  | ((with_reducible refine' rd_val ?h ?_); (case h => exact rfl))
  | ((with_reducible refine' rd_own ?h ?_); (case h => exact rfl))
  | ((with_reducible refine' we_val ?h ?_); (case h => exact rfl))
  | ((with_reducible refine' we_own ?h ?_); (case h => exact rfl))
  | ((with_reducible refine' wr_val ?h ?_); (case h => exact rfl))
  | ((with_reducible refine' wr_own ?h ?_); (case h => exact rfl))
  | ((with_reducible refine' wa_val ?h ?_); (case h => exact rfl))
  | ((with_reducible refine' wa_own ?h ?_); (case h => exact rfl))
  | ((with_reducible refine' ix_of ?h ?_); (case h => exact rfl))
  | ((with_reducible refine' we_mut ?h ?_); (case h => exact rfl))
  | ((with_reducible refine' ag_val ?h ?_); (case h => exact rfl))
  | ((with_reducible refine' ag_own ?h ?_); (case h => exact rfl))
  | ((with_reducible refine' bt_name ?h ?_); (case h => exact rfl))
  | ((with_reducible refine' pa_cons' ?h ?_); (case h => exact rfl))
  | ((with_reducible refine' r1_of ?h ?_); (case h => exact rfl))
  | ((with_reducible refine' r2_of ?h ?_); (case h => exact rfl))
  | ((with_reducible refine' sl_of ?h ?_); (case h => exact rfl))
  | ((with_reducible refine' bf_of ?h ?_); (case h => exact rfl))
  | ((with_reducible refine ws_ret ?_ ?h); case h => exact rfl)
  | ((with_reducible refine wd_nv ?_ ?h); case h => exact rfl)
  | ((with_reducible refine w2_nv ?_ ?h); case h => exact rfl)
  | ((with_reducible refine wr_nv ?_ ?h); case h => exact rfl)
  | ((with_reducible refine wa_nv ?_ ?h); case h => exact rfl)
  | ((with_reducible refine we_cmp ?_ ?h); case h => exact rfl)
  | ((with_reducible refine wt_cmp ?_ ?h); case h => exact rfl)
  | ((with_reducible refine ag_nv ?_ ?h); case h => exact rfl)
  | (with_reducible refine ws_seq ?_)
  | (with_reducible refine ws_expr ?_)
  | (with_reducible refine ws_asg ?_)
  | (with_reducible refine ws_ite ?_)
  | (with_reducible refine ws_setI ?_)
  | (with_reducible refine th_nx ?_)
  | (with_reducible refine th_ret ?_)
  | (with_reducible refine th_bk ?_)
  | (with_reducible refine th_ct ?_)
  | (with_reducible refine ws_skip ?_)
  | (with_reducible refine ws_brk ?_)
  | (with_reducible refine ws_cont ?_)
  | (with_reducible refine we_int ?_)
  | (with_reducible refine we_str ?_)
  | (with_reducible refine we_bool ?_)
  | (with_reducible refine we_none ?_)
  | (with_reducible refine we_glob ?_)
  | (with_reducible refine we_bin ?_)
  | (with_reducible refine we_idx ?_)
  | (with_reducible refine we_bi ?_)
  | (with_reducible refine we_tup ?_)
  | (with_reducible refine we_lst ?_)
  | (with_reducible refine we_call ?_)
  | (with_reducible refine we_slice ?_)
  | (with_reducible refine we_ite ?_)
  | (with_reducible refine we_and ?_)
  | (with_reducible refine we_or ?_)
  | (with_reducible refine we_not ?_)
  | (with_reducible refine we_neg ?_)
  | (with_reducible refine wt_and ?_)
  | (with_reducible refine wt_or ?_)
  | (with_reducible refine wt_not ?_)
  | (with_reducible refine wt_cmp2 ?_)
  | (with_reducible refine wt_isN ?_)
  | (with_reducible refine wt_notN ?_)
  | (with_reducible refine wt_tval ?_)
  | (with_reducible refine we_isN ?_)
  | (with_reducible refine we_notN ?_)
  | (with_reducible refine we_cmp2 ?_)
  | (with_reducible refine wl_nil ?_)
  | (with_reducible refine wl_cons ?_)
  | (with_reducible refine wr_nil ?_)
  | (with_reducible refine wa_nil ?_)
  | (with_reducible refine wo_nil ?_)
  | (with_reducible refine wo_val ?_)
  | (with_reducible refine wc_nil ?_)
  | (with_reducible refine wc_cons ?_)
  | (with_reducible refine wi_seq ?_)
  | (with_reducible refine wi_rng1 ?_)
  | (with_reducible refine wi_rng2 ?_)
  | (with_reducible refine wi_enum ?_)
  | (with_reducible refine wi_zip ?_)
  | (with_reducible refine wi_zipN ?_)
  | (with_reducible refine as_tup ?_)
  | (with_reducible refine bo_addI ?_)
  | (with_reducible refine bo_subI ?_)
  | (with_reducible refine co_eqI ?_)
  | (with_reducible refine co_neI ?_)
  | (with_reducible refine co_ltI ?_)
  | (with_reducible refine co_leI ?_)
  | (with_reducible refine co_gtI ?_)
  | (with_reducible refine co_geI ?_)
  | (with_reducible refine tr_b ?_)
  | (with_reducible refine tr_int ?_)
  | (with_reducible refine tr_lst ?_)
  | (with_reducible refine tr_tup ?_)
  | (with_reducible refine tr_none ?_)
  | (with_reducible refine sq_lst ?_)
  | (with_reducible refine sq_tup ?_)
  | (with_reducible refine sq_scr ?_)
  | (with_reducible refine bt_tup ?_)
  | (with_reducible refine pa_nil' ?_)
  | ((with_reducible refine' we_bm ?h ?_); (case h => exact rfl))
  | ((with_reducible refine' we_bmK ?h ?_); (case h => exact rfl))
  | (with_reducible refine we_compV ?_)
  | (with_reducible refine ws_forV ?_)
  | (with_reducible refine ws_raise ?_)
  | (with_reducible refine ng_of ?_)
  | (with_reducible refine oi_of ?_)
  | (with_reducible refine zn_of ?_)
  | (with_reducible refine zp_T ?_)
  | (with_reducible refine zp_L ?_)
  | (with_reducible refine bf_len ?_)
  | (with_reducible refine bf_lenT ?_)
  | (with_reducible refine bf_intB ?_)
  | (with_reducible refine bf_tupL ?_)
  | (with_reducible refine if_t ?_)
  | (with_reducible refine if_f ?_)
  | ((with_reducible refine as_val ?ho ?h ?_); (case ho => exact rfl); (case h => exact rfl); (try dsimp only [List.set_cons_zero, List.set_cons_succ]))
  | ((with_reducible refine as_own ?ho ?h ?_); (case ho => exact rfl); (case h => exact rfl); (try dsimp only [List.set_cons_zero, List.set_cons_succ]))
  | ((with_reducible refine' si_of ?h ?h2 ?_); (case h => exact rfl); (case h2 => exact rfl); (try dsimp only [List.set_cons_zero, List.set_cons_succ]))
  | ((with_reducible refine' mi_of ?h ?h2 ?_); (case h => exact rfl); (case h2 => exact rfl); (try dsimp only [List.set_cons_zero, List.set_cons_succ]))
  | ((with_reducible refine' bo_modI ?z ?_); (case z => first | omega | decide))
  | ((with_reducible refine' bo_divI ?z ?_); (case z => (simp only [Bool.and_eq_true, decide_eq_true_eq]; omega)))
  | ((with_reducible refine' bo_powI ?z ?_); (case z => rfl))
  | ((with_reducible refine' bo_mulI ?z ?_); (case z => first | rfl | exact i64_fm (by decide) (by decide) | (simp only [i64, Bool.or_eq_true, Bool.and_eq_true, decide_eq_true_eq]; omega))))
namespace PX
end PX

section
set_option Elab.async false
set_option linter.all false
set_option maxRecDepth 100000
set_option maxHeartbeats 1000000
namespace PX
open PySem
/-! ### the laws' feed -/
def feedB : S := (.ret (.lst (.cons (.bin .add (.slice (.var 0) .nil (.tval (.int 63))) (.bin .mul (.lst (.cons (.int 0) .nil)) (.bi .int (.cons (.cmp .eq (.var 0) (.lst .nil)) .nil)))) (.cons (.int 0) (.cons (.int 0) .nil)))))
def takeB : S := (.seq (.ite (.cmp .gt (.idx (.var 0) (.int 2)) (.int 0)) (.seq (.asg false (.name 5) (.bin .mod (.idx (.var 0) (.int 2)) (.var 1))) (.seq (.setI 0 (.int 2) (.bin .fdiv (.idx (.var 0) (.int 2)) (.var 1))) (.ret (.var 5)))) .skip) (.seq (.asg false (.name 2) (.idx (.var 0) (.int 1))) (.seq (.setI 0 (.int 1) (.bin .add (.var 2) (.int 1))) (.seq (.asg false (.name 3) (.idx (.idx (.var 0) (.int 0)) (.bin .mod (.var 2) (.bi .len (.cons (.idx (.var 0) (.int 0)) .nil))))) (.seq (.ite (.and (.cmp .ge (.var 3) (.bin .pow (.int 10) (.int 18))) (.cmp .lt (.var 2) (.bi .len (.cons (.idx (.var 0) (.int 0)) .nil)))) (.seq (.setI 0 (.int 2) (.bin .fdiv (.var 3) (.var 1))) (.ret (.bin .mod (.var 3) (.var 1)))) .skip) (.seq (.asg false (.name 4) (.bin .mod (.bin .mul (.bin .add (.bin .add (.bin .add (.bin .mod (.var 3) (.int 1000003)) (.bin .mul (.bin .mul (.int 37) (.var 2)) (.var 2))) (.bin .mul (.int 11) (.var 2))) (.int 5)) (.int 48271)) (.int 2147483629))) (.seq (.asg false (.name 4) (.bin .mod (.bin .add (.bin .add (.bin .mul (.var 4) (.var 4)) (.bin .mul (.int 30269) (.var 2))) (.int 17)) (.int 2147483587))) (.ret (.bin .mod (.bin .mod (.bin .add (.bin .mul (.var 4) (.int 69621)) (.var 2)) (.int 999979)) (.var 1))))))))))
theorem take_body {C : Call} {G : Nat → D} {cs : List Int} {sp lf m B : Int} (f : FeedOk cs sp lf B) (hB : B < 2 ^ 40) (hm : 0 < m) (hm2 : m < 1000000000) (E : EQ) :
    Ws C G takeB [.own true (feedD cs sp lf), .val (.int m), .unset, .unset, .unset, .unset] (fun fl ρ => ∃ r sp' lf', fl = .ret (.int r) false ∧ ρ.take 2 = [.own true (feedD cs sp' lf'), .val (.int m)] ∧ 0 ≤ r ∧ r < m ∧ FeedOk cs sp' lf' (B + 1)) E := by
  obtain ⟨h1, h2, h3, h4, h5⟩ := f
  unfold takeB feedD
  repeat walk_at "ex"
  refine if_dec (fun hp => ?_) (fun hp => ?_)
  · repeat walk_at "ex"
    exact ⟨_, _, _, rfl, rfl, (fm_bd hm).1, (fm_bd hm).2, ⟨h1, h2, h3, by omega, fd_nn hm h5⟩⟩
  · repeat walk_at "ex"
    refine bo_modI (by simp only [List.length_map]; omega) ?_
    obtain ⟨c, hc⟩ := at_fm (a := sp) h1
    refine ix_of hc ?_
    repeat walk_at "ex"
    refine if_dec (fun hq => ?_) (fun hq => ?_)
    · repeat walk_at "ex"
      refine if_dec (fun hs => ?_) (fun hs => ?_)
      · repeat walk_at "ex"
        exact ⟨_, _, _, rfl, rfl, (fm_bd hm).1, (fm_bd hm).2, ⟨h1, h2, by omega, by omega, fd_nn hm (by have : (0:Int) ≤ 10 ^ (18:Int).toNat := by decide
                                                                                                        omega)⟩⟩
      · repeat walk_at "ex"
        exact ⟨_, _, _, rfl, rfl, (fm_bd hm).1, (fm_bd hm).2, ⟨h1, h2, by omega, by omega, h5⟩⟩
    · repeat walk_at "ex"
      exact ⟨_, _, _, rfl, rfl, (fm_bd hm).1, (fm_bd hm).2, ⟨h1, h2, by omega, by omega, h5⟩⟩
def IntIn (m : Int) (d : D) : Prop := ∃ i, d = .int i ∧ 0 ≤ i ∧ i < m
theorem take_fd {T : List FD} {G : Nat → D} {n t : Nat} (hT : T[t]? = some ⟨2, 6, takeB⟩) {m : Int} (hm : 0 < m) (hm2 : m < 1000000000) : FdC (callN T G (n + 1)) t [.int m] 1 false (IntIn m) := by
  intro d B hd hB
  obtain ⟨cs, sp, lf, rfl, hf⟩ := hd
  refine wpC_call hT rfl ?_
  refine wp_mono (take_body (C := callN T G n) (G := G) hf (by omega) hm hm2 no) (fun fl ρ q => ?_) fun _ _ h => h
  obtain ⟨r, sp', lf', rfl, h2, h3, h4, h5⟩ := q
  exact ⟨rfl, ⟨r, rfl, h3, h4⟩, _, _, ⟨cs, sp', lf', rfl, h5⟩, h2, rfl⟩
theorem feed_ok {T : List FD} {G : Nat → D} {n t : Nat} (hT : T[t]? = some ⟨1, 1, feedB⟩) {ns : List Int} (hl : ns.length ≤ 63) : VC (callN T G (n + 1)) t [.scr (ns.map .int)] (fun r fr => fr = true ∧ Fd 0 r) no := by
  refine wpC_call hT rfl ?_
  show Ws (callN T G n) G feedB [.val (.scr (ns.map .int))] _ no
  have oki : ∀ l : List Int, (l.map D.int).all (D.ok 59) = true := by
    intro l
    rw [List.all_map, List.all_eq_true]; intro x _; rfl
  have cl : cut (ns.map D.int) none (some 63) = ns.map .int := by
    unfold cut HT.sIx
    simp only [List.length_map]
    rw [List.take_of_length_le (by simp; omega)]
    simp [HT.sIx]
  have ee : D.eq (.scr (ns.map .int)) (.lst []) = ns.isEmpty := by cases ns <;> rfl
  unfold feedB
  repeat walk_at "ex"
  refine co_eq (by rw [show D.ok 60 (.scr (ns.map .int)) = (ns.map D.int).all (D.ok 59) from rfl, oki]; rfl) ?_
  rw [ee, cl]
  repeat walk_at "ex"
  refine bo_mulL (by cases ns.isEmpty <;> rfl) ?_
  repeat walk_at "ex"
  refine bo_addL (by simp only [List.length_map]; unfold lim; cases ns.isEmpty <;> simp <;> omega) ?_
  repeat walk_at "ex"
  refine ⟨⟨rfl, ns ++ (if ns.isEmpty then [0] else []), 0, 0, ?_, ⟨?_, ?_, by omega, by omega, by omega⟩⟩, rfl⟩
  · unfold feedD
    cases ns <;> simp
  · cases ns <;> simp
  · cases ns with
    | nil => simp
    | cons a r => simp only [List.isEmpty_cons, List.length_append]; simp at hl ⊢; omega
end PX

end

set_option Elab.async false
set_option linter.all false
set_option maxRecDepth 100000
namespace PX
open PySem
theorem fdC_intro2 {T : List FD} {G : Nat → D} {n f : Nat} {fd : FD} {as : List D} {c : Int} {fr : Bool} {P : D → Prop} (hT : T[f]? = some fd) (hl : as.length + 1 = fd.np)
    (h : ∀ d B, Fd B d → B + c < 2 ^ 40 → Ws (callN T G n) G fd.body (.own true d :: as.map .val ++ List.replicate (fd.ns - fd.np) .unset) (fun fl ρ => ∃ r d', fl = .ret r fr ∧ P r ∧ Fd (B + c) d' ∧ ∃ rest, ρ.take fd.np = .own true d' :: rest ∧ rest.length = as.length) no) : FdC (callN T G (n + 1)) f as c fr P := by
  intro d B hd hB
  refine wpC_call hT (by simp [hl]) ?_
  have e : (Cell.own true d :: as.map Cell.val).map markC = .own true d :: as.map .val := by
    show Cell.own true d :: (as.map Cell.val).map markC = _
    rw [List.map_map]; rfl
  rw [e]
  refine wp_mono (h d B hd hB) (fun fl ρ q => ?_) fun _ _ h => h
  obtain ⟨r, d', rfl, h1, h2, rest, h3, h4⟩ := q
  exact ⟨rfl, h1, d', rest, h2, h3, h4⟩
theorem fdC_intro {T : List FD} {G : Nat → D} {n f : Nat} {fd : FD} {as : List D} {c : Int} {fr : Bool} {P : D → Prop} (hT : T[f]? = some fd) (hl : as.length + 1 = fd.np)
    (h : ∀ d B, Fd B d → B + c < 2 ^ 40 → Ws (callN T G n) G fd.body (.own true d :: as.map .val ++ List.replicate (fd.ns - fd.np) .unset) (fun fl ρ => ∃ r d', fl = .ret r fr ∧ P r ∧ Fd (B + c) d' ∧ ρ.take fd.np = .own true d' :: as.map .val) no) : FdC (callN T G (n + 1)) f as c fr P :=
  fdC_intro2 hT hl fun d B hd hB => wp_mono (h d B hd hB) (fun fl ρ q => by
    obtain ⟨r, d', h0, h1, h2, h3⟩ := q
    exact ⟨r, d', h0, h1, h2, _, h3, by simp⟩) fun _ _ h => h
theorem vC_intro {T : List FD} {G : Nat → D} {n f : Nat} {fd : FD} {as : List D} {Q : D → Bool → Prop} {X : EQ} (hT : T[f]? = some fd) (hl : as.length = fd.np)
    (h : Ws (callN T G n) G fd.body (as.map .val ++ List.replicate (fd.ns - fd.np) .unset) (fun fl ρ => ∃ r fr, fl = .ret r fr ∧ Q r fr ∧ (ρ.take fd.np).length = fd.np) X) : VC (callN T G (n + 1)) f as Q X := by
  refine wpC_call hT (by simp [hl]) ?_
  have e : (as.map Cell.val).map markC = as.map .val := by rw [List.map_map]; rfl
  rw [e]
  refine wp_mono h (fun fl ρ q => ?_) fun _ _ h => h
  obtain ⟨r, d', rfl, h1, h2⟩ := q
  exact ⟨h1, by rw [h2, hl]⟩
theorem plC {k1 k2 a b : Nat} {d : D} {l : List D} (h : Pl k1 a d) (h2 : PlL k2 b l) : PlL (max k1 k2) (a + 2 + b) (d :: l) := plL_cons (h.mono (Nat.le_max_left _ _) (Nat.le_refl _)) (h2.mono (Nat.le_max_right _ _) (Nat.le_refl _))
theorem pl_str {s : Str} (h : (PyData.strOk s && decide ((PyData.str s).shown.length ≤ 8)) = true) : Pl 0 8 (.str s) := by
  rw [Bool.and_eq_true] at h
  exact ⟨h.1, rfl, of_decide_eq_true h.2⟩
theorem pl_bool {b : Bool} : Pl 0 5 (.bool b) := by cases b <;> exact pl_dec (by decide +kernel)
theorem pl_none : Pl 0 4 .none := pl_dec (by decide +kernel)
theorem plL_nil0 : PlL 0 0 [] := plL_nil
abbrev TkC (C : Call) (t : Nat) : Prop := ∀ m : Int, 0 < m → m < 1000000000 → FdC C t [.int m] 1 false (IntIn m)
section
variable {C : Call} {f : Nat} {c B : Int} {fr p : Bool} {P : D → Prop} {ρ : Ev} {i : Nat} {d a1 a2 a3 a4 : D} {K : D × Bool → Ev → Prop} {X : EQ} {m : Int}
theorem call_tk (h : TkC C f) (hρ : ρ[i]? = some (.own p d)) (hF : Fd B d) (hm : 0 < m) (hm2 : m < 1000000000) (hB : B + 1 < 2 ^ 40) (k : ∀ (r : Int) d', 0 ≤ r → r < m → Fd (B + 1) d' → K (.int r, false) (ρ.set i (.own p d'))) : wp (doCall C f [.slot i, .val (.int m)] ρ) K X :=
  call_fd (h m hm hm2) rfl hρ hF hB fun r d' ⟨i, e, h0, h1⟩ hF => by subst e; exact k i d' h0 h1 hF
theorem call_fd0 (h : FdC C f [] c fr P) (hρ : ρ[i]? = some (.own p d)) (hF : Fd B d) (hB : B + c < 2 ^ 40) (k : ∀ r d', P r → Fd (B + c) d' → K (r, fr) (ρ.set i (.own p d'))) : wp (doCall C f [.slot i] ρ) K X := call_fd h rfl hρ hF hB k
theorem call_fd1 (h : FdC C f [a1] c fr P) (hρ : ρ[i]? = some (.own p d)) (hF : Fd B d) (hB : B + c < 2 ^ 40) (k : ∀ r d', P r → Fd (B + c) d' → K (r, fr) (ρ.set i (.own p d'))) : wp (doCall C f [.slot i, .val a1] ρ) K X := call_fd h rfl hρ hF hB k
theorem call_fd2 (h : FdC C f [a1, a2] c fr P) (hρ : ρ[i]? = some (.own p d)) (hF : Fd B d) (hB : B + c < 2 ^ 40) (k : ∀ r d', P r → Fd (B + c) d' → K (r, fr) (ρ.set i (.own p d'))) : wp (doCall C f [.slot i, .val a1, .val a2] ρ) K X := call_fd h rfl hρ hF hB k
theorem call_fd3 (h : FdC C f [a1, a2, a3] c fr P) (hρ : ρ[i]? = some (.own p d)) (hF : Fd B d) (hB : B + c < 2 ^ 40) (k : ∀ r d', P r → Fd (B + c) d' → K (r, fr) (ρ.set i (.own p d'))) : wp (doCall C f [.slot i, .val a1, .val a2, .val a3] ρ) K X := call_fd h rfl hρ hF hB k
theorem call_fd4 (h : FdC C f [a1, a2, a3, a4] c fr P) (hρ : ρ[i]? = some (.own p d)) (hF : Fd B d) (hB : B + c < 2 ^ 40) (k : ∀ r d', P r → Fd (B + c) d' → K (r, fr) (ρ.set i (.own p d'))) : wp (doCall C f [.slot i, .val a1, .val a2, .val a3, .val a4] ρ) K X := call_fd h rfl hρ hF hB k
theorem ix_n {l : List D} {j : Int} {k : D → Prop} (h0 : 0 ≤ j) (h1 : j < (l.length : Nat)) (h : ∀ (n : Nat) (hn : n < l.length), j = (n : Nat) → k l[n]) : Ix (.lst l) (.int j) k ∧ Ix (.tup l) (.int j) k := by
  obtain ⟨n, rfl⟩ := Int.eq_ofNat_of_zero_le h0
  have hn : n < l.length := by omega
  have := at_nat (l := l) (n := n) (d := l[n]) (List.getElem?_eq_getElem hn)
  exact ⟨⟨_, getIx_at this.1, h n hn rfl⟩, ⟨_, getIx_at this.2.1, h n hn rfl⟩⟩
theorem ix_2 {x y : D} {j : Int} {k : D → Prop} (h0 : 0 ≤ j) (h1 : j < 2) (hx : j = 0 → k x) (hy : j = 1 → k y) : Ix (.lst [x, y]) (.int j) k := by
  refine (ix_n h0 (by simp only [List.length_cons, List.length_nil]; omega) fun n hn e => ?_).1
  match n, hn with
  | 0, _ => exact hx e
  | 1, _ => exact hy e
theorem ix_3 {x y z : D} {j : Int} {k : D → Prop} (h0 : 0 ≤ j) (h1 : j < 3) (hx : j = 0 → k x) (hy : j = 1 → k y) (hz : j = 2 → k z) : Ix (.lst [x, y, z]) (.int j) k := by
  refine (ix_n h0 (by simp only [List.length_cons, List.length_nil]; omega) fun n hn e => ?_).1
  match n, hn with
  | 0, _ => exact hx e
  | 1, _ => exact hy e
  | 2, _ => exact hz e
theorem ix_4 {x y z u : D} {j : Int} {k : D → Prop} (h0 : 0 ≤ j) (h1 : j < 4) (hx : j = 0 → k x) (hy : j = 1 → k y) (hz : j = 2 → k z) (hu : j = 3 → k u) : Ix (.lst [x, y, z, u]) (.int j) k := by
  refine (ix_n h0 (by simp only [List.length_cons, List.length_nil]; omega) fun n hn e => ?_).1
  match n, hn with
  | 0, _ => exact hx e
  | 1, _ => exact hy e
  | 2, _ => exact hz e
  | 3, _ => exact hu e
theorem ix_fm {x y : D} {j : Int} {k : D → Prop} (hx : k x) (hy : k y) : Ix (.lst [x, y]) (.int (j.fmod 2)) k := ix_2 (fm_bd (by decide)).1 (fm_bd (by decide)).2 (fun _ => hx) (fun _ => hy)
theorem co_eqS {x y : Str} {b : Bool} {kb : Bool → Prop} (h : (PyData.strOk x && PyData.strOk y && (x == y) == b) = true) (h2 : kb b) : Co .eq (.str x) (.str y) kb := by
  simp only [Bool.and_eq_true, beq_iff_eq] at h
  refine co_eq ?_ ?_
  · show (PyData.strOk x && PyData.strOk y) = true
    rw [h.1.1, h.1.2]; rfl
  · have : D.eq (.str x) (.str y) = b := h.2
    rw [this]; exact h2
end
theorem if_nf {A B : Prop} (h : A) : if (!false) = true then A else B := h
theorem if_nt {A B : Prop} (h : B) : if (!true) = true then A else B := h
theorem if_ndec {q : Prop} [Decidable q] {A B : Prop} (h1 : ¬ q → A) (h2 : q → B) : if (!decide q) = true then A else B := by
  by_cases h : q
  · rw [decide_eq_true h]; exact h2 h
  · rw [decide_eq_false h]; exact h1 h
theorem ws_cut {C : Call} {G : Nat → D} {s r : S} {ρ : Ev} {K : Fl → Ev → Prop} {X : EQ} (M : Ev → Prop) (h : Ws C G s ρ (fun fl ρ => fl = .nx ∧ M ρ) X) (k : ∀ ρ, M ρ → Ws C G r ρ K X) : Ws C G (.seq s r) ρ K X := by
  refine ws_seq (wp_mono h (fun fl ρ ⟨e, m⟩ => ?_) fun _ _ h => h)
  subst e; exact k ρ m
theorem ws_assoc {C : Call} {G : Nat → D} {a b r : S} {ρ : Ev} {K : Fl → Ev → Prop} {X : EQ} (h : Ws C G (.seq (.seq a b) r) ρ K X) : Ws C G (.seq a (.seq b r)) ρ K X := by
  have e : evS C G (.seq (.seq a b) r) ρ = evS C G (.seq a (.seq b r)) ρ := by
    show ((evS C G a ρ).bind fun fl ρ => _).bind _ = (evS C G a ρ).bind _
    cases evS C G a ρ with
    | ok fl ρ => cases fl <;> rfl
    | exc c fs => rfl
    | bad => rfl
  unfold Ws at h ⊢
  rw [← e]; exact h
theorem ws_cut2 {C : Call} {G : Nat → D} {a b r : S} {ρ : Ev} {K : Fl → Ev → Prop} {X : EQ} (M : Ev → Prop) (h : Ws C G (.seq a b) ρ (fun fl ρ => fl = .nx ∧ M ρ) X) (k : ∀ ρ, M ρ → Ws C G r ρ K X) : Ws C G (.seq a (.seq b r)) ρ K X := ws_assoc (ws_cut M h k)
theorem ws_cut3 {C : Call} {G : Nat → D} {a b c r : S} {ρ : Ev} {K : Fl → Ev → Prop} {X : EQ} (M : Ev → Prop) (h : Ws C G (.seq a (.seq b c)) ρ (fun fl ρ => fl = .nx ∧ M ρ) X) (k : ∀ ρ, M ρ → Ws C G r ρ K X) : Ws C G (.seq a (.seq b (.seq c r))) ρ K X := ws_assoc (ws_cut2 M (by
  have := h
  unfold Ws at this ⊢
  have e : evS C G (.seq (.seq a b) c) ρ = evS C G (.seq a (.seq b c)) ρ := by
    show ((evS C G a ρ).bind fun fl ρ => _).bind _ = (evS C G a ρ).bind _
    cases evS C G a ρ with
    | ok fl ρ => cases fl <;> rfl
    | exc c fs => rfl
    | bad => rfl
  rw [e]; exact this) k)
end PX
open PySem PX
local macro_rules
  | `(tactic| walk_at "plc") => `(tactic| repeat first
  | assumption
  | exact plL_nil0
  | exact pl_bool
  | exact pl_none
  | exact pl_int (by omega) (by omega)
  | exact pl_str (by decide +kernel)
  | apply plC
  | apply pl_tup
  | apply pl_lst)
namespace PX
end PX
open PySem PX
local macro_rules
  | `(tactic| walk_at "pl") => `(tactic| (apply Pl.mono; (case h => walk_at "plc"); (case hk => decide); (case hn => decide)))
namespace PX
end PX
open PySem PX
local macro_rules
  | `(tactic| walk_at "ig") => `(tactic| first
  | (intro r d' h0 h1 hF)
  | (intro r d' hr hF))
namespace PX
end PX
open PySem PX
local macro_rules
  | `(tactic| walk_at "cl") => `(tactic| first
  | ((with_reducible refine' call_tk ?h ?hr ?hf ?hm ?hm2 ?hb ?hk); (case h => assumption); (case hr => exact rfl); (case hf => assumption); (case hm => first | decide | omega); (case hm2 => first | decide | omega); (case hb => omega); intro r d' h0 h1 hF)
  | ((with_reducible refine' call_fd4 ?h ?hr ?hf ?hb ?hk); (case h => assumption); (case hr => exact rfl); (case hf => assumption); (case hb => omega); intro r d' hr hF)
  | ((with_reducible refine' call_fd3 ?h ?hr ?hf ?hb ?hk); (case h => assumption); (case hr => exact rfl); (case hf => assumption); (case hb => omega); intro r d' hr hF)
  | ((with_reducible refine' call_fd2 ?h ?hr ?hf ?hb ?hk); (case h => assumption); (case hr => exact rfl); (case hf => assumption); (case hb => omega); intro r d' hr hF)
  | ((with_reducible refine' call_fd1 ?h ?hr ?hf ?hb ?hk); (case h => assumption); (case hr => exact rfl); (case hf => assumption); (case hb => omega); intro r d' hr hF)
  | ((with_reducible refine' call_fd0 ?h ?hr ?hf ?hb ?hk); (case h => assumption); (case hr => exact rfl); (case hf => assumption); (case hb => omega); intro r d' hr hF))
namespace PX
end PX
open PySem PX
local macro_rules
  | `(tactic| walk_at "ix") => `(tactic| first
  | (with_reducible refine' ix_fm ?_ ?_)
  | ((with_reducible refine' ix_2 ?h0 ?h1 (fun _ => ?_) (fun _ => ?_)); (case h0 => omega); (case h1 => omega))
  | ((with_reducible refine' ix_3 ?h0 ?h1 (fun _ => ?_) (fun _ => ?_) (fun _ => ?_)); (case h0 => omega); (case h1 => omega))
  | ((with_reducible refine' ix_4 ?h0 ?h1 (fun _ => ?_) (fun _ => ?_) (fun _ => ?_) (fun _ => ?_)); (case h0 => omega); (case h1 => omega)))
namespace PX
end PX
open PySem PX
local macro_rules
  | `(tactic| walk_at "nb") => `(tactic| dsimp only [back, wipe, List.set_cons_zero, List.set_cons_succ, List.getD_cons_zero, List.getD_cons_succ])
namespace PX
end PX
open PySem PX
local macro_rules
  | `(tactic| walk_at "fe") => `(tactic| exact ⟨_, Fd.mono ‹Fd _ _› (by omega), rfl⟩)
namespace PX
end PX
open PySem PX
local macro_rules
  | `(tactic| walk_at "go") => `(tactic| repeat' (first
  | walk_at "ex"
  | walk_at "cl"
  | ((with_reducible refine if_dec (fun _ => ?_) (fun _ => ?_)) <;> (try (exfalso; omega)))
  | (with_reducible refine if_nf ?_)
  | (with_reducible refine if_nt ?_)
  | ((with_reducible refine if_ndec (fun _ => ?_) (fun _ => ?_)) <;> (try (exfalso; omega)))
  | walk_at "ix"
  | ((with_reducible refine' co_eqS (b := true) ?h ?_); (case h => decide +kernel))
  | ((with_reducible refine' co_eqS (b := false) ?h ?_); (case h => decide +kernel))))
namespace PX
end PX
open PySem PX
local macro_rules
  | `(tactic| walk_at "fin") => `(tactic| first
  | (refine ⟨_, _, rfl, ?_, ?_, rfl⟩; (· walk_at "pl"); (· exact Fd.mono ‹Fd _ _› (by omega)))
  | (exfalso; omega))
namespace PX
end PX

set_option Elab.async false
set_option linter.all false
set_option maxRecDepth 100000
namespace PX
open PySem
theorem mi_app {n : Nat} {p : Bool} {l : List D} {d : D} {ρ : Ev} {kk : D → Ev → Prop} (h : ρ[n]? = some (.own p (.lst l))) (hl : l.length < lim) (k : kk .none (ρ.set n (.own p (.lst (l ++ [d]))))) : Mi .append n [d] ρ kk :=
  ⟨_, _, h, _, by show (if _ then _ else _) = _; rw [if_pos hl], k⟩
theorem mem_app {α : Type} {P : α → Prop} {l : List α} {x : α} (h : ∀ y ∈ l, P y) (hx : P x) : ∀ y ∈ l ++ [x], P y := by
  intro y hy
  rcases List.mem_append.mp hy with hy | hy
  · exact h y hy
  · rw [List.mem_singleton.mp hy]; exact hx
theorem back_app {ρ ρ1 ρ2 : Ev} {vs ws : List Nat} (h : wipe ρ1 vs = wipe ρ2 vs) : back ρ ρ1 (vs ++ ws) = back ρ ρ2 (vs ++ ws) := by
  have hl : ρ1.length = ρ2.length := by have := congrArg List.length h; rwa [mw_len, mw_len] at this
  apply List.ext_getElem?
  intro j
  by_cases hj : j < ρ1.length
  · rw [mb_get _ _ _ _ hj, mb_get _ _ _ _ (hl ▸ hj)]
    by_cases m : j ∈ vs ++ ws
    · rw [if_pos m, if_pos m]
    · rw [if_neg m, if_neg m]
      have m' : j ∉ vs := fun q => m (List.mem_append.mpr (.inl q))
      have := congrArg (fun l : Ev => l[j]?) h
      simp only [mw_get _ _ _ hj, mw_get _ _ _ (hl ▸ hj), if_neg m'] at this
      exact this
  · rw [List.getElem?_eq_none (by rw [mb_len]; omega), List.getElem?_eq_none (by rw [mb_len]; omega)]
theorem comp_pureW {C : Call} {G : Nat → D} {e c : E} {t : Tg} {vs : List Nat} {ds : List D} {ρ : Ev} (F : D → D) (g : D → Bool) {Q : List D → Ev → Prop} {X : EQ}
    (step : ∀ x ∈ ds, wp (bindT t x (wipe ρ vs)) (fun _ ρ' => wp (evC C G c ρ') (fun b ρ' => b = g x ∧ if g x then We C G e ρ' (fun y ρ1 => y.1 = F x ∧ wipe ρ1 vs = wipe ρ vs) X else wipe ρ' vs = wipe ρ vs) X) X)
    (k : ∀ ρ', wipe ρ' vs = wipe ρ vs → Q ((ds.filter g).map F) ρ') :
    wp (compL (fun x ρ => (bindT t x (wipe ρ vs)).bind fun _ ρ => evC C G c ρ) (fun _ ρ => (ev C G e ρ).bind fun y ρ => .ok y.1 ρ) ds ρ) Q X := by
  refine wp_compL (fun done out ρ' => out = (done.filter g).map F ∧ wipe ρ' vs = wipe ρ vs) ds [] [] ρ ⟨rfl, rfl⟩ ?_ ?_
  · intro pre x post out ρ' hs ⟨h1, h4⟩
    have hx : x ∈ ds := by
      have : x ∈ [] ++ ds := by rw [hs]; simp
      simpa using this
    rw [wp_bind, h4]
    refine wp_mono (step x hx) (fun _ ρ1 q => ?_) fun _ _ h => h
    refine wp_mono q (fun b ρ2 ⟨hb, q⟩ => ?_) fun _ _ h => h
    subst hb
    cases hg : g x with
    | true =>
      rw [hg, if_pos rfl] at q
      rw [if_pos rfl, wp_bind]
      refine wp_mono q (fun y ρ2 ⟨hp, h6⟩ => ?_) fun _ _ h => h
      rw [wp_ok]
      exact ⟨by simp [h1, hp, hg], h6⟩
    | false =>
      rw [hg, if_neg Bool.false_ne_true] at q
      rw [if_neg Bool.false_ne_true]
      exact ⟨by simp [h1, hg], q⟩
  · intro r ρ' ⟨h1, h4⟩
    simp only [List.nil_append] at h1
    rw [h1]
    exact k ρ' h4
theorem cut_to {α : Type} (l : List α) (n : Nat) : cut l none (some (n : Int)) = l.take n := by
  unfold cut
  rw [HT.sIx_none, HT.sIx_nat, List.drop_zero, Nat.sub_zero]
  rcases Nat.le_total n l.length with h | h
  · rw [Nat.min_eq_left h]
  · rw [Nat.min_eq_right h, List.take_of_length_le (Nat.le_refl _), List.take_of_length_le h]
theorem cut_fr {α : Type} (l : List α) (n : Nat) : cut l (some (n : Int)) none = l.drop n := by
  unfold cut
  rw [HT.sIx_none, HT.sIx_nat]
  rcases Nat.le_total n l.length with h | h
  · rw [Nat.min_eq_left h, List.take_of_length_le (by rw [List.length_drop]; omega)]
  · rw [Nat.min_eq_right h, List.drop_eq_nil_of_le h, List.drop_eq_nil_of_le (Nat.le_refl _), List.take_nil]
theorem cut_m1 {α : Type} (l : List α) : cut l none (some (-1)) = l.take (l.length - 1) := by
  unfold cut
  rw [HT.sIx_none, List.drop_zero]
  have : HT.sIx l.length l.length (some (-1)) = l.length - 1 := by
    unfold HT.sIx
    simp only []
    rw [if_pos (by decide)]; omega
  rw [this]; rfl
theorem ix_last {l : List D} {k : D → Prop} (h : 0 < l.length) (hk : ∀ y ∈ l, k y) : Ix (.tup l) (.int (-1)) k := by
  have e : place l.length (-1) = some (l.length - 1) := by
    unfold place L2.ixN
    rw [if_neg (by decide), if_pos (by omega)]
    congr 1; omega
  refine ⟨l[l.length - 1]'(by omega), getIx_at ?_, hk _ (List.getElem_mem _)⟩
  show (place l.length (-1)).bind _ = _
  rw [e]
  exact List.getElem?_eq_getElem (by omega)
theorem ix_mem {l : List D} {j : Int} {k : D → Prop} (h0 : 0 ≤ j) (h1 : j < (l.length : Nat)) (h : ∀ y ∈ l, k y) : Ix (.tup l) (.int j) k := (ix_n h0 h1 fun n hn _ => h _ (List.getElem_mem hn)).2
/-- the first n + 1 statements, the rest -/
def h1N : Nat → S → S
  | 0, .seq a _ => a
  | n + 1, .seq a b => .seq a (h1N n b)
  | _, s => s
def t1N : Nat → S → S
  | 0, .seq _ b => b
  | n + 1, .seq _ b => t1N n b
  | _, _ => .skip
theorem evS_skip {C : Call} {G : Nat → D} {s : S} {ρ : Ev} : evS C G (.seq s .skip) ρ = evS C G s ρ := by
  show (evS C G s ρ).bind _ = _
  cases evS C G s ρ with
  | ok fl ρ => cases fl <;> rfl
  | exc c fs => rfl
  | bad => rfl
theorem ws_skipR {C : Call} {G : Nat → D} {s : S} {ρ : Ev} {K : Fl → Ev → Prop} {X : EQ} (h : Ws C G (.seq s .skip) ρ K X) : Ws C G s ρ K X := by
  unfold Ws at h ⊢
  rw [← evS_skip]; exact h
theorem ws_cutN {C : Call} {G : Nat → D} {X : EQ} (M : Ev → Prop) : ∀ (n : Nat) (s : S) {ρ : Ev} {K : Fl → Ev → Prop}, Ws C G (h1N n s) ρ (fun fl ρ => fl = .nx ∧ M ρ) X → (∀ ρ, M ρ → Ws C G (t1N n s) ρ K X) → Ws C G s ρ K X
  | 0, .seq a b, ρ, K, h, k => ws_cut M h k
  | n + 1, .seq a b, ρ, K, h, k => by
    have h' : Ws C G (.seq a (h1N n b)) ρ (fun fl ρ => fl = .nx ∧ M ρ) X := h
    refine ws_seq ?_
    have e : wp ((evS C G a ρ).bind fun fl ρ => match fl with
      | .nx => evS C G (h1N n b) ρ
      | .bk => .ok .bk ρ
      | .ct => .ok .ct ρ
      | .ret d fr => .ok (.ret d fr) ρ) (fun fl ρ => fl = .nx ∧ M ρ) X := h'
    rw [wp_bind] at e
    refine wp_mono e (fun fl ρ q => ?_) fun _ _ h => h
    cases fl with
    | nx => exact ws_cutN M n b q k
    | bk => exact absurd q.1 nofun
    | ct => exact absurd q.1 nofun
    | ret d fr => exact absurd q.1 nofun
  | 0, .skip, _, _, h, k => ws_skipR (ws_cut M h k)
  | 0, .expr _, _, _, h, k => ws_skipR (ws_cut M h k)
  | 0, .asg _ _ _, _, _, h, k => ws_skipR (ws_cut M h k)
  | 0, .setI _ _ _, _, _, h, k => ws_skipR (ws_cut M h k)
  | 0, .setA _ _ _, _, _, h, k => ws_skipR (ws_cut M h k)
  | 0, .ret _, _, _, h, k => ws_skipR (ws_cut M h k)
  | 0, .ite _ _ _, _, _, h, k => ws_skipR (ws_cut M h k)
  | 0, .for _ _ _, _, _, h, k => ws_skipR (ws_cut M h k)
  | 0, .while _ _, _, _, h, k => ws_skipR (ws_cut M h k)
  | 0, .raise _ _, _, _, h, k => ws_skipR (ws_cut M h k)
  | 0, .brk, _, _, h, k => ws_skipR (ws_cut M h k)
  | 0, .cont, _, _, h, k => ws_skipR (ws_cut M h k)
  | 0, .never, _, _, h, k => ws_skipR (ws_cut M h k)
  | 0, .tryR _ _ _ _ _ _, _, _, h, k => ws_skipR (ws_cut M h k)
  | _ + 1, .skip, _, _, h, k => ws_skipR (ws_cut M h k)
  | _ + 1, .expr _, _, _, h, k => ws_skipR (ws_cut M h k)
  | _ + 1, .asg _ _ _, _, _, h, k => ws_skipR (ws_cut M h k)
  | _ + 1, .setI _ _ _, _, _, h, k => ws_skipR (ws_cut M h k)
  | _ + 1, .setA _ _ _, _, _, h, k => ws_skipR (ws_cut M h k)
  | _ + 1, .ret _, _, _, h, k => ws_skipR (ws_cut M h k)
  | _ + 1, .ite _ _ _, _, _, h, k => ws_skipR (ws_cut M h k)
  | _ + 1, .for _ _ _, _, _, h, k => ws_skipR (ws_cut M h k)
  | _ + 1, .while _ _, _, _, h, k => ws_skipR (ws_cut M h k)
  | _ + 1, .raise _ _, _, _, h, k => ws_skipR (ws_cut M h k)
  | _ + 1, .brk, _, _, h, k => ws_skipR (ws_cut M h k)
  | _ + 1, .cont, _, _, h, k => ws_skipR (ws_cut M h k)
  | _ + 1, .never, _, _, h, k => ws_skipR (ws_cut M h k)
  | _ + 1, .tryR _ _ _ _ _ _, _, _, h, k => ws_skipR (ws_cut M h k)
end PX
open PySem PX
local macro_rules
  | `(tactic| walk_at "ln") => `(tactic| (simp only [List.length_append, List.length_cons, List.length_nil, List.length_map, List.length_singleton, lim, cut, List.length_take, List.length_drop, ← Int.natCast_add] at *; omega))
namespace PX
end PX
open PySem PX
local macro_rules
  | `(tactic| walk_at "ad") => `(tactic| first
  | ((with_reducible refine' bo_addT ?z ?_); (case z => walk_at "ln"))
  | ((with_reducible refine' bo_addL ?z ?_); (case z => walk_at "ln"))
  | ((with_reducible refine' bo_mulT ?z ?_); (case z => rfl)))
namespace PX
end PX
open PySem PX
local macro_rules
  | `(tactic| walk_at "gn") => `(tactic| repeat' (first
  | walk_at "ad"
  | walk_at "ex"
  | walk_at "cl"
  | ((with_reducible refine if_dec (fun _ => ?_) (fun _ => ?_)) <;> (try (exfalso; omega)))
  | (with_reducible refine if_nf ?_)
  | (with_reducible refine if_nt ?_)
  | ((with_reducible refine if_ndec (fun _ => ?_) (fun _ => ?_)) <;> (try (exfalso; omega)))
  | walk_at "ix"
  | ((with_reducible refine' co_eqS (b := true) ?h ?_); (case h => decide +kernel))
  | ((with_reducible refine' co_eqS (b := false) ?h ?_); (case h => decide +kernel))))
namespace PX
end PX

section
set_option Elab.async false
set_option linter.all false
set_option maxRecDepth 100000
namespace PX
open PySem
/-! ### a shown text is a text -/
theorem so_mem {x : Str} : PyData.strOk x = true ↔ ∀ c ∈ x.cps.toList, c < 0x110000 := by
  unfold PyData.strOk
  rw [Array.all_eq_true_iff_forall_mem]
  constructor
  · intro h c hc
    have := h c (Array.mem_toList_iff.mp hc)
    simpa using this
  · intro h c hc
    have := h c (Array.mem_toList_iff.mpr hc)
    simpa using this
theorem so_app {x y : Str} (h : PyData.strOk x = true) (h2 : PyData.strOk y = true) : PyData.strOk (x ++ y) = true := by
  rw [so_mem] at *
  intro c hc
  have e : (x ++ y).cps.toList = x.cps.toList ++ y.cps.toList := by
    show (x.cps ++ y.cps).toList = _
    simp
  rw [e] at hc
  rcases List.mem_append.mp hc with q | q
  · exact h c q
  · exact h2 c q
theorem so_str (s : String) : PyData.strOk (Str.ofString s) = true := by
  rw [so_mem, Str.ofString_eq_toList]
  intro c hc
  obtain ⟨a, _, rfl⟩ := List.mem_map.mp hc
  have := a.valid
  have h2 : a.toNat = a.val.toNat := rfl
  rcases this with q | q
  · rw [h2]; omega
  · rw [h2]; omega
theorem digit_so (c n : Nat) (h : n ∈ (Nat.toDigits 16 c).map Char.toNat) : n < 0x110000 := by
  obtain ⟨a, _, rfl⟩ := List.mem_map.mp h
  have := a.valid
  have h2 : a.toNat = a.val.toNat := rfl
  rcases this with q | q
  · rw [h2]; omega
  · rw [h2]; omega
theorem reprChar_so {q c : Nat} (hc : c < 0x110000) : ∀ n ∈ Builtin.Str.reprChar q c, n < 0x110000 := by
  intro n hn
  have hx : ∀ w, n ∈ List.replicate (w - ((Nat.toDigits 16 c).map Char.toNat).length) 48 ++ (Nat.toDigits 16 c).map Char.toNat → n < 0x110000 := by
    intro w h
    rcases List.mem_append.mp h with h | h
    · rw [(List.mem_replicate.mp h).2]; decide
    · exact digit_so c n h
  unfold Builtin.Str.reprChar at hn
  simp only [] at hn
  have sm : ∀ a b : Nat, a < 0x110000 → b < 0x110000 → n ∈ [a, b] → n < 0x110000 := by
    intro a b ha hb h
    simp only [List.mem_cons, List.not_mem_nil, or_false] at h
    rcases h with rfl | rfl <;> assumption
  split at hn
  · exact sm _ _ (by decide) hc hn
  split at hn
  · exact sm _ _ (by decide) (by decide) hn
  split at hn
  · exact sm _ _ (by decide) (by decide) hn
  split at hn
  · exact sm _ _ (by decide) (by decide) hn
  split at hn
  · rw [List.mem_singleton.mp hn]; exact hc
  split at hn
  · rcases List.mem_append.mp hn with h | h
    · exact sm _ _ (by decide) (by decide) h
    · exact hx _ h
  split at hn
  · rcases List.mem_append.mp hn with h | h
    · exact sm _ _ (by decide) (by decide) h
    · exact hx _ h
  · rcases List.mem_append.mp hn with h | h
    · exact sm _ _ (by decide) (by decide) h
    · exact hx _ h
theorem so_repr {x : Str} (h : PyData.strOk x = true) : PyData.strOk (reprText x) = true := by
  have key : ∀ (q : Nat) (l : List Nat) (acc : Array Nat), (∀ c ∈ l, c < 0x110000) → (∀ c ∈ acc.toList, c < 0x110000) → ∀ c ∈ (l.foldl (fun out c => out ++ (Builtin.Str.reprChar q c).toArray) acc).toList, c < 0x110000 := by
    intro q l
    induction l with
    | nil => intro acc _ h2 c hc; exact h2 c hc
    | cons a l ih =>
      intro acc h1 h2
      refine ih _ (fun c hc => h1 c (by simp [hc])) ?_
      intro c hc
      rw [Array.toList_append] at hc
      rcases List.mem_append.mp hc with w | w
      · exact h2 c w
      · exact reprChar_so (h1 a (by simp)) c (by simpa using w)
  have hq : reprQuote x < 0x110000 := by unfold reprQuote; split <;> decide
  rw [so_mem] at *
  intro c hc
  unfold reprText at hc
  simp only [Array.toList_push, ← Array.foldl_toList] at hc
  rcases List.mem_append.mp hc with w | w
  · exact key _ _ _ h (by intro c hc; simp at hc; rw [hc]; exact hq) c w
  · rw [List.mem_singleton.mp w]; exact hq
theorem so_join : ∀ {l : List Str}, (∀ t ∈ l, PyData.strOk t = true) → PyData.strOk (Str.join ", " l) = true
  | [], _ => by
    rw [so_mem]
    intro c hc
    cases hc
  | [x], h => h x (by simp)
  | x :: y :: r, h => so_app (so_app (h x (by simp)) (so_str ", ")) (so_join fun t ht => h t (by simp at ht ⊢; right; exact ht))
theorem so_tup {l : List Str} (h : ∀ t ∈ l, PyData.strOk t = true) : PyData.strOk (tupleText l) = true := so_app (so_app (so_str _) (so_join h)) (so_str _)
theorem so_from : ∀ {l : List Str} {k : Nat} {acc : Str}, PyData.strOk acc = true → (∀ t ∈ l, PyData.strOk t = true) → PyData.strOk (textFrom k acc l) = true
  | [], _, _, h, _ => h
  | t :: r, k, acc, h, h2 => so_from (l := r) (k := k + 1) (acc := acc ++ (if k > 0 then ", " else "" : String) ++ t) (so_app (so_app h (so_str _)) (h2 t (by simp))) fun t ht => h2 t (by simp [ht])
theorem so_lst {l : List Str} (h : ∀ t ∈ l, PyData.strOk t = true) : PyData.strOk (listText l) = true := so_app (so_from (so_str _) h) (so_str _)
mutual
theorem shown_ok : ∀ (d : D) {k : Nat}, D.ok k d = true → PyData.strOk d.py.shown = true
  | .none, _, _ => so_str _
  | .bool b, _, _ => by cases b <;> exact so_str _
  | .int i, _, _ => so_str _
  | .str s, k, h => so_repr (by cases k <;> exact h)
  | .tup l, k, h => by
    cases k with
    | zero => cases h
    | succ k => exact so_tup (shown_oks l h)
  | .lst l, k, h => by
    cases k with
    | zero => cases h
    | succ k => exact so_lst (shown_oks l h)
  | .scr l, k, h => by
    cases k with
    | zero => cases h
    | succ k => exact so_lst (shown_oks l h)
  | .dct _ _, k, h => by cases k <;> cases h
  | .obj _ _, k, h => by cases k <;> cases h
theorem shown_oks : ∀ (l : List D) {k : Nat}, l.all (D.ok k) = true → ∀ t ∈ PyData.shownAll (D.pys l), PyData.strOk t = true
  | [], _, _, t, ht => by cases ht
  | d :: l, k, h, t, ht => by
    rw [List.all_cons, Bool.and_eq_true] at h
    rcases List.mem_cons.mp ht with q | q
    · rw [q]; exact shown_ok d h.1
    · exact shown_oks l h.2 t q
end
end PX

end

set_option Elab.async false
set_option linter.all false
set_option maxRecDepth 100000
namespace PX
open PySem
/-! ### objects -/
section
variable {C : Call} {G : Nat → D} {ρ : Ev} {X : EQ} {K : D × Bool → Ev → Prop}
theorem we_meth {c f : Nat} {o l : E} (k : wp (argOf o (ev C G o) ρ) (fun x ρ => isObj c x ρ = true ∧ Wa C G l ρ (fun args ρ => wp (doCall C f (x :: args) ρ) K X) X) X) : We C G (.meth c f o l) ρ K X := by
  show wp ((argOf o (ev C G o) ρ).bind fun x ρ => if isObj c x ρ then (evA C G l ρ).bind fun args ρ => doCall C f (x :: args) ρ else .bad) K X
  rw [wp_bind]
  refine wp_mono k (fun x ρ ⟨h, q⟩ => ?_) fun _ _ h => h
  rw [if_pos h, wp_bind]; exact q
theorem ao_val {i : Nat} {d : D} {r : Ev → Res (D × Bool)} {Q : Arg → Ev → Prop} (h : ρ[i]? = some (.val d)) (k : Q (.val d) ρ) : wp (argOf (.var i) r ρ) Q X := by
  show wp (match ρ[i]? with
    | some (.val d) => .ok (.val d) ρ
    | some (.own _ _) => .ok (.slot i) ρ
    | _ => .bad) Q X
  rw [h]; exact k
theorem ao_nv {a : E} {Q : Arg → Ev → Prop} (k : We C G a ρ (fun d ρ => Q (.val d.1) ρ) X) (hv : nvB a = true) : wp (argOf a (ev C G a) ρ) Q X := by
  have h := nv_of hv
  have e : argOf a (ev C G a) ρ = (ev C G a ρ).bind fun d ρ => .ok (.val d.1) ρ := by cases a <;> first | rfl | exact absurd rfl (h _)
  rw [e, wp_bind]; exact k
theorem we_new {c f : Nat} {l : E} (k : Wa C G l ρ (fun args ρ => wp (doNew C c f args ρ) K X) X) : We C G (.new c f l) ρ K X := by
  show wp ((evA C G l ρ).bind fun args ρ => doNew C c f args ρ) K X
  rw [wp_bind]; exact k
/-- an object is made of values -/
def NewC (C : Call) (c f : Nat) (as : List D) (o : D) : Prop := wpC (C f (.own true (.obj c []) :: as.map .val)) (fun r _ outs => r = .none ∧ ∃ p rest, outs = .own p o :: rest ∧ rest.length = as.length) no
theorem call_new {c f : Nat} {as : List D} {args : List Arg} {o : D} (h : NewC C c f as o) (ha : args = as.map Arg.val) (k : K (o, true) ρ) : wp (doNew C c f args ρ) K X := by
  subst ha
  unfold doNew
  rw [if_pos (show nodupB (slotsOf (as.map Arg.val)) = true by rw [sl_v]; rfl), ac_v]
  show wp (match C f (.own true (.obj c []) :: as.map Cell.val) with
    | .ok .none _ (.own _ o :: outs) => (match giveBack (as.map Arg.val) outs ρ with
        | some ρ' => .ok (o, true) ρ'
        | none => .bad)
    | _ => .bad) K X
  have h' : wpC (C f (.own true (.obj c []) :: as.map .val)) (fun r _ outs => r = .none ∧ ∃ p rest, outs = .own p o :: rest ∧ rest.length = as.length) no := h
  revert h'
  cases C f (.own true (.obj c []) :: as.map Cell.val) with
  | ok d fr outs =>
    rintro ⟨rfl, p, rest, rfl, hl⟩
    show wp (match giveBack (as.map Arg.val) rest ρ with
        | some ρ' => .ok (o, true) ρ'
        | none => .bad) K X
    rw [gb_v ρ as rest hl]
    exact k
  | exc c fs => exact fun h => h.elim
  | bad => exact fun h => h.elim
theorem we_attr {o : E} {f : Nat} (k : Wd C G o ρ (fun d ρ => ∃ c fs z, d = .obj c fs ∧ lookF f fs = some z ∧ K (z, false) ρ) X) : We C G (.attr o f) ρ K X := by
  show wp ((rdOr o (ev C G o) ρ).bind fun d ρ => match d with
    | .obj _ fs => (ofO (lookF f fs) ρ).bind fun d ρ => .ok (d, false) ρ
    | _ => .bad) K X
  rw [wp_bind]
  refine wp_mono k (fun d ρ ⟨c, fs, z, e, h, q⟩ => ?_) fun _ _ h => h
  subst e
  show wp ((ofO (lookF f fs) ρ).bind fun d ρ => .ok (d, false) ρ) K X
  rw [wp_bind]; exact wp_of h q
def At (f : Nat) (d : D) (k : D → Prop) : Prop := ∃ c fs z, d = .obj c fs ∧ lookF f fs = some z ∧ k z
theorem at_of {f c : Nat} {fs : List (Nat × D)} {z : D} {k : D → Prop} (h : lookF f fs = some z) (q : k z) : ∃ c' fs' z', D.obj c fs = .obj c' fs' ∧ lookF f fs' = some z' ∧ k z' := ⟨c, fs, z, rfl, h, q⟩
theorem ws_setA {i f : Nat} {v : E} {K : Fl → Ev → Prop} (k : We C G v ρ (fun x ρ => ∃ p c fs, ρ[i]? = some (.own p (.obj c fs)) ∧ fs.length < 100 ∧ K .nx (ρ.set i (.own p (.obj c (putF f x.1 fs))))) X) : Ws C G (.setA i f v) ρ K X := by
  show wp ((ev C G v ρ).bind fun x ρ => match ρ[i]? with
    | some (.own p (.obj c fs)) => if fs.length < 100 then .ok .nx (ρ.set i (.own p (.obj c (putF f x.1 fs)))) else .bad
    | _ => .bad) K X
  rw [wp_bind]
  refine wp_mono k (fun x ρ ⟨p, c, fs, e, h, q⟩ => ?_) fun _ _ h => h
  rw [e]
  show wp (if fs.length < 100 then .ok .nx (ρ.set i (.own p (.obj c (putF f x.1 fs)))) else .bad) K X
  rw [if_pos h]; exact q
end
/-! ### more reckoning -/
section
variable {kp : D × Bool → Prop} {kb : Bool → Prop}
theorem co_mem {x : D} {l : List D} {b : Bool} (z : (x.ok 60 && l.all (D.ok 60)) = true) (h : D.has l x = b) (h2 : kb b) : Co .isin x (.tup l) kb ∧ Co .isin x (.lst l) kb ∧ Co .notin x (.tup l) (fun t => ∃ u, t = !u ∧ kb u) := by
  refine ⟨⟨b, ?_, h2⟩, ⟨b, ?_, h2⟩, ⟨!b, ?_, b, rfl, h2⟩⟩
  · show (if _ then _ else _) = _; rw [if_pos z, h]
  · show (if _ then _ else _) = _; rw [if_pos z, h]
  · show (if _ then _ else _) = _; rw [if_pos z, h]
theorem co_in {x : D} {l : List D} (z : (x.ok 60 && l.all (D.ok 60)) = true) (h2 : kb (D.has l x)) : Co .isin x (.tup l) kb := ⟨_, by show (if _ then _ else _) = _; rw [if_pos z], h2⟩
theorem co_inL {x : D} {l : List D} (z : (x.ok 60 && l.all (D.ok 60)) = true) (h2 : kb (D.has l x)) : Co .isin x (.lst l) kb := ⟨_, by show (if _ then _ else _) = _; rw [if_pos z], h2⟩
theorem co_ni {x : D} {l : List D} (z : (x.ok 60 && l.all (D.ok 60)) = true) (h2 : kb (!D.has l x)) : Co .notin x (.tup l) kb := ⟨_, by show (if _ then _ else _) = _; rw [if_pos z], h2⟩
theorem co_niL {x : D} {l : List D} (z : (x.ok 60 && l.all (D.ok 60)) = true) (h2 : kb (!D.has l x)) : Co .notin x (.lst l) kb := ⟨_, by show (if _ then _ else _) = _; rw [if_pos z], h2⟩
theorem co_inB {x : Str} {l : List D} {b : Bool} (h : (cpd .isin (.str x) (.tup l) == some b) = true) (h2 : kb b) : Co .isin (.str x) (.tup l) kb := ⟨b, eq_of_beq h, h2⟩
theorem bools_map {α : Type} (f : α → Bool) : ∀ l : List α, bools (l.map fun x => D.bool (f x)) = some (l.map f)
  | [] => rfl
  | x :: l => by show (bools (l.map fun x => D.bool (f x))).map _ = _; rw [bools_map f l]; rfl
theorem ints_map {α : Type} (f : α → Int) : ∀ l : List α, intsOf (l.map fun x => D.int (f x)) = some (l.map f)
  | [] => rfl
  | x :: l => by show (intsOf (l.map fun x => D.int (f x))).map _ = _; rw [ints_map f l]; rfl
theorem bf_allF {α : Type} {f : α → Bool} {l : List α} (h : kp (.bool (l.all f), false)) : Bf .all [.lst (l.map fun x => D.bool (f x))] kp := by
  refine ⟨_, ?_, h⟩
  show (bools _).map _ = _
  rw [bools_map]; simp
theorem bf_anyF {α : Type} {f : α → Bool} {l : List α} (h : kp (.bool (l.any f), false)) : Bf .any [.lst (l.map fun x => D.bool (f x))] kp := by
  refine ⟨_, ?_, h⟩
  show (bools _).map _ = _
  rw [bools_map]; simp
theorem bf_isi {b : Bool} {ts : List Ty} {d : D} (hd : d.noObj = true) (h : kp (.bool (ts.any fun t => tyIs t d), false)) : Bf (.isi b ts) [d] kp := ⟨_, by show (if _ then _ else _) = _; rw [if_pos hd], h⟩
theorem bf_listT {l : List D} (h : kp (.lst l, true)) : Bf .list [.tup l] kp := ⟨_, rfl, h⟩
theorem bf_listL {l : List D} (h : kp (.lst l, true)) : Bf .list [.lst l] kp := ⟨_, rfl, h⟩
theorem bf_tupT {l : List D} (h : kp (.tup l, false)) : Bf .tuple [.tup l] kp := ⟨_, rfl, h⟩
theorem bf_max2 {i j : Int} (h : kp (.int (if j > i then j else i), false)) : Bf .max [.int i, .int j] kp := ⟨_, rfl, h⟩
theorem bf_lrng1 {i : Int} (hr : rOk 0 i = true) (h : kp (.lst (irange 0 i), true)) : Bf .lrng1 [.int i] kp := ⟨_, by show (if _ then _ else _) = _; rw [if_pos hr], h⟩
theorem bf_trng1 {i : Int} (hr : rOk 0 i = true) (h : kp (.tup (irange 0 i), false)) : Bf .trng1 [.int i] kp := ⟨_, by show (if _ then _ else _) = _; rw [if_pos hr], h⟩
theorem bf_repr {d : D} (hd : (d.ok 60 && d.py.showable && decide (d.py.shown.length ≤ lim)) = true) (h : kp (.str d.py.shown, false)) : Bf .repr [d] kp := ⟨_, by show (if _ then _ else _) = _; rw [if_pos hd], h⟩
theorem bf_dictT {ps : List D} {m : List (D × D)} (h1 : pairsOf ps = some m) (h2 : (m.all (fun p => p.1.kTup) && decide (m.length ≤ lim)) = true) (h : kp (.dct true (dmerge true [] m), true)) : Bf (.dict true) [.lst ps] kp := ⟨_, by
  show (pairsOf ps).bind _ = _
  rw [h1]
  show (if _ then _ else _) = _
  rw [if_pos h2], h⟩
theorem bm_get2 {l : List (D × D)} {i x : D} (hi : i.kTup = true) (h : kp ((dget true l i).getD x, false)) : Bm .get2 (.dct true l) [i, x] kp := ⟨_, by show (if _ then _ else _) = _; rw [if_pos hi], h⟩
theorem ix_dget {l : List (D × D)} {i d : D} {k : D → Prop} (hi : i.kTup = true) (h : dget true l i = some d) (hk : k d) : Ix (.dct true l) i k := ⟨d, by
  show (if i.kTup then dget true l i else none) = _
  rw [if_pos hi, h], hk⟩
end
/-! ### numbers, grids -/
theorem nats_ok : ∀ (l : List Nat) (n : Nat), (l.map fun k => D.int (k : Nat)).all (D.ok n) = true := by
  intro l n
  rw [List.all_map, List.all_eq_true]
  intro x _
  cases n <;> rfl
theorem deq_nat {a b : Nat} : D.eq (.int (a : Nat)) (.int (b : Nat)) = decide (a = b) := by
  rw [deq_int]
  by_cases h : a = b
  · rw [decide_eq_true h, decide_eq_true (by omega)]
  · rw [decide_eq_false h, decide_eq_false (by omega)]
theorem has_nats {x : Nat} : ∀ {l : List Nat}, D.has (l.map fun k => D.int (k : Nat)) (.int (x : Nat)) = decide (x ∈ l)
  | [] => rfl
  | a :: l => by
    show (D.eq (.int (a : Nat)) (.int (x : Nat)) || D.has (l.map fun k => D.int (k : Nat)) (.int (x : Nat))) = _
    rw [has_nats, deq_nat]
    by_cases h : a = x
    · subst h; simp
    · by_cases h2 : x ∈ l
      · simp [h2]
      · simp [h2, Ne.symm h, h]
theorem eqvs_map {α : Type} [DecidableEq α] {f : α → D} (hf : ∀ a b, D.eq (f a) (f b) = decide (a = b)) : ∀ l m : List α, PyData.eqvAll (D.pys (l.map f)) (D.pys (m.map f)) = decide (l = m)
  | [], [] => by rw [decide_eq_true rfl]; rfl
  | [], _ :: _ => by rw [decide_eq_false nofun]; rfl
  | _ :: _, [] => by rw [decide_eq_false nofun]; rfl
  | a :: l, b :: m => by
    have h := hf a b
    unfold D.eq at h
    show PyData.eqvAll ((f a).py :: D.pys (l.map f)) ((f b).py :: D.pys (m.map f)) = _
    rw [PyData.eqvAll, h, eqvs_map hf l m]
    by_cases h1 : a = b
    · by_cases h2 : l = m
      · simp [h1, h2]
      · simp [h1, h2]
    · simp [h1]
theorem eq_tups {α : Type} [DecidableEq α] {f : α → D} (hf : ∀ a b, D.eq (f a) (f b) = decide (a = b)) (l m : List α) : D.eq (.tup (l.map f)) (.tup (m.map f)) = decide (l = m) := by
  have := eqvs_map hf l m
  unfold D.eq
  rw [D.py, D.py, PyData.eqv]; exact this
theorem eq_lsts {α : Type} [DecidableEq α] {f : α → D} (hf : ∀ a b, D.eq (f a) (f b) = decide (a = b)) (l m : List α) : D.eq (.lst (l.map f)) (.lst (m.map f)) = decide (l = m) := by
  have := eqvs_map hf l m
  unfold D.eq
  rw [D.py, D.py, PyData.eqv]; exact this
theorem has_map {α : Type} [DecidableEq α] {f : α → D} (hf : ∀ a b, D.eq (f a) (f b) = decide (a = b)) {x : α} : ∀ {l : List α}, D.has (l.map f) (f x) = decide (x ∈ l)
  | [] => by rfl
  | a :: l => by
    show (D.eq (f a) (f x) || D.has (l.map f) (f x)) = _
    rw [has_map hf, hf]
    by_cases h : a = x
    · subst h; simp
    · by_cases h2 : x ∈ l
      · simp [h2]
      · simp [h2, Ne.symm h, h]
theorem minI_nat (n : Nat) (l : List Nat) : minI (n : Nat) (l.map fun k => ((k : Nat) : Int)) = ((l.foldl (fun a y => if y < a then y else a) n : Nat) : Int) := by
  unfold minI
  induction l generalizing n with
  | nil => rfl
  | cons a l ih =>
    rw [List.map_cons, List.foldl_cons, List.foldl_cons, ← ih]
    congr 1
    by_cases h : a < n
    · rw [if_pos h, if_pos (by omega)]
    · rw [if_neg h, if_neg (by omega)]
theorem maxI_nat (n : Nat) (l : List Nat) : maxI (n : Nat) (l.map fun k => ((k : Nat) : Int)) = ((l.foldl (fun a y => if a < y then y else a) n : Nat) : Int) := by
  unfold maxI
  induction l generalizing n with
  | nil => rfl
  | cons a l ih =>
    rw [List.map_cons, List.foldl_cons, List.foldl_cons, ← ih]
    congr 1
    by_cases h : n < a
    · rw [if_pos h, if_pos (by omega)]
    · rw [if_neg h, if_neg (by omega)]
/-! ### a for, a block, by what is done so far -/
theorem getE {α : Type} {l pre post : List α} {x : α} (h : [] ++ l = pre ++ x :: post) : ∃ n : Nat, pre = l.take n ∧ l[n]? = some x ∧ n < l.length ∧ pre.length = n := by
  have h' : l = pre ++ x :: post := by simpa using h
  subst h'
  exact ⟨pre.length, by simp, by simp, by simp, rfl⟩
theorem takeS {α : Type} {l : List α} {n : Nat} {x : α} (h : l[n]? = some x) : l.take n ++ [x] = l.take (n + 1) := by
  obtain ⟨hl, e⟩ := List.getElem?_eq_some_iff.mp h
  rw [List.take_succ_eq_append_getElem hl, e]
theorem lt_k {k b : Nat} (h : b + 1 ≤ k) : ∃ m, k = m + 1 ∧ b ≤ m := ⟨k - 1, by omega, by omega⟩
theorem wp_forN {α : Type} {f : D → Ev → Res Fl} {E : EQ} {Q : Fl → Ev → Prop} (h : α → D) (I : Nat → Ev → Prop) (l : List α) {ρ : Ev} (h0 : I 0 ρ) (step : ∀ (n : Nat) (x : α) (ρ : Ev), l[n]? = some x → n < l.length → I n ρ → wp (f (h x) ρ) (Turn Q (I (n + 1))) E) (fin : ∀ ρ, I l.length ρ → Q .nx ρ) : wp (forL f (l.map h) ρ) Q E := by
  have key : ∀ (m : List α) (n : Nat) (ρ : Ev), (∀ (i : Nat) (x : α), m[i]? = some x → l[n + i]? = some x) → n + m.length = l.length → I n ρ → wp (forL f (m.map h) ρ) Q E := by
    intro m
    induction m with
    | nil => intro n ρ _ hl hI; exact fin ρ (by have : n = l.length := by simpa using hl
                                                rw [← this]; exact hI)
    | cons a m ih =>
      intro n ρ hm hl hI
      show wp ((f (h a) ρ).bind fun r ρ => match r with
        | .nx => forL f (m.map h) ρ
        | .ct => forL f (m.map h) ρ
        | .bk => .ok .nx ρ
        | .ret d fr => .ok (.ret d fr) ρ) Q E
      rw [wp_bind]
      have hl' : n + (m.length + 1) = l.length := by simpa using hl
      refine wp_mono (step n a ρ (by simpa using hm 0 a rfl) (by omega) hI) (fun fl ρ1 h1 => ?_) fun _ _ h => h
      have nx : I (n + 1) ρ1 → wp (forL f (m.map h) ρ1) Q E := fun hI' => ih (n + 1) ρ1 (fun i x e => by
        have := hm (i + 1) x (by simpa using e)
        have e2 : n + (i + 1) = n + 1 + i := by omega
        rwa [e2] at this) (by omega) hI'
      cases fl with
      | nx => exact nx h1
      | ct => exact nx h1
      | bk => exact h1
      | ret d fr => exact h1
  exact key l 0 ρ (fun i x e => by simpa using e) (by simp) h0
theorem comp_map {α : Type} {C : Call} {G : Nat → D} {e c : E} {t : Tg} {vs : List Nat} {h : α → D} {l : List α} {ρ : Ev} (F : α → D) (g : α → Bool) {Q : List D → Ev → Prop} {X : EQ}
    (step : ∀ x ∈ l, wp (bindT t (h x) (wipe ρ vs)) (fun _ ρ' => wp (evC C G c ρ') (fun b ρ' => b = g x ∧ if g x then We C G e ρ' (fun y ρ1 => y.1 = F x ∧ wipe ρ1 vs = wipe ρ vs) X else wipe ρ' vs = wipe ρ vs) X) X)
    (k : ∀ ρ', wipe ρ' vs = wipe ρ vs → Q ((l.filter g).map F) ρ') :
    wp (compL (fun x ρ => (bindT t x (wipe ρ vs)).bind fun _ ρ => evC C G c ρ) (fun _ ρ => (ev C G e ρ).bind fun y ρ => .ok y.1 ρ) (l.map h) ρ) Q X := by
  refine wp_compL (fun done out ρ' => ∃ n, done = (l.map h).take n ∧ n ≤ l.length ∧ out = ((l.take n).filter g).map F ∧ wipe ρ' vs = wipe ρ vs) (l.map h) [] [] ρ ⟨0, rfl, Nat.zero_le _, rfl, rfl⟩ ?_ ?_
  · intro pre x post out ρ' hs ⟨n, e1, e2, h1, h4⟩
    obtain ⟨n', q1, q2, q3, q4⟩ := getE hs
    have hn : n = n' := by
      have := congrArg List.length e1
      simp at this q3; omega
    subst hn
    rw [List.getElem?_map, Option.map_eq_some_iff] at q2
    obtain ⟨y, ey, rfl⟩ := q2
    have hy : y ∈ l := List.mem_of_getElem? ey
    rw [wp_bind, h4]
    refine wp_mono (step y hy) (fun _ ρ1 q => ?_) fun _ _ h => h
    refine wp_mono q (fun b ρ2 ⟨hb, q⟩ => ?_) fun _ _ h => h
    subst hb
    have hd : pre ++ [h y] = (l.map h).take (n + 1) := by rw [e1, takeS (by rw [List.getElem?_map, ey]; rfl)]
    have hn1 : n + 1 ≤ l.length := by simp at q3; omega
    cases hg : g y with
    | true =>
      rw [hg, if_pos rfl] at q
      rw [if_pos rfl, wp_bind]
      refine wp_mono q (fun z ρ2 ⟨hp, h6⟩ => ?_) fun _ _ h => h
      rw [wp_ok]
      exact ⟨n + 1, hd, hn1, by rw [← takeS ey, List.filter_append, List.map_append, h1, hp]; simp [hg], h6⟩
    | false =>
      rw [hg, if_neg Bool.false_ne_true] at q
      rw [if_neg Bool.false_ne_true]
      exact ⟨n + 1, hd, hn1, by rw [← takeS ey, List.filter_append, List.map_append, h1]; simp [hg], q⟩
  · intro r ρ' ⟨n, e1, e2, h1, h4⟩
    have hn : n = l.length := by
      have := congrArg List.length e1
      simp at this; omega
    subst hn
    rw [List.take_length] at h1
    simp only [List.nil_append] at h1
    rw [h1]
    exact k ρ' h4
end PX
open PySem PX
local macro_rules
  | `(tactic| walk_at "gx") => `(tactic| repeat' (first
  | walk_at "ad"
  | walk_at "ex"
  | ((with_reducible refine' ao_val ?h ?_); (case h => exact rfl))
  | ((with_reducible refine ao_nv ?_ ?h); case h => exact rfl)
  | (with_reducible refine we_meth ?_)
  | (with_reducible refine we_new ?_)
  | (with_reducible refine we_attr ?_)
  | ((with_reducible refine' at_of ?h ?_); (case h => exact rfl))
  | walk_at "cl"
  | ((with_reducible refine if_dec (fun _ => ?_) (fun _ => ?_)) <;> (try (exfalso; omega)))
  | (with_reducible refine if_nf ?_)
  | (with_reducible refine if_nt ?_)
  | ((with_reducible refine if_ndec (fun _ => ?_) (fun _ => ?_)) <;> (try (exfalso; omega)))
  | walk_at "ix"
  | ((with_reducible refine' co_eqS (b := true) ?h ?_); (case h => decide +kernel))
  | ((with_reducible refine' co_eqS (b := false) ?h ?_); (case h => decide +kernel))
  | ((with_reducible refine' co_inB (b := true) ?h ?_); (case h => decide +kernel))
  | ((with_reducible refine' co_inB (b := false) ?h ?_); (case h => decide +kernel))
  | (with_reducible refine' bf_listT ?_)
  | (with_reducible refine' bf_listL ?_)
  | (with_reducible refine' bf_tupT ?_)
  | (with_reducible refine' bf_max2 ?_)
  | ((with_reducible refine' bf_isi ?h ?_); (case h => exact rfl))))
namespace PX
end PX

section
set_option Elab.async false
set_option linter.all false
set_option maxRecDepth 100000
namespace PX
open PySem
/-! ### typed things: numbers, grids, terms, claims, goals, systems -/
abbrev nD (n : Nat) : D := .int (n : Nat)
def natsD (l : List Nat) : D := .tup (l.map nD)
def gridD (l : List (List Nat)) : D := .tup (l.map natsD)
mutual
inductive Tm where
  | num (k : Nat) | own (b : Nat) | eye (e b : Nat) | me | plus (a b : Tm) | less (a b : Tm) | rest (a : Tm) (k : Nat) | least (a : Tm) | most (a : Tm) | many (c : Cl) | ite (c : Cl) (a b : Tm) | its (b : Nat) | it
inductive Cl where
  | yes | like (a b : Tm) | lt (a b : Tm) | not (c : Cl) | and (c d : Cl) | or (c d : Cl)
end
mutual
def Tm.d : Tm → D
  | .num k => .tup [.str "num", nD k]
  | .own b => .tup [.str "own", nD b]
  | .eye e b => .tup [.str "eye", nD e, nD b]
  | .me => .tup [.str "me"]
  | .plus a b => .tup [.str "plus", a.d, b.d]
  | .less a b => .tup [.str "less", a.d, b.d]
  | .rest a k => .tup [.str "rest", a.d, nD k]
  | .least a => .tup [.str "least", a.d]
  | .most a => .tup [.str "most", a.d]
  | .many c => .tup [.str "many", c.d]
  | .ite c a b => .tup [.str "if", c.d, a.d, b.d]
  | .its b => .tup [.str "its", nD b]
  | .it => .tup [.str "it"]
def Cl.d : Cl → D
  | .yes => .tup [.str "yes"]
  | .like a b => .tup [.str "like", a.d, b.d]
  | .lt a b => .tup [.str "below", a.d, b.d]
  | .not c => .tup [.str "not", c.d]
  | .and c e => .tup [.str "and", c.d, e.d]
  | .or c e => .tup [.str "or", c.d, e.d]
end
mutual
/-- how deep -/
def Tm.ht : Tm → Nat
  | .plus a b => max a.ht b.ht + 1
  | .less a b => max a.ht b.ht + 1
  | .rest a _ => a.ht + 1
  | .least a => a.ht + 1
  | .most a => a.ht + 1
  | .many c => c.ht + 1
  | .ite c a b => max c.ht (max a.ht b.ht) + 1
  | _ => 1
def Cl.ht : Cl → Nat
  | .yes => 1
  | .like a b => max a.ht b.ht + 1
  | .lt a b => max a.ht b.ht + 1
  | .not c => c.ht + 1
  | .and c e => max c.ht e.ht + 1
  | .or c e => max c.ht e.ht + 1
end
mutual
/-- boxes that there are; its, it within a look alone -/
def Tm.wf (nb : Nat) : Bool → Tm → Bool
  | _, .num _ => true
  | _, .own b => decide (b < nb)
  | _, .eye _ b => decide (b < nb)
  | _, .me => true
  | i, .plus a b => a.wf nb i && b.wf nb i
  | i, .less a b => a.wf nb i && b.wf nb i
  | i, .rest a k => a.wf nb i && decide (0 < k)
  | _, .least a => a.wf nb true
  | _, .most a => a.wf nb true
  | _, .many c => c.wf nb true
  | i, .ite c a b => c.wf nb i && a.wf nb i && b.wf nb i
  | i, .its b => i && decide (b < nb)
  | i, .it => i
def Cl.wf (nb : Nat) : Bool → Cl → Bool
  | _, .yes => true
  | i, .like a b => a.wf nb i && b.wf nb i
  | i, .lt a b => a.wf nb i && b.wf nb i
  | i, .not c => c.wf nb i
  | i, .and c e => c.wf nb i && e.wf nb i
  | i, .or c e => c.wf nb i && e.wf nb i
end
def box (st : List (List Nat)) (h b : Nat) : Nat := (st.getD h []).getD b 0
def leastN : List Nat → Nat
  | [] => 0
  | n :: ns => ns.foldl (fun a y => if y < a then y else a) n
def mostN : List Nat → Nat
  | [] => 0
  | n :: ns => ns.foldl (fun a y => if a < y then y else a) n
mutual
/-- what a term comes to -/
def Tm.v (e st : List (List Nat)) (hd : Nat) : Tm → Nat → Nat
  | .num k, _ => k
  | .own b, _ => box st hd b
  | .eye p b, _ => match (e.getD hd [])[p]? with
    | some h => box st h b
    | none => 0
  | .me, _ => hd
  | .plus a b, o => a.v e st hd o + b.v e st hd o
  | .less a b, o => a.v e st hd o - b.v e st hd o
  | .rest a k, o => a.v e st hd o % k
  | .least a, _ => leastN ((e.getD hd []).map fun o => a.v e st hd o)
  | .most a, _ => mostN ((e.getD hd []).map fun o => a.v e st hd o)
  | .many c, _ => ((e.getD hd []).filter fun o => c.v e st hd o).length
  | .ite c a b, o => if c.v e st hd o then a.v e st hd o else b.v e st hd o
  | .its b, o => box st o b
  | .it, o => o
def Cl.v (e st : List (List Nat)) (hd : Nat) : Cl → Nat → Bool
  | .yes, _ => true
  | .like a b, o => decide (a.v e st hd o = b.v e st hd o)
  | .lt a b, o => decide (a.v e st hd o < b.v e st hd o)
  | .not c, o => !c.v e st hd o
  | .and c d, o => c.v e st hd o && d.v e st hd o
  | .or c d, o => c.v e st hd o || d.v e st hd o
end
/-- a rule: a claim, boxes and what is laid there -/
structure Ru where
  cl : Cl
  ls : List (Nat × Tm)
instance : Inhabited Ru := ⟨⟨.yes, []⟩⟩
def layD (p : Nat × Tm) : D := .tup [nD p.1, p.2.d]
def Ru.d (r : Ru) : D := .tup [r.cl.d, .tup (r.ls.map layD)]
def Ru.ok (nb : Nat) (r : Ru) : Prop := r.cl.wf nb false = true ∧ r.cl.ht ≤ 8 ∧ r.ls.length ≤ 3 ∧ ∀ p ∈ r.ls, p.1 < nb ∧ p.2.wf nb false = true ∧ p.2.ht ≤ 8
structure Sys where
  eyes : List (List Nat)
  sizes : List Nat
  kinds : List Nat
  rules : List (List Ru)
def rulesD (r : List (List Ru)) : D := .tup (r.map fun l => .tup (l.map Ru.d))
def Sys.d (s : Sys) : D := .tup [gridD s.eyes, natsD s.sizes, natsD s.kinds, rulesD s.rules]
structure Sys.Ok (s : Sys) : Prop where
  e0 : 0 < s.eyes.length
  e6 : s.eyes.length ≤ 6
  el : ∀ l ∈ s.eyes, l.length ≤ 6
  ee : ∀ l ∈ s.eyes, ∀ h ∈ l, h < s.eyes.length
  z0 : 0 < s.sizes.length
  z3 : s.sizes.length ≤ 3
  zz : ∀ z ∈ s.sizes, 0 < z ∧ z ≤ 12
  kl : s.kinds.length = s.eyes.length
  kk : ∀ k ∈ s.kinds, k < s.rules.length
  r4 : s.rules.length ≤ 4
  r8 : ∀ l ∈ s.rules, l.length ≤ 8
  rr : ∀ l ∈ s.rules, ∀ r ∈ l, r.ok s.sizes.length
/-- a stand -/
structure StOk (s : Sys) (st : List (List Nat)) : Prop where
  l : st.length = s.eyes.length
  b : ∀ x ∈ st, x.length = s.sizes.length
  z : ∀ x ∈ st, ∀ p ∈ x.zip s.sizes, p.1 < p.2
def Sys.rl (s : Sys) (h : Nat) : List Ru := s.rules.getD (s.kinds.getD h 0) []
/-- the number of the rule by which a hand goes -/
def Sys.at (s : Sys) (st : List (List Nat)) (h : Nat) : Option Nat := (s.rl h).findIdx? fun r => r.cl.v s.eyes st h 0
def Sys.rdy (s : Sys) (st : List (List Nat)) : List Nat := (List.range st.length).filter fun h => (s.at st h).isSome
def Sys.beh (s : Sys) (st : List (List Nat)) (h : Nat) : List Nat := match s.at st h with
  | some k => ((s.rl h).getD k default).ls.foldl (fun bx p => bx.set p.1 (p.2.v s.eyes st h 0 % s.sizes.getD p.1 1)) (st.getD h [])
  | none => st.getD h []
def Sys.act (s : Sys) (st : List (List Nat)) (hs : List Nat) : List (List Nat) := hs.foldl (fun f h => f.set h (s.beh st h)) st
/-- goals -/
inductive Gl where
  | every (c : Cl) | at (hs : List Nat) (c : Cl) | ready (k : Nat) | and (a b : Gl) | or (a b : Gl) | not (a : Gl)
def Gl.d : Gl → D
  | .every c => .tup [.str "every", c.d]
  | .at hs c => .tup [.str "at", natsD hs, c.d]
  | .ready k => .tup [.str "ready", nD k]
  | .and a b => .tup [.str "and", a.d, b.d]
  | .or a b => .tup [.str "or", a.d, b.d]
  | .not a => .tup [.str "not", a.d]
def Gl.ht : Gl → Nat
  | .and a b => max a.ht b.ht + 1
  | .or a b => max a.ht b.ht + 1
  | .not a => a.ht + 1
  | _ => 1
def Gl.wf (nh nb : Nat) : Gl → Prop
  | .every c => c.wf nb false = true ∧ c.ht ≤ 8
  | .at hs c => (∀ h ∈ hs, h < nh) ∧ hs.length ≤ 24 ∧ c.wf nb false = true ∧ c.ht ≤ 8
  | .ready _ => True
  | .and a b => a.wf nh nb ∧ b.wf nh nb
  | .or a b => a.wf nh nb ∧ b.wf nh nb
  | .not a => a.wf nh nb
def Gl.v (s : Sys) (st : List (List Nat)) : Gl → Bool
  | .every c => (List.range s.eyes.length).all fun h => c.v s.eyes st h 0
  | .at hs c => hs.all fun h => c.v s.eyes st h 0
  | .ready k => decide ((s.rdy st).length = k)
  | .and a b => a.v s st && b.v s st
  | .or a b => a.v s st || b.v s st
  | .not a => !a.v s st
end PX

end

section
set_option Elab.async false
set_option linter.all false
set_option maxRecDepth 100000
namespace K73
open PySem PX
/-- lays_below(system, few): 0 system, 1 few, 2 rules, 3 claim, 4 lays, 5 box, 6 term -/
def N0 : List Str := ["system", "few", "rules", "claim", "lays", "box", "term"]
def b0 : S := (.seq (.for (.name 2) (.isq (.idx (.var 0) (.int 3))) (.for (.tup [3, 4]) (.isq (.var 2)) (.ite (.tval (.bi .any (.cons (.comp (.cmp .lt (.var 5) (.var 1)) (.tup [5, 6]) (.isq (.var 4)) .nil [5, 6]) .nil))) (.ret (.bool true)) .skip))) (.ret (.bool false)))
/-- pairs_met(one, other): 0 one, 1 other, 2 found, 3 pair -/
def N1 : List Str := ["one", "other", "found", "pair"]
def b1 : S := (.seq (.asg true (.name 2) (.lst .nil)) (.seq (.for (.name 3) (.zipN (.idx (.var 0) (.int 2)) (.idx (.var 1) (.int 2))) (.ite (.cmp .notin (.var 3) (.var 2)) (.expr (.mut .append 2 (.cons (.var 3) .nil))) .skip)) (.ret (.var 2))))
/-- put_over(one, other): 0 one, 1 other, 2 few, 3 pairs, 4 rules, 5 kinds, 6 pair, 7 low, 8 high, 9 some -/
def N2 : List Str := ["one", "other", "few", "pairs", "rules", "kinds", "pair", "low", "high", "some"]
def b2 : S := (.seq (.ite (.cmp .ne (.idx (.var 0) (.int 0)) (.idx (.var 1) (.int 0))) (.raise 5 (.cons (.str "eyes") .nil)) .skip) (.seq (.asg false (.name 2) (.bi .len (.cons (.idx (.var 0) (.int 1)) .nil))) (.seq (.ite (.or (.cmp .eq (.bi .len (.cons (.idx (.var 1) (.int 1)) .nil)) (.var 2)) (.cmp .ne (.slice (.idx (.var 1) (.int 1)) .nil (.tval (.var 2))) (.idx (.var 0) (.int 1)))) (.raise 5 (.cons (.str "sizes") .nil)) .skip) (.seq (.ite (.tval (.call 0 (.cons (.var 1) (.cons (.var 2) .nil)))) (.raise 5 (.cons (.str "lays") .nil)) .skip) (.seq (.asg false (.name 3) (.call 1 (.cons (.var 0) (.cons (.var 1) .nil)))) (.seq (.ite (.cmp .gt (.bi .len (.cons (.var 3) .nil)) (.glob 0)) (.raise 5 (.cons (.str "kinds") .nil)) .skip) (.seq (.asg false (.name 4) (.comp (.bin .add (.idx (.idx (.var 0) (.int 3)) (.var 7)) (.idx (.idx (.var 1) (.int 3)) (.var 8))) (.tup [7, 8]) (.isq (.var 3)) .nil [7, 8])) (.seq (.ite (.tval (.bi .any (.cons (.comp (.cmp .gt (.bi .len (.cons (.var 9) .nil)) (.glob 1)) (.name 9) (.isq (.var 4)) .nil [9]) .nil))) (.raise 5 (.cons (.str "rules") .nil)) .skip) (.seq (.asg false (.name 5) (.comp (.bm .index (.var 3) (.cons (.var 6) .nil)) (.name 6) (.isq (.bi .lzip (.cons (.idx (.var 0) (.int 2)) (.cons (.idx (.var 1) (.int 2)) .nil)))) .nil [6])) (.ret (.tup (.cons (.idx (.var 1) (.int 0)) (.cons (.idx (.var 1) (.int 1)) (.cons (.bi .tuple (.cons (.var 5) .nil)) (.cons (.bi .tuple (.cons (.var 4) .nil)) .nil)))))))))))))))
/-- lower_part(one, stand): 0 one, 1 stand, 2 boxes -/
def N3 : List Str := ["one", "stand", "boxes"]
def b3 : S := (.ret (.bi .tuple (.cons (.comp (.slice (.var 2) .nil (.tval (.bi .len (.cons (.idx (.var 0) (.int 1)) .nil)))) (.name 2) (.isq (.var 1)) .nil [2]) .nil)))
/-- _law_feed(_law_script): 0 _law_script -/
def N4 : List Str := ["_law_script"]
def b4 : S := (.ret (.lst (.cons (.bin .add (.slice (.var 0) .nil (.tval (.int 63))) (.bin .mul (.lst (.cons (.int 0) .nil)) (.bi .int (.cons (.cmp .eq (.var 0) (.lst .nil)) .nil)))) (.cons (.int 0) (.cons (.int 0) .nil)))))
/-- _law_take(_law_feed_here, _law_many): 0 _law_feed_here, 1 _law_many, 2 _law_spot, 3 _law_cell, 4 _law_mixed, 5 _law_found -/
def N5 : List Str := ["_law_feed_here", "_law_many", "_law_spot", "_law_cell", "_law_mixed", "_law_found"]
def b5 : S := (.seq (.ite (.cmp .gt (.idx (.var 0) (.int 2)) (.int 0)) (.seq (.asg false (.name 5) (.bin .mod (.idx (.var 0) (.int 2)) (.var 1))) (.seq (.setI 0 (.int 2) (.bin .fdiv (.idx (.var 0) (.int 2)) (.var 1))) (.ret (.var 5)))) .skip) (.seq (.asg false (.name 2) (.idx (.var 0) (.int 1))) (.seq (.setI 0 (.int 1) (.bin .add (.var 2) (.int 1))) (.seq (.asg false (.name 3) (.idx (.idx (.var 0) (.int 0)) (.bin .mod (.var 2) (.bi .len (.cons (.idx (.var 0) (.int 0)) .nil))))) (.seq (.ite (.and (.cmp .ge (.var 3) (.bin .pow (.int 10) (.int 18))) (.cmp .lt (.var 2) (.bi .len (.cons (.idx (.var 0) (.int 0)) .nil)))) (.seq (.setI 0 (.int 2) (.bin .fdiv (.var 3) (.var 1))) (.ret (.bin .mod (.var 3) (.var 1)))) .skip) (.seq (.asg false (.name 4) (.bin .mod (.bin .mul (.bin .add (.bin .add (.bin .add (.bin .mod (.var 3) (.int 1000003)) (.bin .mul (.bin .mul (.int 37) (.var 2)) (.var 2))) (.bin .mul (.int 11) (.var 2))) (.int 5)) (.int 48271)) (.int 2147483629))) (.seq (.asg false (.name 4) (.bin .mod (.bin .add (.bin .add (.bin .mul (.var 4) (.var 4)) (.bin .mul (.int 30269) (.var 2))) (.int 17)) (.int 2147483587))) (.ret (.bin .mod (.bin .mod (.bin .add (.bin .mul (.var 4) (.int 69621)) (.var 2)) (.int 999979)) (.var 1))))))))))
/-- _law_same(_law_found, _law_due_here): 0 _law_found, 1 _law_due_here, 2 _law_one, 3 _law_other -/
def N6 : List Str := ["_law_found", "_law_due_here", "_law_one", "_law_other"]
def b6 : S := (.seq (.ite (.or (.cmp .ne (.bi (.isi false [.tup]) (.cons (.var 1) .nil)) (.bi (.isi false [.tup]) (.cons (.var 0) .nil))) (.cmp .ne (.bi (.isi false [.lst]) (.cons (.var 1) .nil)) (.bi (.isi false [.lst]) (.cons (.var 0) .nil)))) (.ret (.bool false)) .skip) (.seq (.ite (.not (.tval (.bi (.isi true [.tup, .lst]) (.cons (.var 1) .nil)))) (.ret (.and (.cmp .eq (.bi (.isi false [.bool]) (.cons (.var 0) .nil)) (.bi (.isi false [.bool]) (.cons (.var 1) .nil))) (.cmp .eq (.var 0) (.var 1)))) .skip) (.seq (.ite (.cmp .ne (.bi .len (.cons (.var 0) .nil)) (.bi .len (.cons (.var 1) .nil))) (.ret (.bool false)) .skip) (.ret (.cmp .notin (.bool false) (.comp (.call 6 (.cons (.var 2) (.cons (.var 3) .nil))) (.tup [2, 3]) (.zip (.var 0) (.var 1)) .nil [2, 3]))))))
/-- _law_term(_law_feed_here, _law_sizes, _law_deep, _law_inner): 0 _law_feed_here, 1 _law_sizes, 2 _law_deep, 3 _law_inner, 4 _law_way, 5 _law_box, 6 _law_word, 7 _law_claim_here -/
def N7 : List Str := ["_law_feed_here", "_law_sizes", "_law_deep", "_law_inner", "_law_way", "_law_box", "_law_word", "_law_claim_here"]
def b7 : S := (.seq (.asg false (.name 4) (.call 5 (.cons (.var 0) (.cons (.idx (.lst (.cons (.int 6) (.cons (.int 12) .nil))) (.bi .int (.cons (.cmp .gt (.var 2) (.int 0)) .nil))) .nil)))) (.seq (.asg false (.name 5) (.call 5 (.cons (.var 0) (.cons (.bi .len (.cons (.var 1) .nil)) .nil)))) (.seq (.ite (.cmp .eq (.var 4) (.int 0)) (.ret (.tup (.cons (.str "num") (.cons (.call 5 (.cons (.var 0) (.cons (.int 4) .nil))) .nil)))) .skip) (.seq (.ite (.cmp .lt (.var 4) (.int 3)) (.ret (.tup (.cons (.str "own") (.cons (.var 5) .nil)))) .skip) (.seq (.ite (.cmp .eq (.var 4) (.int 3)) (.ret (.idx (.lst (.cons (.tup (.cons (.str "me") .nil)) (.cons (.tup (.cons (.str "it") .nil)) .nil))) (.bi .int (.cons (.var 3) .nil)))) .skip) (.seq (.ite (.cmp .lt (.var 4) (.int 6)) (.ret (.ite (.tval (.var 3)) (.tup (.cons (.str "its") (.cons (.var 5) .nil))) (.tup (.cons (.str "eye") (.cons (.call 5 (.cons (.var 0) (.cons (.int 2) .nil))) (.cons (.var 5) .nil)))))) .skip) (.seq (.ite (.cmp .eq (.var 4) (.int 6)) (.ret (.tup (.cons (.str "rest") (.cons (.call 7 (.cons (.var 0) (.cons (.var 1) (.cons (.bin .sub (.var 2) (.int 1)) (.cons (.var 3) .nil))))) (.cons (.bin .add (.int 1) (.call 5 (.cons (.var 0) (.cons (.int 4) .nil)))) .nil))))) .skip) (.seq (.ite (.cmp .eq (.var 4) (.int 7)) (.seq (.asg false (.name 7) (.call 8 (.cons (.var 0) (.cons (.var 1) (.cons (.bin .sub (.var 2) (.int 1)) (.cons (.var 3) .nil)))))) (.ret (.tup (.cons (.str "if") (.cons (.var 7) (.cons (.call 7 (.cons (.var 0) (.cons (.var 1) (.cons (.bin .sub (.var 2) (.int 1)) (.cons (.var 3) .nil))))) (.cons (.call 7 (.cons (.var 0) (.cons (.var 1) (.cons (.bin .sub (.var 2) (.int 1)) (.cons (.var 3) .nil))))) .nil))))))) .skip) (.seq (.ite (.and (.cmp .gt (.var 4) (.int 9)) (.not (.tval (.var 3)))) (.seq (.asg false (.name 6) (.idx (.lst (.cons (.str "least") (.cons (.str "most") (.cons (.str "many") .nil)))) (.call 5 (.cons (.var 0) (.cons (.int 3) .nil))))) (.seq (.ite (.cmp .eq (.var 6) (.str "many")) (.ret (.tup (.cons (.var 6) (.cons (.call 8 (.cons (.var 0) (.cons (.var 1) (.cons (.bin .sub (.var 2) (.int 1)) (.cons (.bool true) .nil))))) .nil)))) .skip) (.ret (.tup (.cons (.var 6) (.cons (.call 7 (.cons (.var 0) (.cons (.var 1) (.cons (.bin .sub (.var 2) (.int 1)) (.cons (.bool true) .nil))))) .nil)))))) .skip) (.seq (.asg false (.name 6) (.idx (.lst (.cons (.str "plus") (.cons (.str "less") .nil))) (.bin .mod (.var 4) (.int 2)))) (.ret (.tup (.cons (.var 6) (.cons (.call 7 (.cons (.var 0) (.cons (.var 1) (.cons (.bin .sub (.var 2) (.int 1)) (.cons (.var 3) .nil))))) (.cons (.call 7 (.cons (.var 0) (.cons (.var 1) (.cons (.bin .sub (.var 2) (.int 1)) (.cons (.var 3) .nil))))) .nil)))))))))))))))
/-- _law_claim(_law_feed_here, _law_sizes, _law_deep, _law_inner): 0 _law_feed_here, 1 _law_sizes, 2 _law_deep, 3 _law_inner, 4 _law_way, 5 _law_lower, 6 _law_word -/
def N8 : List Str := ["_law_feed_here", "_law_sizes", "_law_deep", "_law_inner", "_law_way", "_law_lower", "_law_word"]
def b8 : S := (.seq (.asg false (.name 4) (.call 5 (.cons (.var 0) (.cons (.idx (.lst (.cons (.int 5) (.cons (.int 8) .nil))) (.bi .int (.cons (.cmp .gt (.var 2) (.int 0)) .nil))) .nil)))) (.seq (.asg false (.name 5) (.bi .max (.cons (.int 0) (.cons (.bin .sub (.var 2) (.int 1)) .nil)))) (.seq (.ite (.cmp .eq (.var 4) (.int 0)) (.ret (.tup (.cons (.str "yes") .nil))) .skip) (.seq (.ite (.cmp .lt (.var 4) (.int 5)) (.seq (.asg false (.name 6) (.idx (.lst (.cons (.str "like") (.cons (.str "below") .nil))) (.bin .mod (.var 4) (.int 2)))) (.ret (.tup (.cons (.var 6) (.cons (.call 7 (.cons (.var 0) (.cons (.var 1) (.cons (.var 2) (.cons (.var 3) .nil))))) (.cons (.call 7 (.cons (.var 0) (.cons (.var 1) (.cons (.var 5) (.cons (.var 3) .nil))))) .nil)))))) .skip) (.seq (.ite (.cmp .eq (.var 4) (.int 5)) (.ret (.tup (.cons (.str "not") (.cons (.call 8 (.cons (.var 0) (.cons (.var 1) (.cons (.var 5) (.cons (.var 3) .nil))))) .nil)))) .skip) (.seq (.asg false (.name 6) (.idx (.lst (.cons (.str "and") (.cons (.str "or") .nil))) (.bin .mod (.var 4) (.int 2)))) (.ret (.tup (.cons (.var 6) (.cons (.call 8 (.cons (.var 0) (.cons (.var 1) (.cons (.var 5) (.cons (.var 3) .nil))))) (.cons (.call 8 (.cons (.var 0) (.cons (.var 1) (.cons (.var 5) (.cons (.var 3) .nil))))) .nil)))))))))))
/-- _law_rule(_law_feed_here, _law_sizes, _law_boxes): 0 _law_feed_here, 1 _law_sizes, 2 _law_boxes, 3 _law_some, 4 _law_claim_here, 5 _law_box -/
def N9 : List Str := ["_law_feed_here", "_law_sizes", "_law_boxes", "_law_some", "_law_claim_here", "_law_box"]
def b9 : S := (.seq (.asg false (.name 3) (.or (.comp (.var 5) (.name 5) (.isq (.var 2)) (.cons (.cmp .eq (.call 5 (.cons (.var 0) (.cons (.int 2) .nil))) (.int 0)) .nil) [5]) (.slice (.var 2) .nil (.tval (.int 1))))) (.seq (.asg false (.name 4) (.call 8 (.cons (.var 0) (.cons (.var 1) (.cons (.int 1) (.cons (.bool false) .nil)))))) (.ret (.tup (.cons (.var 4) (.cons (.bi .tuple (.cons (.comp (.tup (.cons (.var 5) (.cons (.call 7 (.cons (.var 0) (.cons (.var 1) (.cons (.int 1) (.cons (.bool false) .nil))))) .nil))) (.name 5) (.isq (.var 3)) .nil [5]) .nil)) .nil))))))
/-- _law_rules(_law_feed_here, _law_sizes, _law_boxes, _law_most): 0 _law_feed_here, 1 _law_sizes, 2 _law_boxes, 3 _law_most, 4 _law_many, 5 _law_kind, 6 _law_some, 7 _law_k -/
def N10 : List Str := ["_law_feed_here", "_law_sizes", "_law_boxes", "_law_most", "_law_many", "_law_kind", "_law_some", "_law_k"]
def b10 : S := (.seq (.asg false (.name 4) (.comp (.call 5 (.cons (.var 0) (.cons (.bin .add (.var 3) (.int 1)) .nil))) (.name 5) (.rng1 (.int 2)) .nil [5])) (.ret (.bi .tuple (.cons (.comp (.bi .tuple (.cons (.comp (.call 9 (.cons (.var 0) (.cons (.var 1) (.cons (.var 2) .nil)))) (.name 7) (.rng1 (.var 6)) .nil [7]) .nil)) (.name 6) (.isq (.var 4)) .nil [6]) .nil))))
/-- _law_drawn(_law_feed_here): 0 _law_feed_here, 1 _law_many, 2 _law_sizes, 3 _law_eyes, 4 _law_hand, 5 _law_kinds, 6 _law_one -/
def N11 : List Str := ["_law_feed_here", "_law_many", "_law_sizes", "_law_eyes", "_law_hand", "_law_kinds", "_law_one"]
def b11 : S := (.seq (.asg false (.name 1) (.bin .add (.int 1) (.call 5 (.cons (.var 0) (.cons (.int 3) .nil))))) (.seq (.asg false (.name 2) (.tup (.cons (.int 2) .nil))) (.seq (.ite (.cmp .lt (.var 1) (.int 3)) (.asg false (.name 2) (.idx (.lst (.cons (.tup (.cons (.int 2) .nil)) (.cons (.tup (.cons (.int 2) .nil)) (.cons (.tup (.cons (.int 3) .nil)) (.cons (.tup (.cons (.int 2) (.cons (.int 2) .nil))) .nil))))) (.call 5 (.cons (.var 0) (.cons (.int 4) .nil))))) .skip) (.seq (.asg true (.name 3) (.lst .nil)) (.seq (.for (.name 4) (.rng1 (.var 1)) (.expr (.mut .append 3 (.cons (.bi .tuple (.cons (.comp (.var 6) (.name 6) (.rng1 (.var 1)) (.cons (.and (.cmp .ne (.var 6) (.var 4)) (.cmp .gt (.call 5 (.cons (.var 0) (.cons (.int 4) .nil))) (.int 0))) .nil) [6]) .nil)) .nil)))) (.seq (.asg false (.name 5) (.bi .tuple (.cons (.comp (.call 5 (.cons (.var 0) (.cons (.int 2) .nil))) (.name 4) (.rng1 (.var 1)) .nil [4]) .nil))) (.ret (.tup (.cons (.bi .tuple (.cons (.var 3) .nil)) (.cons (.var 2) (.cons (.var 5) (.cons (.call 10 (.cons (.var 0) (.cons (.var 2) (.cons (.bi .lrng1 (.cons (.bi .len (.cons (.var 2) .nil)) .nil)) (.cons (.int 2) .nil))))) .nil))))))))))))
/-- _law_upper(_law_feed_here, _law_lower): 0 _law_feed_here, 1 _law_lower, 2 _law_few, 3 _law_sizes, 4 _law_kinds, 5 _law_hand -/
def N12 : List Str := ["_law_feed_here", "_law_lower", "_law_few", "_law_sizes", "_law_kinds", "_law_hand"]
def b12 : S := (.seq (.asg false (.name 2) (.bi .len (.cons (.idx (.var 1) (.int 1)) .nil))) (.seq (.asg false (.name 3) (.bin .add (.idx (.var 1) (.int 1)) (.tup (.cons (.bin .add (.int 2) (.call 5 (.cons (.var 0) (.cons (.int 2) .nil)))) .nil)))) (.seq (.ite (.and (.cmp .eq (.var 2) (.int 1)) (.cmp .eq (.call 5 (.cons (.var 0) (.cons (.int 3) .nil))) (.int 0))) (.asg false (.name 3) (.bin .add (.var 3) (.tup (.cons (.bin .add (.int 2) (.call 5 (.cons (.var 0) (.cons (.int 2) .nil)))) .nil)))) .skip) (.seq (.asg false (.name 4) (.bi .tuple (.cons (.comp (.call 5 (.cons (.var 0) (.cons (.int 2) .nil))) (.name 5) (.isq (.idx (.var 1) (.int 0))) .nil [5]) .nil))) (.ret (.tup (.cons (.idx (.var 1) (.int 0)) (.cons (.var 3) (.cons (.var 4) (.cons (.call 10 (.cons (.var 0) (.cons (.var 3) (.cons (.bi .lrng2 (.cons (.var 2) (.cons (.bi .len (.cons (.var 3) .nil)) .nil))) (.cons (.int 3) .nil))))) .nil))))))))))
/-- _law_told(_law_one, _law_other): 0 _law_one, 1 _law_other, 2 _law_found, 3 e -/
def N13 : List Str := ["_law_one", "_law_other", "_law_found", "e"]
def b13 : S := (.seq (.asg false (.name 2) .none) (.tryR 2 (.call 2 (.cons (.var 0) (.cons (.var 1) .nil))) (some 3) none 7 [(none, (.str "other")), (some ⟨[5], false, true⟩, (.fld 0)), (some ⟨[3, 6, 1, 0, 2, 4], true, false⟩, (.str "other"))]))
/-- _law_due(_law_one, _law_other): 0 _law_one, 1 _law_other, 2 _law_few, 3 _law_rules_here, 4 _law_pairs, 5 _law_kinds, 6 _law_hand, 7 _law_pair, 8 _law_claim_here, 9 _law_lays, 10 _law_first, 11 _law_second, 12 _law_some, 13 _law_box, 14 _law_term_here -/
def N14 : List Str := ["_law_one", "_law_other", "_law_few", "_law_rules_here", "_law_pairs", "_law_kinds", "_law_hand", "_law_pair", "_law_claim_here", "_law_lays", "_law_first", "_law_second", "_law_some", "_law_box", "_law_term_here"]
def b14 : S := (.seq (.ite (.cmp .ne (.idx (.var 0) (.int 0)) (.idx (.var 1) (.int 0))) (.ret (.str "eyes")) .skip) (.seq (.asg false (.name 2) (.bi .len (.cons (.idx (.var 0) (.int 1)) .nil))) (.seq (.ite (.or (.cmp .ne (.slice (.idx (.var 1) (.int 1)) .nil (.tval (.var 2))) (.idx (.var 0) (.int 1))) (.cmp .lt (.bi .len (.cons (.idx (.var 1) (.int 1)) .nil)) (.bin .add (.var 2) (.int 1)))) (.ret (.str "sizes")) .skip) (.seq (.for (.name 3) (.isq (.idx (.var 1) (.int 3))) (.for (.tup [8, 9]) (.isq (.var 3)) (.ite (.cmp .ne (.comp (.var 13) (.tup [13, 14]) (.isq (.var 9)) (.cons (.cmp .lt (.var 13) (.var 2)) .nil) [13, 14]) (.lst .nil)) (.ret (.str "lays")) .skip))) (.seq (.asg true (.name 4) (.lst .nil)) (.seq (.asg true (.name 5) (.lst .nil)) (.seq (.for (.name 6) (.rng1 (.bi .len (.cons (.idx (.var 0) (.int 0)) .nil))) (.seq (.asg false (.name 7) (.tup (.cons (.idx (.idx (.var 0) (.int 2)) (.var 6)) (.cons (.idx (.idx (.var 1) (.int 2)) (.var 6)) .nil)))) (.seq (.ite (.cmp .notin (.var 7) (.var 4)) (.expr (.mut .append 4 (.cons (.var 7) .nil))) .skip) (.expr (.mut .append 5 (.cons (.bm .index (.var 4) (.cons (.var 7) .nil)) .nil)))))) (.seq (.ite (.cmp .gt (.bi .len (.cons (.var 4) .nil)) (.int 4)) (.ret (.str "kinds")) .skip) (.seq (.asg false (.name 3) (.comp (.bin .add (.idx (.idx (.var 0) (.int 3)) (.var 10)) (.idx (.idx (.var 1) (.int 3)) (.var 11))) (.tup [10, 11]) (.isq (.var 4)) .nil [10, 11])) (.seq (.ite (.cmp .gt (.bi .max (.cons (.comp (.bi .len (.cons (.var 12) .nil)) (.name 12) (.isq (.var 3)) .nil [12]) .nil)) (.int 8)) (.ret (.str "rules")) .skip) (.ret (.tup (.cons (.idx (.var 0) (.int 0)) (.cons (.idx (.var 1) (.int 1)) (.cons (.bi .tuple (.cons (.var 5) .nil)) (.cons (.bi .tuple (.cons (.var 3) .nil)) .nil))))))))))))))))
/-- _law_wide(_law_feed_here, _law_eyes, _law_sizes, _law_boxes): 0 _law_feed_here, 1 _law_eyes, 2 _law_sizes, 3 _law_boxes, 4 _law_kinds, 5 _law_rules_here, 6 _law_hand, 7 _law_kind, 8 _law_k -/
def N15 : List Str := ["_law_feed_here", "_law_eyes", "_law_sizes", "_law_boxes", "_law_kinds", "_law_rules_here", "_law_hand", "_law_kind", "_law_k"]
def b15 : S := (.seq (.asg false (.name 4) (.bi .tuple (.cons (.comp (.call 5 (.cons (.var 0) (.cons (.int 4) .nil))) (.name 6) (.isq (.var 1)) .nil [6]) .nil))) (.seq (.asg false (.name 5) (.bi .tuple (.cons (.comp (.bi .tuple (.cons (.comp (.call 9 (.cons (.var 0) (.cons (.var 2) (.cons (.var 3) .nil)))) (.name 8) (.rng1 (.call 5 (.cons (.var 0) (.cons (.int 2) .nil)))) .nil [8]) .nil)) (.name 7) (.rng1 (.int 4)) .nil [7]) .nil))) (.ret (.tup (.cons (.var 1) (.cons (.var 2) (.cons (.var 4) (.cons (.var 5) .nil))))))))
/-- _law_others(_law_feed_here, _law_lower, _law_upper_here): 0 _law_feed_here, 1 _law_lower, 2 _law_upper_here, 3 _law_rule_here, 4 _law_many, 5 _law_others_here, 6 _law_found, 7 _law_six, 8 _law_eyes, 9 _law_sizes, 10 _law_kinds, 11 _law_rules_here, 12 _law_other, 13 _law_hand -/
def N16 : List Str := ["_law_feed_here", "_law_lower", "_law_upper_here", "_law_rule_here", "_law_many", "_law_others_here", "_law_found", "_law_six", "_law_eyes", "_law_sizes", "_law_kinds", "_law_rules_here", "_law_other", "_law_hand"]
def b16 : S := (.seq (.asg false (.tup [8, 9, 10, 11]) (.var 2)) (.seq (.asg false (.name 3) (.tup (.cons (.tup (.cons (.str "yes") .nil)) (.cons (.tup (.cons (.tup (.cons (.int 0) (.cons (.tup (.cons (.str "num") (.cons (.int 1) .nil))) .nil))) (.cons (.tup (.cons (.bi .len (.cons (.idx (.var 1) (.int 1)) .nil)) (.cons (.tup (.cons (.str "num") (.cons (.int 1) .nil))) .nil))) .nil))) .nil)))) (.seq (.asg false (.name 4) (.tup (.cons (.tup (.cons (.str "yes") .nil)) (.cons (.tup (.cons (.tup (.cons (.bi .len (.cons (.idx (.var 1) (.int 1)) .nil)) (.cons (.tup (.cons (.str "num") (.cons (.int 1) .nil))) .nil))) .nil)) .nil)))) (.seq (.asg true (.name 5) (.lst (.cons (.tup (.cons (.bin .add (.slice (.var 8) .nil (.tval (.neg (.int 1)))) (.tup (.cons (.slice (.idx (.var 8) (.neg (.int 1))) (.tval (.int 1)) .nil) .nil))) (.cons (.var 9) (.cons (.var 10) (.cons (.var 11) .nil))))) (.cons (.var 1) (.cons (.tup (.cons (.var 8) (.cons (.var 9) (.cons (.var 10) (.cons (.bin .add (.tup (.cons (.tup (.cons (.var 3) .nil)) .nil)) (.slice (.var 11) (.tval (.int 1)) .nil)) .nil))))) .nil))))) (.seq (.expr (.mut .append 5 (.cons (.tup (.cons (.var 8) (.cons (.var 9) (.cons (.var 10) (.cons (.bin .mul (.tup (.cons (.bin .mul (.tup (.cons (.var 4) .nil)) (.int 7)) .nil)) (.int 2)) .nil))))) .nil))) (.seq (.expr (.mut .append 5 (.cons (.tup (.cons (.var 8) (.cons (.bin .add (.tup (.cons (.bin .sub (.int 5) (.idx (.var 9) (.int 0))) .nil)) (.slice (.var 9) (.tval (.int 1)) .nil)) (.cons (.var 10) (.cons (.bin .mul (.tup (.cons (.tup .nil) .nil)) (.int 2)) .nil))))) .nil))) (.seq (.asg false (.name 6) (.bin .add (.comp (.tup (.cons (.var 1) (.cons (.var 12) .nil))) (.name 12) (.isq (.var 5)) .nil [12]) (.lst (.cons (.tup (.cons (.var 2) (.cons (.var 1) .nil))) .nil)))) (.seq (.asg false (.name 7) (.bi .tuple (.cons (.comp (.tup (.cons (.bin .sub (.var 13) (.int 1)) .nil)) (.name 13) (.rng2 (.int 1) (.int 7)) .nil [13]) .nil))) (.seq (.asg false (.name 7) (.bin .add (.tup (.cons (.tup (.cons (.int 1) .nil)) .nil)) (.slice (.var 7) .nil (.tval (.int 5))))) (.ret (.bin .add (.var 6) (.lst (.cons (.tup (.cons (.call 15 (.cons (.var 0) (.cons (.var 7) (.cons (.tup (.cons (.int 2) .nil)) (.cons (.lst (.cons (.int 0) .nil)) .nil))))) (.cons (.call 15 (.cons (.var 0) (.cons (.var 7) (.cons (.tup (.cons (.int 2) (.cons (.int 2) .nil))) (.cons (.lst (.cons (.int 1) .nil)) .nil))))) .nil))) .nil)))))))))))))
/-- _law_faulty(_law_feed_here, _law_lower, _law_upper_here, _law_word): 0 _law_feed_here, 1 _law_lower, 2 _law_upper_here, 3 _law_word, 4 _law_few, 5 _law_eyes, 6 _law_sizes, 7 _law_kinds, 8 _law_rules_here, 9 _law_hand, 10 _law_others_here, 11 _law_box, 12 _law_kind, 13 _law_some, 14 _law_rule_here, 15 _law_one -/
def N17 : List Str := ["_law_feed_here", "_law_lower", "_law_upper_here", "_law_word", "_law_few", "_law_eyes", "_law_sizes", "_law_kinds", "_law_rules_here", "_law_hand", "_law_others_here", "_law_box", "_law_kind", "_law_some", "_law_rule_here", "_law_one"]
def b17 : S := (.seq (.asg false (.tup [5, 6, 7, 8]) (.var 2)) (.seq (.asg false (.name 4) (.bi .len (.cons (.idx (.var 1) (.int 1)) .nil))) (.seq (.ite (.cmp .eq (.var 3) (.str "eyes")) (.seq (.asg false (.name 9) (.call 5 (.cons (.var 0) (.cons (.bi .len (.cons (.var 5) .nil)) .nil)))) (.seq (.asg false (.name 10) (.comp (.var 15) (.name 15) (.rng1 (.bi .len (.cons (.var 5) .nil))) (.cons (.and (.cmp .ne (.var 15) (.var 9)) (.cmp .notin (.var 15) (.idx (.var 5) (.var 9)))) .nil) [15])) (.asg false (.name 5) (.bin .add (.bin .add (.slice (.var 5) .nil (.tval (.var 9))) (.tup (.cons (.or (.slice (.idx (.var 5) (.var 9)) .nil (.tval (.neg (.int 1)))) (.bi .tuple (.cons (.slice (.var 10) .nil (.tval (.int 1))) .nil))) .nil))) (.slice (.var 5) (.tval (.bin .add (.var 9) (.int 1))) .nil))))) .skip) (.seq (.ite (.cmp .eq (.var 3) (.str "sizes")) (.seq (.asg false (.name 11) (.call 5 (.cons (.var 0) (.cons (.var 4) .nil)))) (.asg false (.name 6) (.bin .add (.bin .add (.slice (.var 6) .nil (.tval (.var 11))) (.tup (.cons (.bin .sub (.int 5) (.idx (.var 6) (.var 11))) .nil))) (.slice (.var 6) (.tval (.bin .add (.var 11) (.int 1))) .nil)))) .skip) (.seq (.ite (.and (.cmp .eq (.var 3) (.str "kinds")) (.cmp .gt (.bi .len (.cons (.var 5) .nil)) (.int 5))) (.seq (.asg false (.name 1) (.bin .add (.bin .add (.slice (.var 1) .nil (.tval (.int 2))) (.tup (.cons (.tup (.cons (.int 0) (.cons (.int 1) (.cons (.int 2) (.cons (.int 3) (.cons (.int 0) (.cons (.int 1) .nil))))))) .nil))) (.slice (.var 1) (.tval (.int 3)) .nil))) (.asg false (.name 7) (.tup (.cons (.int 0) (.cons (.int 1) (.cons (.int 2) (.cons (.int 3) (.cons (.int 0) (.cons (.call 5 (.cons (.var 0) (.cons (.int 4) .nil))) .nil))))))))) .skip) (.seq (.ite (.cmp .isin (.var 3) (.tup (.cons (.str "lays") (.cons (.str "rules") .nil)))) (.seq (.asg false (.name 12) (.idx (.var 7) (.call 5 (.cons (.var 0) (.cons (.bi .len (.cons (.var 7) .nil)) .nil))))) (.seq (.asg true (.name 13) (.slice (.bi .list (.cons (.idx (.var 8) (.var 12)) .nil)) .nil (.tval (.int 7)))) (.seq (.asg false (.name 14) (.tup (.cons (.tup (.cons (.str "yes") .nil)) (.cons (.tup (.cons (.tup (.cons (.var 4) (.cons (.tup (.cons (.str "num") (.cons (.int 1) .nil))) .nil))) .nil)) .nil)))) (.seq (.ite (.cmp .eq (.var 3) (.str "lays")) (.asg false (.name 14) (.tup (.cons (.tup (.cons (.str "yes") .nil)) (.cons (.tup (.cons (.tup (.cons (.call 5 (.cons (.var 0) (.cons (.var 4) .nil))) (.cons (.tup (.cons (.str "num") (.cons (.int 1) .nil))) .nil))) .nil)) .nil)))) .skip) (.seq (.expr (.mut .insert 13 (.cons (.call 5 (.cons (.var 0) (.cons (.bin .add (.bi .len (.cons (.var 13) .nil)) (.int 1)) .nil))) (.cons (.var 14) .nil)))) (.seq (.asg true (.name 13) (.slice (.bin .add (.var 13) (.bin .mul (.bin .mul (.lst (.cons (.var 14) .nil)) (.int 8)) (.bi .int (.cons (.cmp .eq (.var 3) (.str "rules")) .nil)))) .nil (.tval (.int 8)))) (.asg false (.name 8) (.bin .add (.bin .add (.slice (.var 8) .nil (.tval (.var 12))) (.tup (.cons (.bi .tuple (.cons (.var 13) .nil)) .nil))) (.slice (.var 8) (.tval (.bin .add (.var 12) (.int 1))) .nil))))))))) .skip) (.ret (.tup (.cons (.var 1) (.cons (.tup (.cons (.var 5) (.cons (.var 6) (.cons (.var 7) (.cons (.var 8) .nil))))) .nil))))))))))
/-- _law_several(_law_feed_here, _law_lower, _law_upper_here): 0 _law_feed_here, 1 _law_lower, 2 _law_upper_here, 3 _law_words, 4 _law_first, 5 _law_leap, 6 _law_pair, 7 _law_k -/
def N18 : List Str := ["_law_feed_here", "_law_lower", "_law_upper_here", "_law_words", "_law_first", "_law_leap", "_law_pair", "_law_k"]
def b18 : S := (.seq (.asg false (.name 3) (.lst (.cons (.str "eyes") (.cons (.str "sizes") (.cons (.str "lays") (.cons (.str "kinds") (.cons (.str "rules") .nil))))))) (.seq (.asg false (.name 4) (.call 5 (.cons (.var 0) (.cons (.int 5) .nil)))) (.seq (.asg false (.name 5) (.bin .add (.int 1) (.call 5 (.cons (.var 0) (.cons (.int 4) .nil))))) (.seq (.asg false (.name 6) (.tup (.cons (.var 1) (.cons (.var 2) .nil)))) (.seq (.for (.name 7) (.rng1 (.bin .add (.int 2) (.call 5 (.cons (.var 0) (.cons (.int 3) .nil))))) (.asg false (.name 6) (.call 17 (.cons (.var 0) (.cons (.idx (.var 6) (.int 0)) (.cons (.idx (.var 6) (.int 1)) (.cons (.idx (.var 3) (.bin .mod (.bin .add (.var 4) (.bin .mul (.var 5) (.var 7))) (.int 5))) .nil))))))) (.ret (.var 6)))))))
/-- law(_law_script): 0 _law_script, 1 _law_feed_here, 2 _law_k, 3 _law_lower, 4 _law_upper_here, 5 _law_pairs, 6 _law_wide_here, 7 _law_turn, 8 _law_kept, 9 _law_stand, 10 _law_few, 11 _law_one, 12 _law_other, 13 _law_hand, 14 _law_size, 15 _law_boxes -/
def N19 : List Str := ["_law_script", "_law_feed_here", "_law_k", "_law_lower", "_law_upper_here", "_law_pairs", "_law_wide_here", "_law_turn", "_law_kept", "_law_stand", "_law_few", "_law_one", "_law_other", "_law_hand", "_law_size", "_law_boxes"]
def b19 : S := (.seq (.asg true (.name 1) (.call 4 (.cons (.var 0) .nil))) (.seq (.for (.name 2) (.rng1 (.int 2)) (.seq (.asg false (.name 3) (.call 11 (.cons (.var 1) .nil))) (.seq (.asg false (.name 4) (.call 12 (.cons (.var 1) (.cons (.var 3) .nil)))) (.seq (.asg false (.name 5) (.bin .add (.lst (.cons (.tup (.cons (.var 3) (.cons (.var 4) .nil))) .nil)) (.call 16 (.cons (.var 1) (.cons (.var 3) (.cons (.var 4) .nil)))))) (.seq (.asg false (.name 6) (.idx (.var 5) (.neg (.int 1)))) (.seq (.for (.name 7) (.rng1 (.int 2)) (.asg false (.name 5) (.bin .add (.var 5) (.lst (.cons (.call 18 (.cons (.var 1) (.cons (.var 3) (.cons (.var 4) .nil)))) (.cons (.call 18 (.cons (.var 1) (.cons (.idx (.var 6) (.int 0)) (.cons (.idx (.var 6) (.int 1)) .nil)))) .nil)))))) (.seq (.asg false (.name 8) (.bi .repr (.cons (.var 5) .nil))) (.seq (.for (.tup [11, 12]) (.isq (.var 5)) (.ite (.not (.tval (.call 6 (.cons (.call 13 (.cons (.var 11) (.cons (.var 12) .nil))) (.cons (.call 14 (.cons (.var 11) (.cons (.var 12) .nil))) .nil))))) (.ret (.bool false)) .skip)) (.seq (.asg false (.name 9) (.bi .tuple (.cons (.comp (.bi .tuple (.cons (.comp (.call 5 (.cons (.var 1) (.cons (.var 14) .nil))) (.name 14) (.isq (.idx (.var 4) (.int 1))) .nil [14]) .nil)) (.name 13) (.isq (.idx (.var 4) (.int 0))) .nil [13]) .nil))) (.seq (.asg false (.name 10) (.bi .len (.cons (.idx (.var 3) (.int 1)) .nil))) (.seq (.ite (.not (.tval (.call 6 (.cons (.call 3 (.cons (.var 3) (.cons (.var 9) .nil))) (.cons (.bi .tuple (.cons (.comp (.slice (.var 15) .nil (.tval (.var 10))) (.name 15) (.isq (.var 9)) .nil [15]) .nil)) .nil))))) (.ret (.bool false)) .skip) (.ite (.cmp .ne (.bi .repr (.cons (.var 5) .nil)) (.var 8)) (.ret (.bool false)) .skip)))))))))))) (.ret (.bool true))))
def T : List FD := [⟨2, 7, b0⟩, ⟨2, 4, b1⟩, ⟨2, 10, b2⟩, ⟨2, 3, b3⟩, ⟨1, 1, b4⟩, ⟨2, 6, b5⟩, ⟨2, 4, b6⟩, ⟨4, 8, b7⟩, ⟨4, 7, b8⟩, ⟨3, 6, b9⟩, ⟨4, 8, b10⟩, ⟨1, 7, b11⟩, ⟨2, 6, b12⟩, ⟨2, 4, b13⟩, ⟨2, 15, b14⟩, ⟨4, 9, b15⟩, ⟨3, 14, b16⟩, ⟨4, 16, b17⟩, ⟨3, 8, b18⟩, ⟨1, 16, b19⟩]
def gd : List D := [.int 4, .int 8]
def G (k : Nat) : D := gd.getD k .none
end K73

end

section
set_option Elab.async false
set_option linter.all false
set_option maxRecDepth 100000
set_option maxHeartbeats 1000000
open PySem PX
namespace K73
theorem tk {n : Nat} : TkC (callN T G (n + 1)) 5 := fun m h h2 => take_fd (T := T) (t := 5) rfl h h2
theorem term0 {n : Nat} {zs : List D} {inner : Bool} (hz : 0 < zs.length) (hz2 : zs.length ≤ 60) : FdC (callN T G (n + 2)) 7 [.tup zs, .int 0, .bool inner] 8 false (Pl 1 60) := by
  refine fdC_intro (T := T) rfl rfl fun d B hF hB => ?_
  have hT := tk (n := n)
  generalize callN T G (n + 1) = C at hT
  show Ws C G b7 [.own true d, .val (.tup zs), .val (.int 0), .val (.bool inner), .unset, .unset, .unset, .unset] _ no
  unfold b7
  cases inner
  all_goals walk_at "go"
  all_goals walk_at "fin"
theorem claim0 {n : Nat} {zs : List D} {inner : Bool} (hz : 0 < zs.length) (hz2 : zs.length ≤ 60) : FdC (callN T G (n + 3)) 8 [.tup zs, .int 0, .bool inner] 32 false (Pl 2 160) := by
  refine fdC_intro (T := T) rfl rfl fun d B hF hB => ?_
  have hT := tk (n := n + 1)
  have h7 := term0 (n := n) (inner := inner) hz hz2
  generalize callN T G (n + 2) = C at hT h7
  show Ws C G b8 [.own true d, .val (.tup zs), .val (.int 0), .val (.bool inner), .unset, .unset, .unset] _ no
  unfold b8
  walk_at "go"
  all_goals walk_at "fin"
end K73

end

section
set_option Elab.async false
set_option linter.all false
set_option maxRecDepth 100000
set_option maxHeartbeats 2000000
open PySem PX
namespace K73
theorem term1 {n : Nat} {zs : List D} {inner : Bool} (hz : 0 < zs.length) (hz2 : zs.length ≤ 60) : FdC (callN T G (n + 4)) 7 [.tup zs, .int 1, .bool inner] 64 false (Pl 3 400) := by
  refine fdC_intro (T := T) rfl rfl fun d B hF hB => ?_
  have hT := tk (n := n + 2)
  have h7 := term0 (n := n + 1) (inner := inner) hz hz2
  have h7t := term0 (n := n + 1) (inner := true) hz hz2
  have h8 := claim0 (n := n) (inner := inner) hz hz2
  have h8t := claim0 (n := n) (inner := true) hz hz2
  generalize callN T G (n + 3) = C at hT h7 h8 h7t h8t
  show Ws C G b7 [.own true d, .val (.tup zs), .val (.int 1), .val (.bool inner), .unset, .unset, .unset, .unset] _ no
  unfold b7
  cases inner
  all_goals walk_at "go"
  all_goals walk_at "fin"
theorem claim1 {n : Nat} {zs : List D} {inner : Bool} (hz : 0 < zs.length) (hz2 : zs.length ≤ 60) : FdC (callN T G (n + 5)) 8 [.tup zs, .int 1, .bool inner] 512 false (Pl 4 600) := by
  refine fdC_intro (T := T) rfl rfl fun d B hF hB => ?_
  have hT := tk (n := n + 3)
  have h7 := term0 (n := n + 2) (inner := inner) hz hz2
  have h71 := term1 (n := n) (inner := inner) hz hz2
  have h8 := claim0 (n := n + 1) (inner := inner) hz hz2
  generalize callN T G (n + 4) = C at hT h7 h71 h8
  show Ws C G b8 [.own true d, .val (.tup zs), .val (.int 1), .val (.bool inner), .unset, .unset, .unset] _ no
  unfold b8
  walk_at "go"
  all_goals walk_at "fin"
end K73

end

section
set_option Elab.async false
set_option linter.all false
set_option maxRecDepth 100000
set_option maxHeartbeats 2000000
open PySem PX
namespace K73
def LayOk (y : D) : Prop := ∃ (b : Int) (t : D), y = .tup [.int b, t] ∧ 0 ≤ b ∧ b ≤ 60 ∧ Pl 3 400 t
def RuleOk (d : D) : Prop := ∃ c lays, d = .tup [c, .tup lays] ∧ Pl 4 600 c ∧ lays.length ≤ 3 ∧ ∀ y ∈ lays, LayOk y
theorem rule {n : Nat} {zs : List D} {bs : List Int} (hz : 0 < zs.length) (hz2 : zs.length ≤ 60) (hb : bs.length ≤ 3) (hb2 : ∀ b ∈ bs, 0 ≤ b ∧ b ≤ 60) : FdC (callN T G (n + 6)) 9 [.tup zs, .lst (bs.map .int)] 2048 false RuleOk := by
  refine fdC_intro (T := T) rfl rfl fun d B hF hB => ?_
  have hT := tk (n := n + 4)
  have h71 := term1 (n := n + 1) (inner := false) hz hz2
  have h81 := claim1 (n := n) (inner := false) hz hz2
  generalize callN T G (n + 5) = C at hT h71 h81
  show Ws C G b9 [.own true d, .val (.tup zs), .val (.lst (bs.map .int)), .unset, .unset, .unset] _ no
  unfold b9
  repeat walk_at "ex"
  dsimp only
  refine ⟨rfl, by simp only [List.length_map]; unfold lim; omega, ?_⟩
  refine comp_fd (i := 0) (p := true) (n := 1) (P := fun y => ∃ b : Int, y = .int b ∧ 0 ≤ b ∧ b ≤ 60) (by decide) rfl hF (by simp only [List.length_map]; omega) (fun x hx d' B' hF' hB' => ?_) fun out d' ρ' ho _ hP hF' hb => ?_
  · obtain ⟨b, hb3, rfl⟩ := List.mem_map.mp hx
    walk_at "nb"
    walk_at "go"
    · exact ⟨⟨b, rfl, hb2 b hb3⟩, _, ‹Fd (B' + 1) _›, rfl⟩
    · exact ⟨_, ‹Fd (B' + 1) _›, rfl⟩
  · simp only [List.length_map] at ho hF'
    have key : ∀ some : List D, some.length ≤ 3 → (∀ y ∈ some, ∃ b : Int, y = .int b ∧ 0 ≤ b ∧ b ≤ 60) → Ws C G (.seq (.asg false (.name 4) (.call 8 (.cons (.var 0) (.cons (.var 1) (.cons (.int 1) (.cons (.bool false) .nil)))))) (.ret (.tup (.cons (.var 4) (.cons (.bi .tuple (.cons (.comp (.tup (.cons (.var 5) (.cons (.call 7 (.cons (.var 0) (.cons (.var 1) (.cons (.int 1) (.cons (.bool false) .nil))))) .nil))) (.name 5) (.isq (.var 3)) .nil [5]) .nil)) .nil)))))
       [.own true d', .val (.tup zs), .val (.lst (bs.map .int)), .val (.lst some), .unset, .unset] (fun fl ρ => ∃ r d', fl = .ret r false ∧ RuleOk r ∧ Fd (B + 2048) d' ∧ ρ.take 3 = .own true d' :: [D.tup zs, .lst (bs.map .int)].map .val) no := by
      intro some hs1 hs2
      walk_at "go"
      dsimp only
      refine ⟨rfl, by unfold lim; omega, ?_⟩
      refine comp_fd (i := 0) (p := true) (n := 64) (P := LayOk) (by decide) rfl ‹Fd _ _› (by omega) (fun x hx d' B' hF' hB' => ?_) fun out d' ρ' ho _ hP hF' hb => ?_
      · obtain ⟨b, rfl, hb3, hb4⟩ := hs2 x hx
        walk_at "nb"
        walk_at "go"
        refine ⟨⟨b, _, rfl, hb3, hb4, ‹Pl 3 400 _›⟩, ?_⟩
        walk_at "fe"
      · rw [hb]
        walk_at "nb"
        walk_at "go"
        exact ⟨_, _, rfl, ⟨_, _, rfl, ‹Pl 4 600 _›, by omega, hP⟩, Fd.mono hF' (by omega), rfl⟩
    repeat walk_at "ex"
    refine if_b (fun h => ?_) (fun h => ?_)
    · rw [hb]
      walk_at "nb"
      exact as_val rfl rfl (th_nx (key out (by omega) hP))
    · rw [hb]
      walk_at "nb"
      refine we_slice (wd_val rfl (wo_nil (wo_val (wd_nv (we_int ⟨rfl, ag_val rfl (sl_of rfl ?_)⟩) rfl))))
      refine as_val rfl rfl (th_nx (key _ (Nat.le_trans (cut_len _ _ _) (by rw [List.length_map]; omega)) fun y hy => ?_))
      obtain ⟨b, hb3, rfl⟩ := List.mem_map.mp (cut_mem hy)
      exact ⟨b, rfl, hb2 b hb3⟩
end K73

end

section
set_option Elab.async false
set_option linter.all false
set_option maxRecDepth 100000
set_option maxHeartbeats 2000000
open PySem PX
namespace K73
def RsOk (y : D) : Prop := ∃ r, y = .tup r ∧ r.length ≤ 8 ∧ ∀ x ∈ r, RuleOk x
theorem ir_mem {m : Int} {x : D} (h : x ∈ irange 0 m) : IntIn m x := by
  unfold irange at h
  obtain ⟨k, hk, rfl⟩ := List.mem_map.mp h
  rw [List.mem_range] at hk
  exact ⟨_, rfl, by omega, by omega⟩
theorem ir_len {m : Int} : (irange 0 m).length = m.toNat := by unfold irange; rw [List.length_map, List.length_range]; simp
theorem rOk_of {m : Int} (h : 0 ≤ m) (h2 : m ≤ 1000) : rOk 0 m = true := by
  unfold rOk lim
  simp only [Bool.and_eq_true, decide_eq_true_eq]
  omega
theorem rules {n : Nat} {zs : List D} {bs : List Int} {M : Int} (hz : 0 < zs.length) (hz2 : zs.length ≤ 60) (hb : bs.length ≤ 3) (hb2 : ∀ b ∈ bs, 0 ≤ b ∧ b ≤ 60) (hM : 0 ≤ M) (hM2 : M ≤ 7) : FdC (callN T G (n + 7)) 10 [.tup zs, .lst (bs.map .int), .int M] 40000 false (fun r => ∃ l, r = .tup l ∧ l.length = 2 ∧ ∀ y ∈ l, RsOk y) := by
  refine fdC_intro (T := T) rfl rfl fun d B hF hB => ?_
  have hT := tk (n := n + 5)
  have h9 := rule (n := n) hz hz2 hb hb2
  generalize callN T G (n + 6) = C at hT h9
  show Ws C G b10 [.own true d, .val (.tup zs), .val (.lst (bs.map .int)), .val (.int M), .unset, .unset, .unset, .unset] _ no
  unfold b10
  walk_at "go"
  dsimp only
  refine ⟨rfl, by decide, ?_⟩
  refine comp_fd (i := 0) (p := true) (n := 1) (P := IntIn (M + 1)) (by decide) rfl hF (by rw [ir_len]; omega) (fun x hx d' B' hF' hB' => ?_) fun out d' ρ' ho ho2 hP hF' hb => ?_
  · walk_at "nb"
    walk_at "go"
    refine ⟨⟨_, rfl, by omega, by omega⟩, ?_⟩
    walk_at "fe"
  · rw [ir_len] at hF'
    rw [hb]
    walk_at "nb"
    walk_at "go"
    dsimp only
    have hol : out.length = 2 := by rw [ho2 rfl, ir_len]; rfl
    refine ⟨rfl, by rw [hol]; decide, ?_⟩
    refine comp_fd (i := 0) (p := true) (n := 16384) (P := RsOk) (by decide) rfl hF' (by rw [hol]; omega) (fun x hx d1 B1 hF1 hB1 => ?_) fun out2 d2 ρ2 ho3 ho4 hP2 hF2 hb3 => ?_
    · obtain ⟨i, rfl, hi, hi2⟩ := hP x hx
      walk_at "nb"
      repeat walk_at "ex"
      refine r1_of (rOk_of hi (by omega)) ?_
      dsimp only
      have hl : (irange 0 i).length ≤ 7 := by rw [ir_len]; omega
      refine ⟨rfl, by unfold lim; omega, ?_⟩
      refine comp_fd (i := 0) (p := true) (n := 2048) (P := RuleOk) (by decide) rfl hF1 (by omega) (fun x hx d3 B3 hF3 hB3 => ?_) fun out3 d3 ρ3 ho5 ho6 hP3 hF3 hb5 => ?_
      · walk_at "nb"
        walk_at "go"
        refine ⟨‹RuleOk _›, ?_⟩
        walk_at "fe"
      · rw [hb5]
        walk_at "nb"
        walk_at "go"
        exact ⟨⟨_, rfl, by omega, hP3⟩, _, Fd.mono hF3 (by omega), rfl⟩
    · rw [hb3]
      walk_at "nb"
      walk_at "go"
      exact ⟨_, _, rfl, ⟨_, rfl, by rw [ho4 rfl, hol], hP2⟩, Fd.mono hF2 (by rw [hol]; omega), rfl⟩
end K73

end

section
set_option Elab.async false
set_option linter.all false
set_option maxRecDepth 100000
set_option maxHeartbeats 2000000
open PySem PX
namespace K73
def EyeOk (y : D) : Prop := ∃ l, y = .tup l ∧ l.length ≤ 6 ∧ ∀ i ∈ l, IntIn 60 i
def SzOk (y : D) : Prop := ∃ i : Int, y = .int i ∧ 2 ≤ i ∧ i ≤ 3
structure Sy (e z k r : List D) : Prop where
  e0 : 0 < e.length
  e6 : e.length ≤ 6
  ee : ∀ y ∈ e, EyeOk y
  z0 : 0 < z.length
  z3 : z.length ≤ 3
  zz : ∀ y ∈ z, SzOk y
  kl : k.length = e.length
  kk : ∀ y ∈ k, IntIn r.length y
  r0 : 0 < r.length
  r4 : r.length ≤ 4
  rr : ∀ y ∈ r, RsOk y
  six : e.length ≤ 5 ∨ (e.length = 6 ∧ r.length = 4)
abbrev sysD (e z k r : List D) : D := .tup [.tup e, .tup z, .tup k, .tup r]
theorem ir_eq (lo hi : Int) : irange lo hi = ((List.range (hi - lo).toNat).map fun k => lo + (k : Nat)).map D.int := by unfold irange; rw [List.map_map]; rfl
theorem rulesR {n : Nat} {zs : List D} {lo M : Int} (hz : 0 < zs.length) (hz2 : zs.length ≤ 3) (hlo : 0 ≤ lo) (hM : 0 ≤ M) (hM2 : M ≤ 7) : FdC (callN T G (n + 7)) 10 [.tup zs, .lst (irange lo (zs.length : Nat)), .int M] 40000 false (fun r => ∃ l, r = .tup l ∧ l.length = 2 ∧ ∀ y ∈ l, RsOk y) := by
  rw [ir_eq]
  refine rules hz (by omega) (by rw [List.length_map, List.length_range]; omega) (fun b hb => ?_) hM hM2
  obtain ⟨k, hk, rfl⟩ := List.mem_map.mp hb
  rw [List.mem_range] at hk
  omega
theorem rOk_of2 {lo m : Int} (h : 0 ≤ lo) (h3 : lo ≤ 1000) (h1 : 0 ≤ m) (h2 : m ≤ 1000) : rOk lo m = true := by
  unfold rOk lim
  simp only [Bool.and_eq_true, decide_eq_true_eq]
  omega
def DrOk (d : D) : Prop := ∃ e z k r, d = sysD e z k r ∧ Sy e z k r ∧ r.length = 2 ∧ e.length ≤ 3 ∧ z.length ≤ 2
theorem drawn {n : Nat} : FdC (callN T G (n + 8)) 11 [] 50000 false DrOk := by
  refine fdC_intro (T := T) rfl rfl fun d B hF hB => ?_
  have hT := tk (n := n + 6)
  have h10 : ∀ zs : List D, 0 < zs.length → zs.length ≤ 3 → FdC (callN T G (n + 7)) 10 [.tup zs, .lst (irange 0 (zs.length : Nat)), .int 2] 40000 false (fun r => ∃ l, r = .tup l ∧ l.length = 2 ∧ ∀ y ∈ l, RsOk y) := fun zs h1 h2 => rulesR (n := n) h1 h2 (by decide) (by decide) (by decide)
  generalize callN T G (n + 7) = C at hT h10
  show Ws C G b11 [.own true d, .unset, .unset, .unset, .unset, .unset, .unset] _ no
  unfold b11
  refine ws_cut3 (fun ρ => ∃ (d2 : D) (r : Int) (zs : List D), ρ = [.own true d2, .val (.int (1 + r)), .val (.tup zs), .unset, .unset, .unset, .unset] ∧ 0 ≤ r ∧ r < 3 ∧ Fd (B + 2) d2 ∧ 0 < zs.length ∧ zs.length ≤ 2 ∧ ∀ y ∈ zs, SzOk y) ?_ ?_
  · walk_at "go"
    all_goals
      refine ⟨rfl, _, _, _, rfl, by omega, by omega, Fd.mono ‹Fd _ _› (by omega), by decide, by decide, ?_⟩
      intro y hy
      simp only [List.mem_cons, List.not_mem_nil, or_false, or_self] at hy
    all_goals first
      | (subst hy; exact ⟨_, rfl, by decide, by decide⟩)
      | (rcases hy with hy | hy <;> (subst hy; exact ⟨_, rfl, by decide, by decide⟩))
  · intro ρ ⟨d2, r, zs, e, h0, h1, hF2, hz, hz2, hz3⟩
    subst e
    repeat walk_at "ex"
    refine r1_of (rOk_of (by omega) (by omega)) ?_
    refine ⟨rfl, ?_⟩
    have hil : ((irange 0 (1 + r)).length : Int) = 1 + r := by rw [ir_len]; omega
    refine wp_forL (fun done ρ => ∃ (d' : D) (es : List D) (x : Cell), Fd (B + 2 + done.length * 4) d' ∧ es.length = done.length ∧ (∀ y ∈ es, EyeOk y) ∧ Free (some x) = true ∧ ρ = [.own true d', .val (.int (1 + r)), .val (.tup zs), .own false (.lst es), x, .unset, .unset]) _ [] _ ⟨d2, [], .unset, by simpa using hF2, rfl, nofun, rfl, rfl⟩ ?_ ?_
    · intro pre x post ρ hs ⟨d', es, xc, hF3, hes, hes2, hx, hρ⟩
      subst hρ
      have hpl : (pre.length : Int) ≤ r := by
        have := congrArg List.length hs
        simp at this
        omega
      rw [wp_bind]
      refine bt_name hx ?_
      have hxm : IntIn (1 + r) x := ir_mem (by
        have : x ∈ [] ++ irange 0 (1 + r) := by rw [hs]; simp
        simpa using this)
      obtain ⟨i, rfl, hi, hi2⟩ := hxm
      show Ws C G _ _ _ no
      dsimp only [List.set_cons_zero, List.set_cons_succ]
      repeat walk_at "ex"
      refine r1_of (rOk_of (by omega) (by omega)) ?_
      dsimp only
      refine ⟨rfl, by unfold lim; omega, ?_⟩
      refine comp_fd (i := 0) (p := true) (n := 1) (P := IntIn 60) (by decide) rfl hF3 (by omega) (fun x hx d3 B3 hF3 hB3 => ?_) fun out3 d3 ρ3 ho5 ho6 hP3 hF3 hb5 => ?_
      · obtain ⟨j, rfl, hj, hj2⟩ := ir_mem hx
        walk_at "nb"
        walk_at "go"
        all_goals first
          | (refine ⟨⟨_, rfl, by omega, by omega⟩, ?_⟩; walk_at "fe")
          | walk_at "fe"
      · rw [hb5]
        walk_at "nb"
        repeat walk_at "ex"
        refine mi_app rfl (by unfold lim; omega) ?_
        refine ⟨d3, _, _, Fd.mono hF3 (by simp only [List.length_append, List.length_cons, List.length_nil]; omega), ?_, mem_app hes2 ⟨_, rfl, by omega, hP3⟩, ?_, rfl⟩
        · simp only [List.length_append, List.length_cons, List.length_nil]; omega
        · rfl
    · intro ρ ⟨d', es, xc, hF3, hes, hes2, hx, hρ⟩
      subst hρ
      simp only [List.nil_append] at hF3 hes
      repeat walk_at "ex"
      refine r1_of (rOk_of (by omega) (by omega)) ?_
      dsimp only
      refine ⟨rfl, by unfold lim; omega, ?_⟩
      refine comp_fd (i := 0) (p := true) (n := 1) (P := IntIn 2) (by decide) rfl hF3 (by omega) (fun x hx d3 B3 hF3 hB3 => ?_) fun out3 d3 ρ3 ho5 ho6 hP3 hF3 hb5 => ?_
      · walk_at "nb"
        walk_at "go"
        refine ⟨⟨_, rfl, by omega, by omega⟩, ?_⟩
        walk_at "fe"
      · rw [hb5]
        walk_at "nb"
        repeat walk_at "ex"
        refine bf_of (r := (.lst (irange 0 (zs.length : Nat)), true)) (by show (if _ then _ else _) = _; rw [if_pos (rOk_of (by omega) (by omega))]) ?_
        have h10' := h10 zs hz (by omega)
        repeat walk_at "ex"
        walk_at "go"
        rename_i r4 d4 hr4 hF4
        obtain ⟨l, rfl, hl, hl2⟩ := hr4
        refine ⟨_, _, rfl, ⟨es, zs, out3, l, rfl, ⟨by omega, by omega, hes2, hz, by omega, hz3, by rw [ho6 rfl, hes], ?_, by omega, by omega, hl2, by omega⟩, hl, by omega, hz2⟩, Fd.mono hF4 (by omega), rfl⟩
        intro y hy
        rw [hl]
        exact hP3 y hy
end K73

end

section
set_option Elab.async false
set_option linter.all false
set_option maxRecDepth 100000
set_option maxHeartbeats 2000000
open PySem PX
namespace K73
def UpOk (e z : List D) (d : D) : Prop := ∃ z' k r, d = sysD e z' k r ∧ Sy e z' k r ∧ z.length ≤ z'.length ∧ r.length = 2
theorem upper {n : Nat} {e z k r : List D} (hs : Sy e z k r) (he : e.length ≤ 3) (hz : z.length ≤ 2) : FdC (callN T G (n + 8)) 12 [sysD e z k r] 50000 false (UpOk e z) := by
  refine fdC_intro (T := T) rfl rfl fun d B hF hB => ?_
  have hT := tk (n := n + 6)
  obtain ⟨e0, e6, ee, z0, z3, zz, kl, kk, r0, r4, rr, six⟩ := hs
  have h10 : ∀ zs : List D, 0 < zs.length → zs.length ≤ 3 → FdC (callN T G (n + 7)) 10 [.tup zs, .lst (irange (z.length : Nat) (zs.length : Nat)), .int 3] 40000 false (fun r => ∃ l, r = .tup l ∧ l.length = 2 ∧ ∀ y ∈ l, RsOk y) := fun zs h1 h2 => rulesR (n := n) h1 h2 (by omega) (by decide) (by decide)
  generalize callN T G (n + 7) = C at hT h10
  show Ws C G b12 [.own true d, .val (sysD e z k r), .unset, .unset, .unset, .unset] _ no
  unfold b12
  refine ws_cut3 (fun ρ => ∃ (d2 : D) (zs : List D), ρ = [.own true d2, .val (sysD e z k r), .val (.int (z.length : Nat)), .val (.tup zs), .unset, .unset] ∧ Fd (B + 3) d2 ∧ z.length ≤ zs.length ∧ zs.length ≤ 3 ∧ ∀ y ∈ zs, SzOk y) ?_ ?_
  · walk_at "gn"
    all_goals
      refine ⟨rfl, _, _, rfl, Fd.mono ‹Fd _ _› (by omega), by walk_at "ln", by walk_at "ln", ?_⟩
    all_goals first
      | exact mem_app (mem_app zz ⟨_, rfl, by omega, by omega⟩) ⟨_, rfl, by omega, by omega⟩
      | exact mem_app zz ⟨_, rfl, by omega, by omega⟩
  · intro ρ ⟨d2, zs, er, hF2, hz1, hz2, hz3⟩
    subst er
    repeat walk_at "ex"
    dsimp only
    refine ⟨rfl, by unfold lim; omega, ?_⟩
    refine comp_fd (i := 0) (p := true) (n := 1) (P := IntIn 2) (by decide) rfl hF2 (by omega) (fun x hx d3 B3 hF3 hB3 => ?_) fun out3 d3 ρ3 ho5 ho6 hP3 hF3 hb5 => ?_
    · walk_at "nb"
      walk_at "go"
      refine ⟨⟨_, rfl, by omega, by omega⟩, ?_⟩
      walk_at "fe"
    · rw [hb5]
      walk_at "nb"
      repeat walk_at "ex"
      refine bf_of (r := (.lst (irange (z.length : Nat) (zs.length : Nat)), true)) (by show (if _ then _ else _) = _; rw [if_pos (rOk_of2 (by omega) (by omega) (by omega) (by omega))]) ?_
      have h10' := h10 zs (by omega) (by omega)
      repeat walk_at "ex"
      walk_at "go"
      rename_i r4 d4 hr4 hF4
      obtain ⟨l, rfl, hl, hl2⟩ := hr4
      refine ⟨_, _, rfl, ⟨zs, out3, l, rfl, ⟨e0, e6, ee, by omega, by omega, hz3, by rw [ho6 rfl], ?_, by omega, by omega, hl2, by omega⟩, hz1, hl⟩, Fd.mono hF4 (by omega), rfl⟩
      intro y hy
      rw [hl]
      exact hP3 y hy
def WdOk (e z : List D) (d : D) : Prop := ∃ k r, d = sysD e z k r ∧ Sy e z k r ∧ r.length = 4
theorem wide {n : Nat} {e z : List D} {b : Int} (e0 : e.length = 6) (ee : ∀ y ∈ e, EyeOk y) (hz : 0 < z.length) (hz2 : z.length ≤ 3) (hz3 : ∀ y ∈ z, SzOk y) (hb : 0 ≤ b) (hb2 : b ≤ 60) : FdC (callN T G (n + 8)) 15 [.tup e, .tup z, .lst [.int b]] 50000 false (WdOk e z) := by
  refine fdC_intro (T := T) rfl rfl fun d B hF hB => ?_
  have hT := tk (n := n + 6)
  have h9 : FdC (callN T G (n + 7)) 9 [.tup z, .lst [.int b]] 2048 false RuleOk := rule (n := n + 1) (bs := [b]) hz (by omega) (by simp) (by simp; omega)
  generalize callN T G (n + 7) = C at hT h9
  show Ws C G b15 [.own true d, .val (.tup e), .val (.tup z), .val (.lst [.int b]), .unset, .unset, .unset, .unset, .unset] _ no
  unfold b15
  repeat walk_at "ex"
  dsimp only
  refine ⟨rfl, by unfold lim; omega, ?_⟩
  refine comp_fd (i := 0) (p := true) (n := 1) (P := IntIn 4) (by decide) rfl hF (by omega) (fun x hx d3 B3 hF3 hB3 => ?_) fun out3 d3 ρ3 ho5 ho6 hP3 hF3 hb5 => ?_
  · walk_at "nb"
    walk_at "go"
    refine ⟨⟨_, rfl, by omega, by omega⟩, ?_⟩
    walk_at "fe"
  · rw [hb5]
    walk_at "nb"
    repeat walk_at "ex"
    dsimp only
    refine ⟨rfl, by decide, ?_⟩
    have hil : (irange 0 4).length = 4 := rfl
    refine comp_fd (i := 0) (p := true) (n := 4098) (P := RsOk) (by decide) rfl hF3 (by rw [hil]; omega) (fun x hx d1 B1 hF1 hB1 => ?_) fun out2 d2 ρ2 ho3 ho4 hP2 hF2 hb3 => ?_
    · walk_at "nb"
      walk_at "go"
      rename_i i d4 hi hi2 hF4
      refine r1_of (rOk_of hi (by omega)) ?_
      dsimp only
      have hl : (irange 0 i).length ≤ 2 := by rw [ir_len]; omega
      refine ⟨rfl, by unfold lim; omega, ?_⟩
      refine comp_fd (i := 0) (p := true) (n := 2048) (P := RuleOk) (by decide) rfl hF4 (by omega) (fun x hx d3 B3 hF3 hB3 => ?_) fun out3 d3 ρ3 ho5 ho6 hP3 hF3 hb5 => ?_
      · walk_at "nb"
        walk_at "go"
        refine ⟨‹RuleOk _›, ?_⟩
        walk_at "fe"
      · rw [hb5]
        walk_at "nb"
        walk_at "go"
        exact ⟨⟨_, rfl, by omega, hP3⟩, _, Fd.mono hF3 (by omega), rfl⟩
    · rw [hb3]
      walk_at "nb"
      walk_at "go"
      have h4 := ho4 rfl
      refine ⟨_, _, rfl, ⟨out3, out2, rfl, ⟨by omega, by omega, ee, hz, hz2, hz3, ho6 rfl, ?_, by omega, by omega, hP2, .inr ⟨e0, h4⟩⟩, h4⟩, Fd.mono hF2 (by rw [hil]; omega), rfl⟩
      intro y hy
      rw [h4]
      exact hP3 y hy
end K73

end

section
set_option Elab.async false
set_option linter.all false
set_option maxRecDepth 100000
set_option maxHeartbeats 2000000
open PySem PX
namespace K73
def SyD (d : D) : Prop := ∃ e z k r, d = sysD e z k r ∧ Sy e z k r
def PairOk (y : D) : Prop := ∃ a b, y = .tup [a, b] ∧ SyD a ∧ SyD b
def PairI (a b : D) : Prop := ∃ e z k r e' z' k' r', a = sysD e z k r ∧ b = sysD e' z' k' r' ∧ Sy e z k r ∧ Sy e' z' k' r' ∧ e.length = e'.length ∧ z.length ≤ z'.length
def OthOk (d : D) : Prop := ∃ l a b, d = .lst (l ++ [.tup [a, b]]) ∧ l.length = 6 ∧ (∀ y ∈ l, PairOk y) ∧ PairI a b
def six : List D := [.tup [.int 1], .tup [.int 0], .tup [.int 1], .tup [.int 2], .tup [.int 3], .tup [.int 4]]
theorem others {n : Nat} {e z k r e' z' k' r' : List D} (hl : Sy e z k r) (hu : Sy e' z' k' r') (hr : r'.length = 2) (he : e = e') : FdC (callN T G (n + 9)) 16 [sysD e z k r, sysD e' z' k' r'] 200000 true OthOk := by
  refine fdC_intro (T := T) rfl rfl fun d B hF hB => ?_
  have hT := tk (n := n + 7)
  have s2 : SzOk (.int 2) := ⟨2, rfl, by decide, by decide⟩
  have sixE : ∀ y ∈ six, EyeOk y := by
    intro y hy
    simp only [six, List.mem_cons, List.not_mem_nil, or_false] at hy
    rcases hy with rfl | rfl | rfl | rfl | rfl | rfl <;> exact ⟨_, rfl, by simp, by intro i hi; rw [List.mem_singleton.mp hi]; exact ⟨_, rfl, by decide, by decide⟩⟩
  have h15a : FdC (callN T G (n + 8)) 15 [.tup six, .tup [.int 2], .lst [.int 0]] 50000 false (WdOk six [.int 2]) := wide (n := n) rfl sixE (by decide) (by decide) (by intro y hy; rw [List.mem_singleton.mp hy]; exact s2) (by decide) (by decide)
  have h15b : FdC (callN T G (n + 8)) 15 [.tup six, .tup [.int 2, .int 2], .lst [.int 1]] 50000 false (WdOk six [.int 2, .int 2]) := wide (n := n) rfl sixE (by decide) (by decide) (by intro y hy; simp only [List.mem_cons, List.not_mem_nil, or_false, or_self] at hy; rw [hy]; exact s2) (by decide) (by decide)
  generalize callN T G (n + 8) = C at hT h15a h15b
  obtain ⟨e0, e6, ee, z0, z3, zz, kl, kk, r0, r4, rr, six⟩ := hl
  obtain ⟨e0', e6', ee', z0', z3', zz', kl', kk', r0', r4', rr', six'⟩ := hu
  show Ws C G b16 [.own true d, .val (sysD e z k r), .val (sysD e' z' k' r'), .unset, .unset, .unset, .unset, .unset, .unset, .unset, .unset, .unset, .unset, .unset] _ no
  refine ws_cutN (fun ρ => ∃ (L : List D) (rh mn : D) (d' : D), ρ = [.own true d', .val (sysD e z k r), .val (sysD e' z' k' r'), .val rh, .val mn, .own false (.lst L), .unset, .unset, .val (.tup e'), .val (.tup z'), .val (.tup k'), .val (.tup r'), .unset, .unset] ∧ Fd B d' ∧ L.length = 5 ∧ ∀ y ∈ L, SyD y) 5 _ ?_ ?_
  unfold b16
  dsimp only [h1N]
  walk_at "gn"
  refine ix_last e0' (fun y hy => ?_)
  obtain ⟨le, rfl, hle, hle2⟩ := ee' y hy
  walk_at "gn"
  refine ix_mem (by decide) (by omega) (fun y hy => ?_)
  obtain ⟨s0, rfl, hs0, hs1⟩ := zz' y hy
  walk_at "gn"
  have hu : Sy e' z' k' r' := ⟨e0', e6', ee', z0', z3', zz', kl', kk', r0', r4', rr', six'⟩
  have pn : ∀ (j : Int), 0 ≤ j → j ≤ 60 → LayOk (.tup [.int j, .tup [.str (Str.ofString "num"), .int 1]]) := fun j h1 h2 => ⟨j, _, rfl, h1, h2, by walk_at "pl"⟩
  have py : Pl 4 600 (.tup [.str (Str.ofString "yes")]) := by walk_at "pl"
  have rs2 : ∀ x : D, RsOk x → ∀ y ∈ [x] ++ cut r' (some 1) none, RsOk y := by
    intro x hx y hy
    rcases List.mem_append.mp hy with h | h
    · rw [List.mem_singleton.mp h]; exact hx
    · exact rr' y (cut_mem h)
  have cr1 : (cut r' (some 1) none).length = 1 := by rw [show (some (1 : Int)) = some ((1 : Nat) : Int) from rfl, cut_fr, List.length_drop]; omega
  have cz1 : (cut z' (some 1) none).length = z'.length - 1 := by rw [show (some (1 : Int)) = some ((1 : Nat) : Int) from rfl, cut_fr, List.length_drop]
  have ce1 : (cut e' none (some (-1))).length = e'.length - 1 := by rw [cut_m1, List.length_take]; omega
  have o1 : SyD (sysD (cut e' none (some (-1)) ++ [.tup (cut le (some 1) none)]) z' k' r') := by
    refine ⟨_, _, _, _, rfl, ⟨by simp, by simp [ce1]; omega, mem_app (fun y hy => ee' y (cut_mem hy)) ⟨_, rfl, Nat.le_trans (cut_len _ _ _) hle, fun i hi => hle2 i (cut_mem hi)⟩, z0', z3', zz', by simp [ce1]; omega, kk', r0', r4', rr', ?_⟩⟩
    simp [ce1]; omega
  have o2 : SyD (sysD e z k r) := ⟨_, _, _, _, rfl, ⟨e0, e6, ee, z0, z3, zz, kl, kk, r0, r4, rr, six⟩⟩
  have o3 : SyD (sysD e' z' k' ([.tup [.tup [.tup [.str (Str.ofString "yes")], .tup [.tup [.int 0, .tup [.str (Str.ofString "num"), .int 1]], .tup [.int (z.length : Nat), .tup [.str (Str.ofString "num"), .int 1]]]]]] ++ cut r' (some 1) none)) := by
    refine ⟨_, _, _, _, rfl, ⟨e0', e6', ee', z0', z3', zz', kl', ?_, by simp, by simp [cr1], rs2 _ ⟨_, rfl, by simp, ?_⟩, ?_⟩⟩
    · rw [List.length_append, cr1]
      rw [hr] at kk'
      exact kk'
    · intro x hx
      rw [List.mem_singleton.mp hx]
      refine ⟨_, _, rfl, py, by simp, ?_⟩
      intro y hy
      simp only [List.mem_cons, List.not_mem_nil, or_false] at hy
      rcases hy with rfl | rfl
      · exact pn 0 (by decide) (by decide)
      · exact pn _ (by omega) (by omega)
    · rcases six' with h | h
      · exact .inl h
      · omega
  have mk : ∀ x : D, RsOk x → SyD (sysD e' z' k' (List.replicate (Int.toNat 2) [x]).flatten) := by
    intro x hx
    refine ⟨_, _, _, _, rfl, ⟨e0', e6', ee', z0', z3', zz', kl', ?_, by simp, by simp, ?_, ?_⟩⟩
    · rw [hr] at kk'
      exact kk'
    · intro y hy
      simp at hy
      rw [hy]; exact hx
    · rcases six' with h | h
      · exact .inl h
      · omega
  have o4 : SyD (sysD e' z' k' (List.replicate (Int.toNat 2) [.tup (List.replicate (Int.toNat 7) [.tup [.tup [.str (Str.ofString "yes")], .tup [.tup [.int (z.length : Nat), .tup [.str (Str.ofString "num"), .int 1]]]]]).flatten]).flatten) := by
    refine mk _ ⟨_, rfl, by simp, ?_⟩
    intro y hy
    simp at hy
    rw [hy]
    refine ⟨_, _, rfl, py, by simp, ?_⟩
    intro y hy
    rw [List.mem_singleton.mp hy]
    exact pn _ (by omega) (by omega)
  have o5 : SyD (sysD e' ([.int (5 - s0)] ++ cut z' (some 1) none) k' (List.replicate (Int.toNat 2) [.tup []]).flatten) := by
    obtain ⟨_, _, _, _, h, ⟨h1, h2, h3, h4, h5, h6, h7, h8, h9, h10, h11, h12⟩⟩ := mk (.tup []) ⟨_, rfl, by simp, nofun⟩
    injection h with h
    injection h with q1 h
    injection h with q2 h
    injection h with q3 h
    injection h with q4 h
    injection q1 with q1
    injection q2 with q2
    injection q3 with q3
    injection q4 with q4
    subst q1; subst q2; subst q3; subst q4
    refine ⟨_, _, _, _, rfl, ⟨h1, h2, h3, by simp, by simp [cz1]; omega, ?_, h7, h8, h9, h10, h11, h12⟩⟩
    intro y hy
    rcases List.mem_append.mp hy with h | h
    · rw [List.mem_singleton.mp h]; exact ⟨_, rfl, by omega, by omega⟩
    · exact zz' y (cut_mem h)
  have o6 : SyD (sysD e' z' k' r') := ⟨_, _, _, _, rfl, hu⟩
  · refine ⟨rfl, _, _, _, _, rfl, hF, rfl, ?_⟩
    intro y hy
    simp only [List.mem_append, List.mem_cons, List.not_mem_nil, or_false] at hy
    rcases hy with ((rfl | rfl | rfl) | rfl) | rfl
    · exact o1
    · exact o2
    · exact o3
    · exact o4
    · exact o5
  · intro ρ ⟨L, rh, mn, d', hρ, hF', hL, hL2⟩
    subst hρ
    unfold b16
    dsimp only [t1N]
    refine ws_cutN (fun ρ => ∃ (F : List D), ρ = [.own true d', .val (sysD e z k r), .val (sysD e' z' k' r'), .val rh, .val mn, .own false (.lst L), .val (.lst F), .unset, .val (.tup e'), .val (.tup z'), .val (.tup k'), .val (.tup r'), .unset, .unset] ∧ F.length = 6 ∧ ∀ y ∈ F, PairOk y) 0 _ ?_ ?_
    · dsimp only [h1N]
      repeat' (first | (with_reducible refine we_comp ?_) | walk_at "ad" | walk_at "ex" | walk_at "cl")
      refine ⟨by rw [hL]; decide, ?_⟩
      refine comp_pureW (fun x => .tup [sysD e z k r, x]) (fun _ => true) ?_ ?_
      · intro x hx
        dsimp only [wipe, List.set_cons_zero, List.set_cons_succ]
        walk_at "gn"
        exact ⟨rfl, rfl, rfl⟩
      · intro ρ' h
        rw [back_app h, List.filter_eq_self.mpr (fun _ _ => rfl)]
        walk_at "gn"
        refine ⟨rfl, _, rfl, by simp [hL], ?_⟩
        have o6 : SyD (sysD e' z' k' r') := ⟨_, _, _, _, rfl, ⟨e0', e6', ee', z0', z3', zz', kl', kk', r0', r4', rr', six'⟩⟩
        have o2 : SyD (sysD e z k r) := ⟨_, _, _, _, rfl, ⟨e0, e6, ee, z0, z3, zz, kl, kk, r0, r4, rr, six⟩⟩
        refine mem_app (fun y hy => ?_) ⟨_, _, rfl, o6, o2⟩
        obtain ⟨x, hx, rfl⟩ := List.mem_map.mp hy
        exact ⟨_, _, rfl, o2, hL2 x hx⟩
    · intro ρ ⟨F, hρ, hF6, hFP⟩
      subst hρ
      dsimp only [t1N]
      refine ws_cutN (fun ρ => ρ = [.own true d', .val (sysD e z k r), .val (sysD e' z' k' r'), .val rh, .val mn, .own false (.lst L), .val (.lst F), .val (.tup K73.six), .val (.tup e'), .val (.tup z'), .val (.tup k'), .val (.tup r'), .unset, .unset]) 1 _ ?_ ?_
      · dsimp only [h1N]
        walk_at "gn"
        refine ⟨rfl, by decide, ?_⟩
        refine comp_pureW (fun x => match x with
          | .int i => .tup [.int (i - 1)]
          | d => d) (fun _ => true) ?_ ?_
        · intro x hx
          have hxi : ∃ i, x = .int i := by
            unfold irange at hx
            obtain ⟨q, _, rfl⟩ := List.mem_map.mp hx
            exact ⟨_, rfl⟩
          obtain ⟨i, rfl⟩ := hxi
          dsimp only [wipe, List.set_cons_zero, List.set_cons_succ]
          walk_at "gn"
          refine ⟨rfl, ?_⟩
          walk_at "gn"
          exact ⟨rfl, rfl⟩
        · intro ρ' h
          have es : (List.map (fun x => match x with
            | D.int i => D.tup [.int (i - 1)]
            | d => d) (List.filter (fun _ => true) (irange 1 7))) = [.tup [.int 0], .tup [.int 1], .tup [.int 2], .tup [.int 3], .tup [.int 4], .tup [.int 5]] := rfl
          rw [back_of h, es]
          walk_at "gn"
          exact ⟨rfl, rfl⟩
      · intro ρ hρ
        subst hρ
        dsimp only [t1N]
        walk_at "gn"
        rename_i a1 d1 ha1 hF1 a2 d2 ha2 hF2
        obtain ⟨k1, r1, rfl, hs1, hr1⟩ := ha1
        obtain ⟨k2, r2, rfl, hs2, hr2⟩ := ha2
        exact ⟨_, _, rfl, ⟨F, _, _, rfl, hF6, hFP, ⟨_, _, _, _, _, _, _, _, rfl, rfl, hs1, hs2, rfl, by decide⟩⟩, Fd.mono hF2 (by omega), rfl⟩
end K73

end

set_option Elab.async false
set_option linter.all false
set_option maxRecDepth 100000
set_option maxHeartbeats 2000000
open PySem PX
namespace K73
theorem upd_len {l : List D} {h : Int} {y : D} (h0 : 0 ≤ h) (h1 : h < (l.length : Nat)) : (cut l none (some h) ++ [y] ++ cut l (some (h + 1)) none).length = l.length := by
  obtain ⟨n, rfl⟩ := Int.eq_ofNat_of_zero_le h0
  rw [show ((n : Int) + 1) = ((n + 1 : Nat) : Int) from rfl, cut_to, cut_fr]
  simp only [List.length_append, List.length_take, List.length_drop, List.length_cons, List.length_nil]
  omega
theorem upd_mem {P : D → Prop} {l : List D} {a b : Option Int} {c d : Option Int} {y : D} (hl : ∀ x ∈ l, P x) (hy : P y) : ∀ x ∈ cut l a b ++ [y] ++ cut l c d, P x := by
  intro x hx
  rcases List.mem_append.mp hx with h | h
  · rcases List.mem_append.mp h with h | h
    · exact hl x (cut_mem h)
    · rw [List.mem_singleton.mp h]; exact hy
  · exact hl x (cut_mem h)
theorem co_inS {x : Str} {l : List D} {b : Bool} {kb : Bool → Prop} (h : (cpd .isin (.str x) (.tup l) == some b) = true) (h2 : kb b) : Co .isin (.str x) (.tup l) kb := ⟨b, beq_iff_eq.mp h, h2⟩
theorem co_notinT {x : D} {l : List D} {kb : Bool → Prop} (z : (x.ok 60 && l.all (D.ok 60)) = true) (h : kb (!D.has l x)) : Co .notin x (.tup l) kb := ⟨_, by show (if _ then _ else _) = _; rw [if_pos z], h⟩
theorem ints_ok {m : Int} {l : List D} (h : ∀ y ∈ l, IntIn m y) (n : Nat) : l.all (D.ok n) = true := by
  rw [List.all_eq_true]
  intro y hy
  obtain ⟨i, rfl, _, _⟩ := h y hy
  cases n <;> rfl
def PairD (d : D) : Prop := ∃ a b, d = .tup [a, b] ∧ PairI a b
end K73
open PySem PX K73
local macro_rules
  | `(tactic| walk_at "g8") => `(tactic| repeat' (first
  | walk_at "ad"
  | walk_at "ex"
  | walk_at "cl"
  | (with_reducible refine if_nf ?_)
  | (with_reducible refine if_nt ?_)
  | ((with_reducible refine' co_eqS (b := true) ?h ?_); (case h => decide +kernel))
  | ((with_reducible refine' co_eqS (b := false) ?h ?_); (case h => decide +kernel))
  | ((with_reducible refine' co_inS (b := true) ?h ?_); (case h => decide +kernel))
  | ((with_reducible refine' co_inS (b := false) ?h ?_); (case h => decide +kernel))))
namespace K73
open PySem PX
variable {e z k r e' z' k' r' : List D}
theorem fsizes {n : Nat} (hl : Sy e z k r) (hu : Sy e' z' k' r') (he : e.length = e'.length) (hz : z.length ≤ z'.length) : FdC (callN T G (n + 2)) 17 [sysD e z k r, sysD e' z' k' r', .str (Str.ofString "sizes")] 1000 false PairD := by
  refine fdC_intro (T := T) rfl rfl fun d B hF hB => ?_
  have hT := tk (n := n)
  generalize callN T G (n + 1) = C at hT
  have z0 := hl.z0
  have z3 := hl.z3
  have z3' := hu.z3
  show Ws C G b17 [.own true d, .val (sysD e z k r), .val (sysD e' z' k' r'), .val (.str (Str.ofString "sizes")), .unset, .unset, .unset, .unset, .unset, .unset, .unset, .unset, .unset, .unset, .unset, .unset] _ no
  unfold b17
  walk_at "g8"
  rename_i h d1 h0 h1 hF1
  refine ix_mem h0 (by omega) fun y hy => ?_
  obtain ⟨s0, rfl, hs0, hs1⟩ := hu.zz y hy
  walk_at "g8"
  refine ⟨_, _, rfl, ⟨_, _, rfl, ⟨_, _, _, _, _, _, _, _, rfl, rfl, hl, { hu with z0 := ?_, z3 := ?_, zz := upd_mem hu.zz ⟨_, rfl, by omega, by omega⟩ }, he, ?_⟩⟩, Fd.mono hF1 (by omega), rfl⟩
  all_goals rw [upd_len h0 (by omega)]
  all_goals omega
theorem feyes {n : Nat} (hl : Sy e z k r) (hu : Sy e' z' k' r') (he : e.length = e'.length) (hz : z.length ≤ z'.length) : FdC (callN T G (n + 2)) 17 [sysD e z k r, sysD e' z' k' r', .str (Str.ofString "eyes")] 1000 false PairD := by
  refine fdC_intro (T := T) rfl rfl fun d B hF hB => ?_
  have hT := tk (n := n)
  generalize callN T G (n + 1) = C at hT
  have e0' := hu.e0
  have e6' := hu.e6
  show Ws C G b17 [.own true d, .val (sysD e z k r), .val (sysD e' z' k' r'), .val (.str (Str.ofString "eyes")), .unset, .unset, .unset, .unset, .unset, .unset, .unset, .unset, .unset, .unset, .unset, .unset] _ no
  unfold b17
  walk_at "g8"
  rename_i h d1 h0 h1 hF1
  refine r1_of (rOk_of (by omega) (by omega)) ?_
  obtain ⟨nn, rfl⟩ := Int.eq_ofNat_of_zero_le h0
  have hn : nn < e'.length := by omega
  obtain ⟨l, hle, hl1, hl2⟩ := hu.ee _ (List.getElem_mem hn)
  have hat : at_ (.tup e') (nn : Int) = some (.tup l) := by
    rw [← hle]
    exact (at_nat (List.getElem?_eq_getElem hn)).2.1
  refine ⟨rfl, by rw [ir_len]; unfold lim; omega, ?_⟩
  refine comp_fd (i := 0) (p := true) (n := 0) (P := IntIn 60) (by decide) rfl hF1 (by omega) (fun x hx d' B' hF' hB' => ?_) fun out d' ρ' ho ho2 hP hF' hb => ?_
  · obtain ⟨i, rfl, hi, hi2⟩ := ir_mem hx
    walk_at "nb"
    walk_at "g8"
    refine if_ndec (fun q => ?_) (fun q => ?_)
    · walk_at "g8"
      refine ix_of hat ?_
      refine co_notinT (by rw [ints_ok hl2 60]; rfl) ?_
      refine if_b (fun q => ?_) (fun q => ?_)
      · walk_at "g8"
        exact ⟨⟨_, rfl, by omega, by omega⟩, _, Fd.mono hF' (by omega), rfl⟩
      · exact ⟨_, Fd.mono hF' (by omega), rfl⟩
    · walk_at "g8"
      exact ⟨_, Fd.mono hF' (by omega), rfl⟩
  · rw [hb]
    walk_at "nb"
    walk_at "g8"
    refine ix_of hat ?_
    walk_at "g8"
    have ey : ∀ Y : D, EyeOk Y → Sy (cut e' none (some (nn : Int)) ++ [Y] ++ cut e' (some ((nn : Int) + 1)) none) z' k' r' := by
      intro Y hY
      have q := upd_len (y := Y) h0 h1
      refine { hu with e0 := ?_, e6 := ?_, ee := upd_mem hu.ee hY, kl := ?_, six := ?_ }
      · rw [q]; exact hu.e0
      · rw [q]; exact hu.e6
      · rw [q]; exact hu.kl
      · rw [q]; exact hu.six
    refine if_b (fun q => ?_) (fun q => ?_)
    · walk_at "g8"
      refine ⟨_, _, rfl, ⟨_, _, rfl, ⟨_, _, _, _, _, _, _, _, rfl, rfl, hl, ey _ ⟨_, rfl, Nat.le_trans (cut_len _ _ _) hl1, fun i hi => hl2 i (cut_mem hi)⟩, ?_, hz⟩⟩, Fd.mono hF' (by omega), rfl⟩
      rw [upd_len h0 h1]; exact he
    · walk_at "g8"
      rw [ir_len] at ho
      refine ⟨_, _, rfl, ⟨_, _, rfl, ⟨_, _, _, _, _, _, _, _, rfl, rfl, hl, ey _ ⟨_, rfl, Nat.le_trans (cut_len _ _ _) (by omega), fun i hi => hP i (cut_mem hi)⟩, ?_, hz⟩⟩, Fd.mono hF' (by omega), rfl⟩
      rw [upd_len h0 h1]; exact he
end K73

section
set_option Elab.async false
set_option linter.all false
set_option maxRecDepth 100000
set_option maxHeartbeats 2000000
open PySem PX
namespace K73
variable {e z k r e' z' k' r' : List D}
theorem fkinds {n : Nat} (hl : Sy e z k r) (hu : Sy e' z' k' r') (he : e.length = e'.length) (hz : z.length ≤ z'.length) : FdC (callN T G (n + 2)) 17 [sysD e z k r, sysD e' z' k' r', .str (Str.ofString "kinds")] 1000 false PairD := by
  refine fdC_intro2 (T := T) rfl rfl fun d B hF hB => ?_
  have hT := tk (n := n)
  generalize callN T G (n + 1) = C at hT
  show Ws C G b17 [.own true d, .val (sysD e z k r), .val (sysD e' z' k' r'), .val (.str (Str.ofString "kinds")), .unset, .unset, .unset, .unset, .unset, .unset, .unset, .unset, .unset, .unset, .unset, .unset] _ no
  unfold b17
  walk_at "g8"
  refine if_dec (fun h5 => ?_) (fun h5 => ?_)
  · walk_at "g8"
    rename_i h d1 h0 h1 hF1
    have h6 : e'.length = 6 ∧ r'.length = 4 := by
      rcases hu.six with q | q
      · omega
      · exact q
    have h6' : e.length = 6 ∧ r.length = 4 := by
      rcases hl.six with q | q
      · omega
      · exact q
    refine ⟨_, _, rfl, ⟨_, _, rfl, ⟨e, z, [.int 0, .int 1, .int 2, .int 3, .int 0, .int 1], r, e', z', [.int 0, .int 1, .int 2, .int 3, .int 0, .int h], r', rfl, rfl, { hl with kl := by rw [h6'.1]; rfl, kk := ?_ }, { hu with kl := by rw [h6.1]; rfl, kk := ?_ }, he, hz⟩⟩, Fd.mono hF1 (by omega), _, rfl, rfl⟩
    · rw [h6'.2]
      intro y hy
      simp only [List.mem_cons, List.not_mem_nil, or_false] at hy
      rcases hy with rfl | rfl | rfl | rfl | rfl | rfl <;> exact ⟨_, rfl, by decide, by decide⟩
    · rw [h6.2]
      intro y hy
      simp only [List.mem_cons, List.not_mem_nil, or_false] at hy
      rcases hy with rfl | rfl | rfl | rfl | rfl | rfl
      all_goals first
        | exact ⟨_, rfl, by decide, by decide⟩
        | exact ⟨_, rfl, h0, h1⟩
  · walk_at "g8"
    exact ⟨_, _, rfl, ⟨_, _, rfl, ⟨_, _, _, _, _, _, _, _, rfl, rfl, hl, hu, he, hz⟩⟩, Fd.mono hF (by omega), _, rfl, rfl⟩
theorem mi_ins {n : Nat} {p : Bool} {l : List D} {i : Int} {d : D} {ρ : Ev} {kk : D → Ev → Prop} (h : ρ[n]? = some (.own p (.lst l))) (hl : l.length < lim ∧ 0 ≤ i ∧ i < 2 ^ 63) (k : kk .none (ρ.set n (.own p (.lst (l.take i.toNat ++ d :: l.drop i.toNat))))) : Mi .insert n [.int i, d] ρ kk :=
  ⟨_, _, h, _, by show (if _ then _ else _) = _; rw [if_pos hl], k⟩
theorem RsOk_cut {l : List D} (h : ∀ x ∈ l, RuleOk x) : RsOk (.tup (cut l none (some 8))) := by
  refine ⟨_, rfl, ?_, fun x hx => h x (cut_mem hx)⟩
  rw [show (some (8 : Int)) = some ((8 : Nat) : Int) from rfl, cut_to, List.length_take]; omega
theorem Sy.rules {j : Int} {x : D} (hu : Sy e' z' k' r') (h0 : 0 ≤ j) (h1 : j < (r'.length : Nat)) (hx : RsOk x) : Sy e' z' k' (cut r' none (some j) ++ [x] ++ cut r' (some (j + 1)) none) := by
  have q := upd_len (y := x) h0 h1
  refine { hu with kk := ?_, r0 := ?_, r4 := ?_, rr := upd_mem hu.rr hx, six := ?_ }
  · rw [q]; exact hu.kk
  · rw [q]; exact hu.r0
  · rw [q]; exact hu.r4
  · rw [q]; exact hu.six
theorem rule1 {j : Int} (h0 : 0 ≤ j) (h1 : j ≤ 60) : RuleOk (.tup [.tup [.str (Str.ofString "yes")], .tup [.tup [.int j, .tup [.str (Str.ofString "num"), .int 1]]]]) := by
  refine ⟨_, _, rfl, by walk_at "pl", by simp, ?_⟩
  intro y hy
  rw [List.mem_singleton.mp hy]
  exact ⟨_, _, rfl, h0, h1, by walk_at "pl"⟩
theorem ins_mem {P : D → Prop} {l : List D} {i : Nat} {d : D} (h : ∀ x ∈ l, P x) (hd : P d) : ∀ x ∈ l.take i ++ d :: l.drop i, P x := by
  intro x hx
  rcases List.mem_append.mp hx with q | q
  · exact h x (List.mem_of_mem_take q)
  · rcases List.mem_cons.mp q with q | q
    · rw [q]; exact hd
    · exact h x (List.mem_of_mem_drop q)
theorem frules {n : Nat} (hl : Sy e z k r) (hu : Sy e' z' k' r') (he : e.length = e'.length) (hz : z.length ≤ z'.length) : FdC (callN T G (n + 2)) 17 [sysD e z k r, sysD e' z' k' r', .str (Str.ofString "rules")] 1000 false PairD := by
  refine fdC_intro2 (T := T) rfl rfl fun d B hF hB => ?_
  have hT := tk (n := n)
  generalize callN T G (n + 1) = C at hT
  have kl := hu.kl
  have e0' := hu.e0
  have e6' := hu.e6
  have z0 := hl.z0
  have z3 := hl.z3
  have r4' := hu.r4
  show Ws C G b17 [.own true d, .val (sysD e z k r), .val (sysD e' z' k' r'), .val (.str (Str.ofString "rules")), .unset, .unset, .unset, .unset, .unset, .unset, .unset, .unset, .unset, .unset, .unset, .unset] _ no
  unfold b17
  walk_at "g8"
  rename_i h d1 h0 h1 hF1
  refine ix_mem h0 (by omega) fun y hy => ?_
  obtain ⟨kd, rfl, hk0, hk1⟩ := hu.kk y hy
  walk_at "g8"
  refine ix_mem hk0 hk1 fun y hy2 => ?_
  obtain ⟨rl, rfl, hr8, hrl⟩ := hu.rr y hy2
  walk_at "g8"
  have c7 : (cut rl none (some 7)).length ≤ 7 := by rw [show (some (7 : Int)) = some ((7 : Nat) : Int) from rfl, cut_to, List.length_take]; omega
  walk_at "g8"
  refine mi_ins (l := cut rl none (some 7)) rfl ⟨by unfold lim; omega, by omega, by omega⟩ ?_
  walk_at "g8"
  refine bo_mulL (by rfl) ?_
  walk_at "g8"
  refine bo_mulL (by rfl) ?_
  walk_at "g8"
  refine bo_addL (Nat.le_trans (Nat.add_le_add (?_ : _ ≤ 8) (Nat.le_of_eq (rfl : _ = 8))) (by decide)) ?_
  · simp only [List.length_append, List.length_cons, List.length_take, List.length_drop]
    omega
  · walk_at "g8"
    refine ⟨_, _, rfl, ⟨_, _, rfl, ⟨_, _, _, _, _, _, _, _, rfl, rfl, hl, hu.rules hk0 hk1 (RsOk_cut ?_), he, hz⟩⟩, Fd.mono ‹Fd _ _› (by omega), _, rfl, rfl⟩
    intro x hx
    rcases List.mem_append.mp hx with q | q
    · exact ins_mem (fun y hy => hrl y (cut_mem hy)) (rule1 (by omega) (by omega)) x q
    · have : x = .tup [.tup [.str (Str.ofString "yes")], .tup [.tup [.int (z.length : Nat), .tup [.str (Str.ofString "num"), .int 1]]]] := by
        simp at q
        exact q
      rw [this]
      exact rule1 (by omega) (by omega)
theorem flays {n : Nat} (hl : Sy e z k r) (hu : Sy e' z' k' r') (he : e.length = e'.length) (hz : z.length ≤ z'.length) : FdC (callN T G (n + 2)) 17 [sysD e z k r, sysD e' z' k' r', .str (Str.ofString "lays")] 1000 false PairD := by
  refine fdC_intro2 (T := T) rfl rfl fun d B hF hB => ?_
  have hT := tk (n := n)
  generalize callN T G (n + 1) = C at hT
  have kl := hu.kl
  have e0' := hu.e0
  have e6' := hu.e6
  have z0 := hl.z0
  have z3 := hl.z3
  have r4' := hu.r4
  show Ws C G b17 [.own true d, .val (sysD e z k r), .val (sysD e' z' k' r'), .val (.str (Str.ofString "lays")), .unset, .unset, .unset, .unset, .unset, .unset, .unset, .unset, .unset, .unset, .unset, .unset] _ no
  unfold b17
  walk_at "g8"
  rename_i h d1 h0 h1 hF1
  refine ix_mem h0 (by omega) fun y hy => ?_
  obtain ⟨kd, rfl, hk0, hk1⟩ := hu.kk y hy
  walk_at "g8"
  refine ix_mem hk0 hk1 fun y hy2 => ?_
  obtain ⟨rl, rfl, hr8, hrl⟩ := hu.rr y hy2
  walk_at "g8"
  rename_i j d2 hj0 hj1 hF2
  have c7 : (cut rl none (some 7)).length ≤ 7 := by rw [show (some (7 : Int)) = some ((7 : Nat) : Int) from rfl, cut_to, List.length_take]; omega
  walk_at "g8"
  refine mi_ins (l := cut rl none (some 7)) rfl ⟨by unfold lim; omega, by omega, by omega⟩ ?_
  walk_at "g8"
  refine bo_mulL (by rfl) ?_
  walk_at "g8"
  refine bo_mulL (by rfl) ?_
  walk_at "g8"
  refine bo_addL (Nat.le_trans (Nat.add_le_add (?_ : _ ≤ 8) (Nat.le_of_eq (rfl : _ = 0))) (by decide)) ?_
  · simp only [List.length_append, List.length_cons, List.length_take, List.length_drop]
    omega
  · walk_at "g8"
    refine ⟨_, _, rfl, ⟨_, _, rfl, ⟨_, _, _, _, _, _, _, _, rfl, rfl, hl, hu.rules hk0 hk1 (RsOk_cut ?_), he, hz⟩⟩, Fd.mono ‹Fd _ _› (by omega), _, rfl, rfl⟩
    intro x hx
    rcases List.mem_append.mp hx with q | q
    · exact ins_mem (fun y hy => hrl y (cut_mem hy)) (rule1 (by omega) (by omega)) x q
    · simp at q
end K73

end

section
set_option Elab.async false
set_option linter.all false
set_option maxRecDepth 100000
set_option maxHeartbeats 2000000
open PySem PX
namespace K73
def words : List D := [.str (Str.ofString "eyes"), .str (Str.ofString "sizes"), .str (Str.ofString "lays"), .str (Str.ofString "kinds"), .str (Str.ofString "rules")]
theorem several {n : Nat} {a b : D} (hp : PairI a b) : FdC (callN T G (n + 3)) 18 [a, b] 10000 false PairD := by
  refine fdC_intro (T := T) rfl rfl fun d B hF hB => ?_
  have hT := tk (n := n + 1)
  have h17 : ∀ w ∈ words, ∀ a b, PairI a b → FdC (callN T G (n + 2)) 17 [a, b, w] 1000 false PairD := by
    intro w hw a b ⟨e, z, k, r, e', z', k', r', ea, eb, h1, h2, h3, h4⟩
    subst ea; subst eb
    simp only [words, List.mem_cons, List.not_mem_nil, or_false] at hw
    rcases hw with rfl | rfl | rfl | rfl | rfl
    · exact feyes h1 h2 h3 h4
    · exact fsizes h1 h2 h3 h4
    · exact flays h1 h2 h3 h4
    · exact fkinds h1 h2 h3 h4
    · exact frules h1 h2 h3 h4
  generalize callN T G (n + 2) = C at hT h17
  show Ws C G b18 [.own true d, .val a, .val b, .unset, .unset, .unset, .unset, .unset] _ no
  refine ws_cutN (fun ρ => ∃ (d' : D) (f l : Int), ρ = [.own true d', .val a, .val b, .val (.lst words), .val (.int f), .val (.int l), .val (.tup [a, b]), .unset] ∧ 0 ≤ f ∧ f < 5 ∧ 0 < l ∧ l < 5 ∧ Fd (B + 2) d') 3 _ ?_ ?_
  · unfold b18
    dsimp only [h1N]
    walk_at "gn"
    exact ⟨rfl, _, _, _, rfl, by omega, by omega, by omega, by omega, Fd.mono ‹Fd _ _› (by omega)⟩
  · intro ρ ⟨d1, f, l, hρ, hf0, hf1, hl0, hl1, hF1⟩
    subst hρ
    unfold b18
    dsimp only [t1N]
    walk_at "gn"
    rename_i t d2 ht0 ht1 hF2
    refine r1_of (rOk_of (by omega) (by omega)) ?_
    refine ⟨rfl, ?_⟩
    have hil : ((irange 0 (2 + t)).length : Int) = 2 + t := by rw [ir_len]; omega
    refine wp_forL (fun done ρ => ∃ (d' : D) (a' b' : D) (x : Cell), Fd (B + 3 + done.length * 1000) d' ∧ PairI a' b' ∧ Free (some x) = true ∧ ρ = [.own true d', .val a, .val b, .val (.lst words), .val (.int f), .val (.int l), .val (.tup [a', b']), x]) _ [] _ ⟨d2, a, b, .unset, Fd.mono hF2 (by simp; omega), hp, rfl, rfl⟩ ?_ ?_
    · intro pre x post ρ hs ⟨d', a', b', xc, hF3, hpi, hx, hρ⟩
      subst hρ
      have hpl : (pre.length : Int) < 2 + t := by
        have := congrArg List.length hs
        simp at this
        omega
      rw [wp_bind]
      refine bt_name hx ?_
      have hxm : IntIn (2 + t) x := ir_mem (by
        have : x ∈ [] ++ irange 0 (2 + t) := by rw [hs]; simp
        simpa using this)
      obtain ⟨i, rfl, hi, hi2⟩ := hxm
      show Ws C G _ _ _ no
      dsimp only [List.set_cons_zero, List.set_cons_succ]
      walk_at "gn"
      have hm := fm_bd (a := f + l * i) (m := 5) (by decide)
      refine (ix_n (l := words) hm.1 hm.2 fun n hn _ => ?_).1
      have hw := h17 words[n] (List.getElem_mem hn) a' b' hpi
      generalize words[n] = w at hw
      walk_at "gn"
      rename_i p d4 hp4 hF4
      obtain ⟨a2, b2, rfl, hp2⟩ := hp4
      exact ⟨d4, a2, b2, _, Fd.mono hF4 (by simp; omega), hp2, rfl, rfl⟩
    · intro ρ ⟨d', a', b', xc, hF3, hpi, hx, hρ⟩
      subst hρ
      simp only [List.nil_append] at hF3
      walk_at "gn"
      exact ⟨_, _, rfl, ⟨_, _, rfl, hpi⟩, Fd.mono hF3 (by omega), rfl⟩
end K73

end

section
set_option Elab.async false
set_option linter.all false
set_option maxRecDepth 100000
set_option maxHeartbeats 2000000
open PySem PX
namespace K73
/-! ### what is reckoned -/
def layB (few : Int) : D → Bool
  | .tup [.int b, _] => decide (b < few)
  | _ => false
def ruleB (few : Int) : D → Bool
  | .tup [_, .tup lays] => lays.any (layB few)
  | _ => false
def rsB (few : Int) : D → Bool
  | .tup rl => rl.any (ruleB few)
  | _ => false
theorem bools_map (f : D → Bool) : ∀ l : List D, bools (l.map fun x => .bool (f x)) = some (l.map f)
  | [] => rfl
  | x :: l => by show (bools (l.map fun x => .bool (f x))).map _ = _; rw [bools_map f l]; rfl
theorem any_map (f : D → Bool) : ∀ l : List D, (l.map f).any id = l.any f
  | [] => rfl
  | x :: l => by rw [List.map_cons, List.any_cons, List.any_cons, any_map f l]; rfl
theorem filt {l : List D} : l.filter (fun _ => true) = l := List.filter_eq_self.mpr fun _ _ => rfl
theorem bf_any {f : D → Bool} {l : List D} {kk : D × Bool → Prop} (h : kk (.bool (l.any f), false)) : Bf .any [.lst (l.map fun x => .bool (f x))] kk :=
  ⟨_, by show (bools (l.map fun x => .bool (f x))).map _ = _; rw [bools_map]; rfl, by show kk (.bool ((l.map f).any id), false); rw [any_map]; exact h⟩
theorem any_snoc (f : D → Bool) (l : List D) (x : D) : (l ++ [x]).any f = (l.any f || f x) := by simp
theorem any_mid (f : D → Bool) (l m : List D) (x : D) (h : f x = true) : (l ++ x :: m).any f = true := by simp [h]
variable {e z k r e' z' k' r' : List D}
theorem below {n : Nat} {few : Int} (hu : Sy e' z' k' r') : VC (callN T G (n + 1)) 0 [sysD e' z' k' r', .int few] (fun d _ => d = .bool (r'.any (rsB few))) no := by
  refine vC_intro (T := T) rfl rfl ?_
  generalize callN T G n = C
  show Ws C G b0 [.val (sysD e' z' k' r'), .val (.int few), .unset, .unset, .unset, .unset, .unset] _ no
  unfold b0
  repeat walk_at "ex"
  refine ⟨rfl, ?_⟩
  refine wp_forL (fun done ρ => done.any (rsB few) = false ∧ ∃ c2 c3 c4 : Cell, Free (some c2) = true ∧ Free (some c3) = true ∧ Free (some c4) = true ∧ ρ = [.val (sysD e' z' k' r'), .val (.int few), c2, c3, c4, .unset, .unset]) _ [] _ ⟨rfl, _, _, _, rfl, rfl, rfl, rfl⟩ ?_ ?_
  · intro pre x post ρ hs ⟨hd, c2, c3, c4, h2, h3, h4, hρ⟩
    subst hρ
    simp only [List.nil_append] at hs
    have hx : x ∈ r' := by rw [hs]; simp
    obtain ⟨rl, rfl, hr8, hrl⟩ := hu.rr x hx
    rw [wp_bind]
    refine bt_name h2 ?_
    show Ws C G _ _ _ no
    dsimp only [List.set_cons_zero, List.set_cons_succ]
    repeat walk_at "ex"
    refine ⟨rfl, ?_⟩
    refine wp_forL (fun done ρ => done.any (ruleB few) = false ∧ ∃ c3 c4 : Cell, Free (some c3) = true ∧ Free (some c4) = true ∧ ρ = [.val (sysD e' z' k' r'), .val (.int few), .val (.tup rl), c3, c4, .unset, .unset]) _ [] _ ⟨rfl, _, _, h3, h4, rfl⟩ ?_ ?_
    · intro pre2 x2 post2 ρ hs2 ⟨hd2, c3, c4, h3, h4, hρ⟩
      subst hρ
      simp only [List.nil_append] at hs2
      have hx2 : x2 ∈ rl := by rw [hs2]; simp
      obtain ⟨cl, lays, rfl, _, _, hlay⟩ := hrl x2 hx2
      rw [wp_bind]
      refine bt_tup (pa_cons' h3 (pa_cons' h4 (pa_nil' ?_)))
      show Ws C G _ _ _ no
      dsimp only [List.set_cons_zero, List.set_cons_succ]
      repeat walk_at "ex"
      refine ⟨rfl, by dsimp only; unfold lim; omega, ?_⟩
      refine comp_pureW (fun x => .bool (layB few x)) (fun _ => true) ?_ ?_
      · intro x3 hx3
        obtain ⟨b, t, rfl, _, _, _⟩ := hlay x3 hx3
        walk_at "nb"
        repeat walk_at "ex"
        refine ⟨rfl, ?_⟩
        rw [if_pos rfl]
        repeat walk_at "ex"
        exact ⟨rfl, rfl⟩
      · intro ρ' h
        rw [back_of h, filt]
        walk_at "nb"
        repeat walk_at "ex"
        refine bf_any ?_
        repeat walk_at "ex"
        refine if_b (fun q => ?_) (fun q => ?_)
        · repeat walk_at "ex"
          refine ⟨_, _, rfl, ?_, rfl⟩
          have q2 : rsB few (.tup rl) = true := by
            show rl.any (ruleB few) = true
            rw [hs2]; exact any_mid _ _ _ _ q
          rw [hs, any_mid _ _ _ _ q2]
        · repeat walk_at "ex"
          refine ⟨?_, _, _, rfl, rfl, rfl⟩
          rw [any_snoc, hd2]; exact q
    · intro ρ ⟨hd2, c3, c4, h3, h4, hρ⟩
      subst hρ
      refine ⟨?_, _, _, _, rfl, h3, h4, rfl⟩
      rw [any_snoc, hd]
      exact hd2
  · intro ρ ⟨hd, c2, c3, c4, h2, h3, h4, hρ⟩
    subst hρ
    repeat walk_at "ex"
    exact ⟨_, _, rfl, by rw [← hd]; rfl, rfl⟩
end K73

end

section
set_option Elab.async false
set_option linter.all false
set_option maxRecDepth 100000
set_option maxHeartbeats 2000000
open PySem PX
namespace K73
def nubF (acc : List D) (x : D) : List D := if D.has acc x then acc else acc ++ [x]
def nubL (l : List D) : List D := l.foldl nubF []
theorem nubL_snoc (l : List D) (x : D) : nubL (l ++ [x]) = nubF (nubL l) x := by simp [nubL]
theorem nubF_sub {acc : List D} {x y : D} (h : y ∈ nubF acc x) : y ∈ acc ∨ y = x := by
  unfold nubF at h
  split at h
  · exact .inl h
  · simpa using h
theorem foldl_sub : ∀ (l acc : List D) (y : D), y ∈ l.foldl nubF acc → y ∈ acc ∨ y ∈ l
  | [], _, _, h => .inl h
  | x :: l, acc, y, h => by
    rcases foldl_sub l (nubF acc x) y h with q | q
    · rcases nubF_sub q with q | q
      · exact .inl q
      · exact .inr (by simp [q])
    · exact .inr (by simp [q])
theorem nub_sub {l : List D} {y : D} (h : y ∈ nubL l) : y ∈ l := by
  rcases foldl_sub l [] y h with q | q
  · cases q
  · exact q
theorem foldl_len : ∀ (l acc : List D), (l.foldl nubF acc).length ≤ acc.length + l.length
  | [], _ => Nat.le_refl _
  | x :: l, acc => by
    have := foldl_len l (nubF acc x)
    have h2 : (nubF acc x).length ≤ acc.length + 1 := by unfold nubF; split <;> simp
    show (l.foldl nubF (nubF acc x)).length ≤ _
    rw [List.length_cons]; omega
theorem nub_len (l : List D) : (nubL l).length ≤ l.length := by have := foldl_len l []; simpa [nubL] using this
def PI (m m' : Nat) (y : D) : Prop := ∃ i j : Nat, y = .tup [.int i, .int j] ∧ i < m ∧ j < m'
theorem zip_PI {m m' : Nat} : ∀ {k k' : List D}, (∀ y ∈ k, IntIn m y) → (∀ y ∈ k', IntIn m' y) → ∀ y ∈ zipD k k', PI m m' y
  | [], _, _, _, _, h => by simp [zipD] at h
  | _ :: _, [], _, _, _, h => by simp [zipD] at h
  | a :: k, b :: k', h1, h2, y, h => by
    rcases List.mem_cons.mp h with q | q
    · obtain ⟨i, rfl, hi, hi2⟩ := h1 a (by simp)
      obtain ⟨j, rfl, hj, hj2⟩ := h2 b (by simp)
      obtain ⟨i, rfl⟩ := Int.eq_ofNat_of_zero_le hi
      obtain ⟨j, rfl⟩ := Int.eq_ofNat_of_zero_le hj
      exact ⟨i, j, q, by omega, by omega⟩
    · exact zip_PI (fun y hy => h1 y (by simp [hy])) (fun y hy => h2 y (by simp [hy])) y q
theorem PI_ok {m m' : Nat} {y : D} (h : PI m m' y) (n : Nat) : D.ok (n + 1) y = true := by
  obtain ⟨i, j, rfl, _, _⟩ := h
  cases n <;> rfl
theorem PIs_ok {m m' : Nat} {l : List D} (h : ∀ y ∈ l, PI m m' y) (n : Nat) : l.all (D.ok (n + 1)) = true := List.all_eq_true.mpr fun y hy => PI_ok (h y hy) n
theorem zip_len : ∀ (k k' : List D), (zipD k k').length = min k.length k'.length
  | [], _ => by simp [zipD]
  | _ :: _, [] => by simp [zipD]
  | a :: k, b :: k' => by show (zipD k k').length + 1 = _; rw [zip_len k k']; simp only [List.length_cons]; omega
theorem co_notinL {x : D} {l : List D} {kb : Bool → Prop} (z : (x.ok 60 && l.all (D.ok 60)) = true) (h : kb (!D.has l x)) : Co .notin x (.lst l) kb := ⟨_, by show (if _ then _ else _) = _; rw [if_pos z], h⟩
variable {e z k r e' z' k' r' : List D}
theorem pairs {n : Nat} (hl : Sy e z k r) (hu : Sy e' z' k' r') : VC (callN T G (n + 1)) 1 [sysD e z k r, sysD e' z' k' r'] (fun d fr => d = .lst (nubL (zipD k k')) ∧ fr = true) no := by
  refine vC_intro (T := T) rfl rfl ?_
  generalize callN T G n = C
  have e6 := hl.e6
  have kl := hl.kl
  have zl := zip_len k k'
  have zp := zip_PI hl.kk hu.kk
  show Ws C G b1 [.val (sysD e z k r), .val (sysD e' z' k' r'), .unset, .unset] _ no
  unfold b1
  repeat walk_at "ex"
  refine ⟨rfl, ?_⟩
  refine wp_forL (fun done ρ => ∃ c3 : Cell, Free (some c3) = true ∧ ρ = [.val (sysD e z k r), .val (sysD e' z' k' r'), .own false (.lst (nubL done)), c3]) _ [] _ ⟨_, rfl, rfl⟩ ?_ ?_
  · intro pre x post ρ hs ⟨c3, h3, hρ⟩
    subst hρ
    simp only [List.nil_append] at hs
    have hx := zp x (by rw [hs]; simp)
    have hpre : ∀ y ∈ nubL pre, PI r.length r'.length y := fun y hy => zp y (by rw [hs]; simp [nub_sub hy])
    have hpl : pre.length ≤ 6 := by have := congrArg List.length hs; simp at this; omega
    rw [wp_bind]
    refine bt_name h3 ?_
    show Ws C G _ _ _ no
    dsimp only [List.set_cons_zero, List.set_cons_succ]
    repeat walk_at "ex"
    refine co_notinL (by rw [PI_ok hx 59, PIs_ok hpre 59]; rfl) ?_
    refine if_b (fun q => ?_) (fun q => ?_)
    · repeat walk_at "ex"
      refine mi_app rfl (by have := nub_len pre; unfold lim; omega) ?_
      refine ⟨.val x, rfl, ?_⟩
      rw [nubL_snoc]
      unfold nubF
      rw [if_neg (by intro w; rw [w] at q; cases q)]
      rfl
    · repeat walk_at "ex"
      refine ⟨.val x, rfl, ?_⟩
      rw [nubL_snoc]
      unfold nubF
      rw [if_pos (by cases w : D.has (nubL pre) x with
        | true => rfl
        | false => rw [w] at q; cases q)]
  · intro ρ ⟨c3, h3, hρ⟩
    subst hρ
    repeat walk_at "ex"
    exact ⟨_, _, rfl, ⟨rfl, rfl⟩, rfl⟩
end K73

end

section
set_option Elab.async false
set_option linter.all false
set_option maxRecDepth 100000
set_option maxHeartbeats 2000000
open PySem PX
namespace K73
def joinR (r r' : List D) : D → D
  | .tup [.int i, .int j] => match r[i.toNat]?, r'[j.toNat]? with
    | some (.tup a), some (.tup b) => .tup (a ++ b)
    | _, _ => .none
  | _ => .none
def tooM : D → Bool
  | .tup l => decide (8 < (l.length : Int))
  | _ => false
def idxD (ps : List D) (p : D) : D := match ps.findIdx? (fun z => D.eq z p) with
  | some n => .int (n : Nat)
  | none => .none
def RD (e z k r e' z' k' r' : List D) : D :=
  if D.eq (.tup e) (.tup e') = false then .str (Str.ofString "eyes")
  else if z'.length = z.length ∨ D.eq (.tup (cut z' none (some (z.length : Nat)))) (.tup z) = false then .str (Str.ofString "sizes")
  else if r'.any (rsB (z.length : Nat)) = true then .str (Str.ofString "lays")
  else if 4 < ((nubL (zipD k k')).length : Int) then .str (Str.ofString "kinds")
  else if ((nubL (zipD k k')).map (joinR r r')).any tooM = true then .str (Str.ofString "rules")
  else sysD e' z' ((zipD k k').map (idxD (nubL (zipD k k')))) ((nubL (zipD k k')).map (joinR r r'))
def RX (R : D) : EQ := fun c fs => c = 5 ∧ fs = [(0, R)]
theorem eyes_ok {e : List D} (h : ∀ y ∈ e, EyeOk y) (n : Nat) : D.ok (n + 2) (.tup e) = true := by
  show e.all (D.ok (n + 1)) = true
  rw [List.all_eq_true]
  intro y hy
  obtain ⟨l, rfl, _, hl⟩ := h y hy
  exact ints_ok hl n
theorem szs_ok {z : List D} (h : ∀ y ∈ z, SzOk y) (n : Nat) : D.ok (n + 1) (.tup z) = true := by
  show z.all (D.ok n) = true
  rw [List.all_eq_true]
  intro y hy
  obtain ⟨i, rfl, _, _⟩ := h y hy
  cases n <;> rfl
variable {e z k r e' z' k' r' : List D}
theorem joinR_ok (hl : Sy e z k r) (hu : Sy e' z' k' r') {p : D} (h : PI r.length r'.length p) : ∃ i j : Nat, ∃ a b, p = .tup [.int i, .int j] ∧ r[i]? = some (.tup a) ∧ r'[j]? = some (.tup b) ∧ joinR r r' p = .tup (a ++ b) ∧ a.length ≤ 8 ∧ b.length ≤ 8 ∧ (∀ x ∈ a, RuleOk x) ∧ ∀ x ∈ b, RuleOk x := by
  obtain ⟨i, j, rfl, hi, hj⟩ := h
  obtain ⟨a, ha, ha1, ha2⟩ := hl.rr _ (List.getElem_mem hi)
  obtain ⟨b, hb, hb1, hb2⟩ := hu.rr _ (List.getElem_mem hj)
  have e1 : r[i]? = some (.tup a) := by rw [List.getElem?_eq_getElem hi, ha]
  have e2 : r'[j]? = some (.tup b) := by rw [List.getElem?_eq_getElem hj, hb]
  refine ⟨i, j, a, b, rfl, e1, e2, ?_, ha1, hb1, ha2, hb2⟩
  unfold joinR
  simp only [Int.toNat_natCast, e1, e2]
theorem find_has : ∀ {l : List D} {x : D}, D.has l x = true → ∃ n, l.findIdx? (fun z => D.eq z x) = some n
  | [], _, h => by cases h
  | y :: l, x, h => by
    rw [List.findIdx?_cons]
    cases q : D.eq y x with
    | true => exact ⟨0, by simp⟩
    | false =>
      have h' : D.has l x = true := by
        have : (D.eq y x || D.has l x) = true := h
        rw [q] at this; exact this
      obtain ⟨n, hn⟩ := find_has h'
      exact ⟨n + 1, by simp [hn]⟩
theorem has_app {l m : List D} {x : D} (h : D.has l x = true) : D.has (l ++ m) x = true := by
  unfold D.has at *
  rw [List.any_append, h]; rfl
theorem nubF_has {acc : List D} {x : D} (hx : D.eq x x = true) : D.has (nubF acc x) x = true := by
  unfold nubF
  split
  · assumption
  · unfold D.has
    rw [List.any_append]; simp [hx]
theorem foldl_pre : ∀ (l acc : List D), ∃ m, l.foldl nubF acc = acc ++ m
  | [], acc => ⟨[], by simp⟩
  | x :: l, acc => by
    obtain ⟨m, hm⟩ := foldl_pre l (nubF acc x)
    have : ∃ q, nubF acc x = acc ++ q := by
      unfold nubF
      split
      · exact ⟨[], by simp⟩
      · exact ⟨[x], rfl⟩
    obtain ⟨q, hq⟩ := this
    exact ⟨q ++ m, by show l.foldl nubF (nubF acc x) = _; rw [hm, hq, List.append_assoc]⟩
theorem nub_has {l : List D} {x : D} (hx : x ∈ l) (ok : D.eq x x = true) : D.has (nubL l) x = true := by
  obtain ⟨a, b, rfl⟩ := List.append_of_mem hx
  have e1 : nubL (a ++ x :: b) = b.foldl nubF (nubF (nubL a) x) := by simp [nubL]
  rw [e1]
  obtain ⟨m, hm⟩ := foldl_pre b (nubF (nubL a) x)
  rw [hm]
  exact has_app (nubF_has ok)
theorem bm_idx {l : List D} {x : D} {n : Nat} {k : D × Bool → Prop} (z : (x.ok 60 && l.all (D.ok 60)) = true) (h : l.findIdx? (fun z => D.eq z x) = some n) (hk : k (.int (n : Nat), false)) : Bm .index (.lst l) [x] k :=
  ⟨_, by show (if _ then _ else _) = _; rw [if_pos z, h]; rfl, hk⟩
theorem put {n : Nat} (hl : Sy e z k r) (hu : Sy e' z' k' r') : VC (callN T G (n + 2)) 2 [sysD e z k r, sysD e' z' k' r'] (fun d _ => d = RD e z k r e' z' k' r') (RX (RD e z k r e' z' k' r')) := by
  refine vC_intro (T := T) rfl rfl ?_
  have h0 := below (n := n) (few := (z.length : Nat)) hu
  have h1 := pairs (n := n) hl hu
  generalize callN T G (n + 1) = C at h0 h1
  have zp := zip_PI hl.kk hu.kk
  have pp : ∀ y ∈ nubL (zipD k k'), PI r.length r'.length y := fun y hy => zp y (nub_sub hy)
  show Ws C G b2 [.val (sysD e z k r), .val (sysD e' z' k' r'), .unset, .unset, .unset, .unset, .unset, .unset, .unset, .unset] _ _
  unfold b2
  repeat walk_at "ex"
  refine co_ne (by rw [eyes_ok hl.ee 58, eyes_ok hu.ee 58]; rfl) ?_
  refine if_b (fun q1 => ?_) (fun q1 => ?_)
  · repeat walk_at "ex"
    have c1 : D.eq (.tup e) (.tup e') = false := by
      cases w : D.eq (.tup e) (.tup e') with
      | true => rw [w] at q1; cases q1
      | false => rfl
    refine ⟨rfl, ?_⟩
    simp only [RD, if_pos c1]
    rfl
  · have c1 : ¬ D.eq (.tup e) (.tup e') = false := by
      intro w; rw [w] at q1; cases q1
    repeat walk_at "ex"
    refine if_dec (fun q2 => ?_) (fun q2 => ?_)
    · repeat walk_at "ex"
      have c2 : z'.length = z.length ∨ D.eq (.tup (cut z' none (some (z.length : Nat)))) (.tup z) = false := .inl (by omega)
      refine ⟨rfl, ?_⟩
      simp only [RD, if_neg c1, if_pos c2]
      rfl
    repeat walk_at "ex"
    refine co_ne (by rw [szs_ok hl.zz 59]; exact Bool.and_true _ ▸ szs_ok (fun y hy => hu.zz y (cut_mem hy)) 59) ?_
    refine if_b (fun q3 => ?_) (fun q3 => ?_)
    · repeat walk_at "ex"
      have c2 : z'.length = z.length ∨ D.eq (.tup (cut z' none (some (z.length : Nat)))) (.tup z) = false := .inr (by
        cases w : D.eq (.tup (cut z' none (some (z.length : Nat)))) (.tup z) with
        | true =>
          have q4 : (!D.eq (.tup (cut z' none (some (z.length : Nat)))) (.tup z)) = true := q3
          rw [w] at q4; cases q4
        | false => rfl)
      refine ⟨rfl, ?_⟩
      simp only [RD, if_neg c1, if_pos c2]
      rfl
    have c2 : ¬ (z'.length = z.length ∨ D.eq (.tup (cut z' none (some (z.length : Nat)))) (.tup z) = false) := by
      rintro (w | w)
      · omega
      · have q4 : (!D.eq (.tup (cut z' none (some (z.length : Nat)))) (.tup z)) = false := q3
        rw [w] at q4; cases q4
    repeat walk_at "ex"
    refine call_v h0 rfl (fun rr fr hr => ?_) no_of
    subst hr
    repeat walk_at "ex"
    refine if_b (fun q4 => ?_) (fun q4 => ?_)
    · repeat walk_at "ex"
      refine ⟨rfl, ?_⟩
      simp only [RD, if_neg c1, if_neg c2, if_pos q4]
      rfl
    have c3 : ¬ r'.any (rsB (z.length : Nat)) = true := by rw [q4]; exact nofun
    repeat walk_at "ex"
    refine call_v h1 rfl (fun rr fr hr => ?_) no_of
    obtain ⟨rfl, rfl⟩ := hr
    have has : ∀ x ∈ zipD k k', ∃ m, (nubL (zipD k k')).findIdx? (fun z => D.eq z x) = some m := fun x hx => find_has (nub_has hx (eq_refl (PI_ok (zp x hx) 0)))
    have pl6 : (nubL (zipD k k')).length ≤ 6 := by
      have q := nub_len (zipD k k')
      rw [zip_len] at q
      have := hl.kl
      have := hl.e6
      omega
    have zl6 : (zipD k k').length ≤ 6 := by
      rw [zip_len]
      have := hl.kl
      have := hl.e6
      omega
    generalize hps : nubL (zipD k k') = ps at pp has pl6
    repeat walk_at "ex"
    refine co_gtI (i := (ps.length : Nat)) (j := 4) ?_
    refine if_dec (fun q5 => ?_) (fun q5 => ?_)
    · repeat walk_at "ex"
      refine ⟨rfl, ?_⟩
      simp only [RD, if_neg c1, if_neg c2, if_neg c3, hps, if_pos q5]
      rfl
    repeat walk_at "ex"
    refine ⟨rfl, by dsimp only; unfold lim; omega, ?_⟩
    refine comp_pureW (joinR r r') (fun _ => true) ?_ ?_
    · intro x hx
      obtain ⟨i, j, a, b, rfl, e1, e2, e3, ha, hb, _, _⟩ := joinR_ok hl hu (pp x hx)
      walk_at "nb"
      repeat walk_at "ex"
      refine ⟨rfl, ?_⟩
      rw [if_pos rfl]
      repeat walk_at "ex"
      refine ix_of (at_nat e1).2.1 ?_
      repeat walk_at "ex"
      refine ix_of (at_nat e2).2.1 ?_
      repeat' (first | walk_at "ad" | walk_at "ex")
      exact ⟨e3.symm, rfl⟩
    · intro ρ' h
      rw [back_of h, filt]
      walk_at "nb"
      repeat walk_at "ex"
      refine ⟨rfl, by dsimp only; rw [List.length_map]; unfold lim; omega, ?_⟩
      refine comp_pureW (fun x => .bool (tooM x)) (fun _ => true) ?_ ?_
      · intro x hx
        obtain ⟨p, hp, rfl⟩ := List.mem_map.mp hx
        obtain ⟨i, j, a, b, rfl, e1, e2, e3, ha, hb, _, _⟩ := joinR_ok hl hu (pp p hp)
        rw [e3]
        walk_at "nb"
        repeat walk_at "ex"
        refine ⟨rfl, ?_⟩
        rw [if_pos rfl]
        repeat walk_at "ex"
        refine co_gtI (j := 8) ?_
        exact ⟨rfl, rfl⟩
      · intro ρ' h
        rw [back_of h, filt]
        walk_at "nb"
        repeat walk_at "ex"
        refine bf_any ?_
        repeat walk_at "ex"
        refine if_b (fun q6 => ?_) (fun q6 => ?_)
        · repeat walk_at "ex"
          refine ⟨rfl, ?_⟩
          simp only [RD, if_neg c1, if_neg c2, if_neg c3, hps, if_neg q5, if_pos q6]
          rfl
        have c6 : ¬ (ps.map (joinR r r')).any tooM = true := by rw [q6]; exact nofun
        repeat walk_at "ex"
        refine ⟨rfl, by dsimp only; unfold lim; omega, ?_⟩
        refine comp_pureW (idxD ps) (fun _ => true) ?_ ?_
        · intro x hx
          obtain ⟨m, hm⟩ := has x hx
          walk_at "nb"
          repeat walk_at "ex"
          refine ⟨rfl, ?_⟩
          rw [if_pos rfl]
          repeat walk_at "ex"
          refine ⟨rfl, ?_⟩
          repeat walk_at "ex"
          refine bm_idx (by rw [PI_ok (zp x hx) 59, PIs_ok pp 59]; rfl) hm ?_
          exact ⟨by unfold idxD; rw [hm], rfl⟩
        · intro ρ' h
          rw [back_of h, filt]
          walk_at "nb"
          repeat walk_at "ex"
          refine ⟨_, _, rfl, ?_, rfl⟩
          simp only [RD, if_neg c1, if_neg c2, if_neg c3, hps, if_neg q5, if_neg c6]
end K73

end

section
set_option Elab.async false
set_option linter.all false
set_option maxRecDepth 100000
set_option maxHeartbeats 2000000
open PySem PX
namespace K73
theorem ints_eq {m m' : Int} : ∀ {a b : List D}, (∀ y ∈ a, IntIn m y) → (∀ y ∈ b, IntIn m' y) → PyData.eqvAll (D.pys a) (D.pys b) = true → a = b
  | [], [], _, _, _ => rfl
  | [], _ :: _, _, _, h => by simp [D.pys, PyData.eqvAll] at h
  | _ :: _, [], _, _, h => by simp [D.pys, PyData.eqvAll] at h
  | x :: a, y :: b, h1, h2, h => by
    obtain ⟨i, rfl, _, _⟩ := h1 x (by simp)
    obtain ⟨j, rfl, _, _⟩ := h2 y (by simp)
    simp only [D.pys, D.py, PyData.eqvAll, PyData.eqv, Bool.and_eq_true, beq_iff_eq] at h
    rw [h.1, ints_eq (fun y hy => h1 y (by simp [hy])) (fun y hy => h2 y (by simp [hy])) h.2]
theorem eyes_eq : ∀ {a b : List D}, (∀ y ∈ a, EyeOk y) → (∀ y ∈ b, EyeOk y) → PyData.eqvAll (D.pys a) (D.pys b) = true → a = b
  | [], [], _, _, _ => rfl
  | [], _ :: _, _, _, h => by simp [D.pys, PyData.eqvAll] at h
  | _ :: _, [], _, _, h => by simp [D.pys, PyData.eqvAll] at h
  | x :: a, y :: b, h1, h2, h => by
    obtain ⟨i, rfl, _, hi⟩ := h1 x (by simp)
    obtain ⟨j, rfl, _, hj⟩ := h2 y (by simp)
    simp only [D.pys, D.py, PyData.eqvAll, PyData.eqv, Bool.and_eq_true] at h
    rw [ints_eq hi hj h.1, eyes_eq (fun y hy => h1 y (by simp [hy])) (fun y hy => h2 y (by simp [hy])) h.2]
theorem eqs_len : ∀ {a b : List D}, PyData.eqvAll (D.pys a) (D.pys b) = true → a.length = b.length
  | [], [], _ => rfl
  | [], _ :: _, h => by simp [D.pys, PyData.eqvAll] at h
  | _ :: _, [], h => by simp [D.pys, PyData.eqvAll] at h
  | x :: a, y :: b, h => by
    simp only [D.pys, PyData.eqvAll, Bool.and_eq_true] at h
    simp [eqs_len h.2]
theorem ir_pos {n : Int} {pre post : List D} {x : D} (h : irange 0 n = pre ++ x :: post) : x = .int (pre.length : Nat) := by
  have e : (irange 0 n)[pre.length]? = some x := by rw [h]; simp
  unfold irange at e
  rw [List.getElem?_map] at e
  obtain ⟨q, hq, rfl⟩ := Option.map_eq_some_iff.mp e
  obtain ⟨hl, hv⟩ := List.getElem?_eq_some_iff.mp hq
  rw [List.getElem_range] at hv
  rw [← hv]; simp
theorem zip_get {a b : D} : ∀ (k k' : List D) (m : Nat), k[m]? = some a → k'[m]? = some b → (zipD k k')[m]? = some (.tup [a, b]) := by
  intro k
  induction k with
  | nil => intro k' m h; simp at h
  | cons x k ih =>
    intro k' m h1 h2
    cases k' with
    | nil => simp at h2
    | cons y k' =>
      cases m with
      | zero =>
        simp at h1 h2
        rw [h1, h2]; rfl
      | succ m =>
        simp only [List.getElem?_cons_succ] at h1 h2
        exact ih k' m h1 h2
theorem idx_pre {l m : List D} {x : D} {n : Nat} (h : l.findIdx? (fun z => D.eq z x) = some n) : (l ++ m).findIdx? (fun z => D.eq z x) = some n := by
  rw [List.findIdx?_append, h]; rfl
theorem nub_pre (l : List D) (m : Nat) : ∃ q, nubL l = nubL (l.take m) ++ q := by
  have e : nubL l = (l.drop m).foldl nubF (nubL (l.take m)) := by
    unfold nubL
    rw [← List.foldl_append, List.take_append_drop]
  rw [e]
  exact foldl_pre _ _
theorem maxI_gt {c : Int} : ∀ (l : List Int) (n : Int), decide (c < maxI n l) = (decide (c < n) || l.any fun x => decide (c < x))
  | [], n => by
    show decide (c < n) = (decide (c < n) || false)
    rw [Bool.or_false]
  | x :: l, n => by
    have e : maxI n (x :: l) = maxI (if n < x then x else n) l := rfl
    rw [e, maxI_gt l, List.any_cons]
    by_cases h : n < x
    · rw [if_pos h]
      by_cases h2 : c < n
      · have : c < x := by omega
        simp [h2, this]
      · simp [h2]
    · rw [if_neg h]
      by_cases h2 : c < x
      · have : c < n := by omega
        simp [h2, this]
      · simp [h2]
theorem intsOf_map (f : D → Int) : ∀ l : List D, intsOf (l.map fun x => .int (f x)) = some (l.map f)
  | [] => rfl
  | x :: l => by show (intsOf (l.map fun x => .int (f x))).map _ = _; rw [intsOf_map f l]; rfl
def lenD : D → Int
  | .tup l => (l.length : Nat)
  | _ => 0
theorem bf_max {f : D → Int} {l : List D} {x : D} {kk : D × Bool → Prop} (h : kk (.int (maxI (f x) (l.map f)), false)) : Bf .max [.lst ((x :: l).map fun x => .int (f x))] kk :=
  ⟨_, by
    show (intsOf ((x :: l).map fun x => .int (f x))).bind _ = _
    rw [intsOf_map]; rfl, h⟩
theorem any_cg {f g : D → Bool} : ∀ {l : List D}, (∀ x ∈ l, f x = g x) → l.any f = l.any g
  | [], _ => rfl
  | x :: l, h => by rw [List.any_cons, List.any_cons, h x (by simp), any_cg fun y hy => h y (by simp [hy])]
def boxF : D → D
  | .tup [b, _] => b
  | d => d
variable {e z k r e' z' k' r' : List D}
theorem due {n : Nat} (hl : Sy e z k r) (hu : Sy e' z' k' r') : VC (callN T G (n + 1)) 14 [sysD e z k r, sysD e' z' k' r'] (fun d _ => d = RD e z k r e' z' k' r') no := by
  refine vC_intro (T := T) rfl rfl ?_
  generalize callN T G n = C
  have zp := zip_PI hl.kk hu.kk
  show Ws C G b14 [.val (sysD e z k r), .val (sysD e' z' k' r'), .unset, .unset, .unset, .unset, .unset, .unset, .unset, .unset, .unset, .unset, .unset, .unset, .unset] _ _
  unfold b14
  repeat walk_at "ex"
  refine co_ne (by rw [eyes_ok hl.ee 58, eyes_ok hu.ee 58]; rfl) ?_
  refine if_b (fun q1 => ?_) (fun q1 => ?_)
  · repeat walk_at "ex"
    have c1 : D.eq (.tup e) (.tup e') = false := by
      cases w : D.eq (.tup e) (.tup e') with
      | true => rw [w] at q1; cases q1
      | false => rfl
    refine ⟨_, _, rfl, ?_, rfl⟩
    simp only [RD, if_pos c1]
  have c1 : ¬ D.eq (.tup e) (.tup e') = false := by
    intro w; rw [w] at q1; cases q1
  have ee : e = e' := eyes_eq hl.ee hu.ee (by
    cases w : D.eq (.tup e) (.tup e') with
    | true => exact w
    | false => exact absurd w c1)
  repeat walk_at "ex"
  refine co_ne (by rw [szs_ok hl.zz 59]; exact Bool.and_true _ ▸ szs_ok (fun y hy => hu.zz y (cut_mem hy)) 59) ?_
  refine if_b (fun q3 => ?_) (fun q3 => ?_)
  · repeat walk_at "ex"
    have c2 : z'.length = z.length ∨ D.eq (.tup (cut z' none (some (z.length : Nat)))) (.tup z) = false := .inr (by
      cases w : D.eq (.tup (cut z' none (some (z.length : Nat)))) (.tup z) with
      | true =>
        have q4 : (!D.eq (.tup (cut z' none (some (z.length : Nat)))) (.tup z)) = true := q3
        rw [w] at q4; cases q4
      | false => rfl)
    refine ⟨_, _, rfl, ?_, rfl⟩
    simp only [RD, if_neg c1, if_pos c2]
  have q4 : D.eq (.tup (cut z' none (some (z.length : Nat)))) (.tup z) = true := by
    have q5 : (!D.eq (.tup (cut z' none (some (z.length : Nat)))) (.tup z)) = false := q3
    cases w : D.eq (.tup (cut z' none (some (z.length : Nat)))) (.tup z) with
    | true => rfl
    | false => rw [w] at q5; cases q5
  have zl : z.length ≤ z'.length := by
    have q5 := eqs_len (a := cut z' none (some (z.length : Nat))) (b := z) q4
    rw [cut_to, List.length_take] at q5
    omega
  repeat walk_at "ex"
  refine if_dec (fun q5 => ?_) (fun q5 => ?_)
  · repeat walk_at "ex"
    have c2 : z'.length = z.length ∨ D.eq (.tup (cut z' none (some (z.length : Nat)))) (.tup z) = false := .inl (by omega)
    refine ⟨_, _, rfl, ?_, rfl⟩
    simp only [RD, if_neg c1, if_pos c2]
  have c2 : ¬ (z'.length = z.length ∨ D.eq (.tup (cut z' none (some (z.length : Nat)))) (.tup z) = false) := by
    rintro (w | w)
    · omega
    · rw [q4] at w; cases w
  repeat walk_at "ex"
  refine ⟨rfl, ?_⟩
  refine wp_forL (fun done ρ => done.any (rsB (z.length : Nat)) = false ∧ ∃ c3 c8 c9 : Cell, Free (some c3) = true ∧ Free (some c8) = true ∧ Free (some c9) = true ∧ ρ = [.val (sysD e z k r), .val (sysD e' z' k' r'), .val (.int (z.length : Nat)), c3, .unset, .unset, .unset, .unset, c8, c9, .unset, .unset, .unset, .unset, .unset]) _ [] _ ⟨rfl, _, _, _, rfl, rfl, rfl, rfl⟩ ?_ ?_
  · intro pre x post ρ hs ⟨hd, c3, c8, c9, h3, h8, h9, hρ⟩
    subst hρ
    simp only [List.nil_append] at hs
    have hx : x ∈ r' := by rw [hs]; simp
    obtain ⟨rl, rfl, hr8, hrl⟩ := hu.rr x hx
    rw [wp_bind]
    refine bt_name h3 ?_
    show Ws C G _ _ _ no
    dsimp only [List.set_cons_zero, List.set_cons_succ]
    repeat walk_at "ex"
    refine ⟨rfl, ?_⟩
    refine wp_forL (fun done ρ => done.any (ruleB (z.length : Nat)) = false ∧ ∃ c8 c9 : Cell, Free (some c8) = true ∧ Free (some c9) = true ∧ ρ = [.val (sysD e z k r), .val (sysD e' z' k' r'), .val (.int (z.length : Nat)), .val (.tup rl), .unset, .unset, .unset, .unset, c8, c9, .unset, .unset, .unset, .unset, .unset]) _ [] _ ⟨rfl, _, _, h8, h9, rfl⟩ ?_ ?_
    · intro pre2 x2 post2 ρ hs2 ⟨hd2, c8, c9, h8, h9, hρ⟩
      subst hρ
      simp only [List.nil_append] at hs2
      have hx2 : x2 ∈ rl := by rw [hs2]; simp
      obtain ⟨cl, lays, rfl, _, _, hlay⟩ := hrl x2 hx2
      rw [wp_bind]
      refine bt_tup (pa_cons' h8 (pa_cons' h9 (pa_nil' ?_)))
      show Ws C G _ _ _ no
      dsimp only [List.set_cons_zero, List.set_cons_succ]
      repeat walk_at "ex"
      refine ⟨rfl, by dsimp only; unfold lim; omega, ?_⟩
      refine comp_pureW boxF (layB (z.length : Nat)) ?_ ?_
      · intro x3 hx3
        obtain ⟨b, t, rfl, _, _, _⟩ := hlay x3 hx3
        walk_at "nb"
        repeat walk_at "ex"
        refine ⟨rfl, ?_⟩
        refine if_b (fun q => ?_) (fun q => ?_)
        · repeat walk_at "ex"
          exact ⟨rfl, rfl⟩
        · rfl
      · intro ρ' h
        rw [back_of h]
        walk_at "nb"
        have hok : ((lays.filter (layB (z.length : Nat))).map boxF).all (D.ok 59) = true := by
          rw [List.all_eq_true]
          intro y hy
          obtain ⟨q, hq, rfl⟩ := List.mem_map.mp hy
          obtain ⟨b, t, rfl, _, _, _⟩ := hlay q (List.mem_filter.mp hq).1
          rfl
        have he : (!D.eq (.lst ((lays.filter (layB (z.length : Nat))).map boxF)) (.lst [])) = lays.any (layB (z.length : Nat)) := by
          have key : ∀ l : List D, (!D.eq (.lst ((l.filter (layB (z.length : Nat))).map boxF)) (.lst [])) = l.any (layB (z.length : Nat)) := by
            intro l
            induction l with
            | nil => rfl
            | cons y l ih =>
              rw [List.filter_cons, List.any_cons]
              cases hq : layB (z.length : Nat) y with
              | true => rfl
              | false => simpa using ih
          exact key lays
        repeat walk_at "ex"
        refine co_ne (by exact Bool.and_true _ ▸ hok) ?_
        refine if_b (fun q => ?_) (fun q => ?_)
        · repeat walk_at "ex"
          have q1 : ruleB (z.length : Nat) (.tup [cl, .tup lays]) = true := he.symm.trans q
          have q2 : rsB (z.length : Nat) (.tup rl) = true := by
            show rl.any (ruleB (z.length : Nat)) = true
            rw [hs2]; exact any_mid _ _ _ _ q1
          have c3 : r'.any (rsB (z.length : Nat)) = true := by rw [hs]; exact any_mid _ _ _ _ q2
          refine ⟨_, _, rfl, ?_, rfl⟩
          simp only [RD, if_neg c1, if_neg c2, if_pos c3]
        · repeat walk_at "ex"
          refine ⟨?_, _, _, rfl, rfl, rfl⟩
          rw [any_snoc, hd2]
          exact he.symm.trans q
    · intro ρ ⟨hd2, c8, c9, h8, h9, hρ⟩
      subst hρ
      refine ⟨?_, _, _, _, rfl, h8, h9, rfl⟩
      rw [any_snoc, hd]
      exact hd2
  · intro ρ ⟨hd, cc3, c8, c9, h3, h8, h9, hρ⟩
    subst hρ
    simp only [List.nil_append] at hd
    have c3 : ¬ r'.any (rsB (z.length : Nat)) = true := by rw [hd]; exact nofun
    have kl := hl.kl
    have kl' := hu.kl
    have e6 := hl.e6
    have e0 := hl.e0
    have eel : e.length = e'.length := by rw [ee]
    have zlen : (zipD k k').length = e.length := by rw [zip_len, kl, kl', ← ee]; simp
    have has : ∀ x ∈ zipD k k', ∃ m, (nubL (zipD k k')).findIdx? (fun z => D.eq z x) = some m := fun x hx => find_has (nub_has hx (eq_refl (PI_ok (zp x hx) 0)))
    have pp : ∀ y ∈ nubL (zipD k k'), PI r.length r'.length y := fun y hy => zp y (nub_sub hy)
    have pl6 : (nubL (zipD k k')).length ≤ 6 := by
      have q := nub_len (zipD k k')
      omega
    repeat walk_at "ex"
    refine r1_of (rOk_of (by omega) (by omega)) ?_
    refine ⟨rfl, ?_⟩
    refine wp_forL (fun done ρ => ∃ c6 c7 : Cell, Free (some c6) = true ∧ Free (some c7) = true ∧ ρ = [.val (sysD e z k r), .val (sysD e' z' k' r'), .val (.int (z.length : Nat)), cc3, .own false (.lst (nubL ((zipD k k').take done.length))), .own false (.lst (((zipD k k').take done.length).map (idxD (nubL (zipD k k'))))), c6, c7, c8, c9, .unset, .unset, .unset, .unset, .unset]) _ [] _ ⟨_, _, rfl, rfl, rfl⟩ ?_ ?_
    · intro pre x post ρ hs ⟨c6, c7, h6, h7, hρ⟩
      subst hρ
      simp only [List.nil_append] at hs
      have hm := ir_pos hs
      have hml : pre.length < e.length := by
        have q := congrArg List.length hs
        rw [ir_len] at q
        simp at q
        omega
      subst hm
      generalize hpl : pre.length = m at hml
      have hk : k[m]? = some (k[m]'(by omega)) := List.getElem?_eq_getElem _
      have hk' : k'[m]? = some (k'[m]'(by omega)) := List.getElem?_eq_getElem _
      generalize k[m]'(by omega) = x at hk
      generalize k'[m]'(by omega) = y at hk'
      have hz := zip_get k k' m hk hk'
      have hzm : D.tup [x, y] ∈ zipD k k' := List.mem_of_getElem? hz
      have htk : (zipD k k').take (m + 1) = (zipD k k').take m ++ [.tup [x, y]] := by rw [List.take_add_one, hz]; rfl
      have hlen : (pre ++ [D.int (m : Nat)]).length = m + 1 := by simp [hpl]
      have hnb : nubL ((zipD k k').take (m + 1)) = nubF (nubL ((zipD k k').take m)) (.tup [x, y]) := by rw [htk, nubL_snoc]
      have pm : ∀ y ∈ nubL ((zipD k k').take m), PI r.length r'.length y := fun y hy => zp y (List.mem_of_mem_take (nub_sub hy))
      have pm1 : ∀ y ∈ nubL ((zipD k k').take (m + 1)), PI r.length r'.length y := fun y hy => zp y (List.mem_of_mem_take (nub_sub hy))
      have pml : (nubL ((zipD k k').take m)).length ≤ 6 := by
        have q := nub_len ((zipD k k').take m)
        rw [List.length_take] at q
        omega
      have hix : ∃ n, (nubL ((zipD k k').take (m + 1))).findIdx? (fun z => D.eq z (.tup [x, y])) = some n ∧ idxD (nubL (zipD k k')) (.tup [x, y]) = .int (n : Nat) := by
        obtain ⟨n, hn⟩ := find_has (nub_has (l := (zipD k k').take (m + 1)) (x := .tup [x, y]) (by rw [htk]; simp) (eq_refl (PI_ok (zp _ hzm) 0)))
        obtain ⟨q, hq⟩ := nub_pre (zipD k k') (m + 1)
        refine ⟨n, hn, ?_⟩
        have q2 := idx_pre (m := q) hn
        rw [← hq] at q2
        unfold idxD
        rw [q2]
      obtain ⟨ni, hni, hid⟩ := hix
      rw [wp_bind]
      refine bt_name h6 ?_
      show Ws C G _ _ _ no
      dsimp only [List.set_cons_zero, List.set_cons_succ]
      repeat walk_at "ex"
      refine ix_of (at_nat hk).2.1 ?_
      repeat walk_at "ex"
      refine ix_of (at_nat hk').2.1 ?_
      repeat walk_at "ex"
      refine as_val rfl h7 ?_
      dsimp only [List.set_cons_zero, List.set_cons_succ]
      repeat walk_at "ex"
      refine co_notinL (by rw [PI_ok (zp _ hzm) 59, PIs_ok pm 59]; rfl) ?_
      have fin : ∀ ps : List D, ps = nubL ((zipD k k').take (m + 1)) → Ws C G (.expr (.mut .append 5 (.cons (.bm .index (.var 4) (.cons (.var 7) .nil)) .nil))) [.val (sysD e z k r), .val (sysD e' z' k' r'), .val (.int (z.length : Nat)), cc3, .own false (.lst ps), .own false (.lst (((zipD k k').take m).map (idxD (nubL (zipD k k'))))), .val (.int (m : Nat)), .val (.tup [x, y]), c8, c9, .unset, .unset, .unset, .unset, .unset] (fun fl ρ => fl = .nx ∧ ∃ c6 c7 : Cell, Free (some c6) = true ∧ Free (some c7) = true ∧ ρ = [.val (sysD e z k r), .val (sysD e' z' k' r'), .val (.int (z.length : Nat)), cc3, .own false (.lst (nubL ((zipD k k').take (pre ++ [D.int (m : Nat)]).length))), .own false (.lst (((zipD k k').take (pre ++ [D.int (m : Nat)]).length).map (idxD (nubL (zipD k k'))))), c6, c7, c8, c9, .unset, .unset, .unset, .unset, .unset]) no := by
        intro ps hps
        subst hps
        repeat walk_at "ex"
        refine ⟨rfl, ?_⟩
        repeat walk_at "ex"
        refine bm_idx (by rw [PI_ok (zp _ hzm) 59, PIs_ok pm1 59]; rfl) hni ?_
        repeat walk_at "ex"
        refine mi_app rfl (by rw [List.length_map, List.length_take]; unfold lim; omega) ?_
        refine ⟨rfl, .val (.int (m : Nat)), .val (.tup [x, y]), rfl, rfl, ?_⟩
        rw [hlen, htk, List.map_append, ← htk]
        show _ = [_, _, _, _, _, Cell.own false (.lst (_ ++ [idxD (nubL (zipD k k')) (.tup [x, y])])), _, _, _, _, _, _, _, _, _]
        rw [hid]
        rfl
      refine if_b (fun q => ?_) (fun q => ?_)
      · repeat walk_at "ex"
        refine mi_app rfl (by unfold lim; omega) ?_
        refine th_nx ?_
        refine wp_mono (fin _ ?_) (fun fl ρ ⟨h1, h2⟩ => by subst h1; exact h2) fun _ _ h => h
        rw [hnb]
        unfold nubF
        rw [if_neg (by intro w; rw [w] at q; cases q)]
      · refine ws_skip (th_nx ?_)
        refine wp_mono (fin _ ?_) (fun fl ρ ⟨h1, h2⟩ => by subst h1; exact h2) fun _ _ h => h
        rw [hnb]
        unfold nubF
        rw [if_pos (by cases w : D.has (nubL ((zipD k k').take m)) (.tup [x, y]) with
          | true => rfl
          | false => rw [w] at q; cases q)]
    · intro ρ ⟨c6, c7, h6, h7, hρ⟩
      subst hρ
      simp only [List.nil_append]
      rw [show (irange 0 (e.length : Nat)).length = (zipD k k').length by rw [ir_len, zlen]; simp, List.take_length]
      have kn0 : 0 < (nubL (zipD k k')).length := by
        cases hz : zipD k k' with
        | nil => rw [hz] at zlen; simp at zlen; omega
        | cons x l =>
          have q := nub_has (l := zipD k k') (x := x) (by rw [hz]; simp) (eq_refl (PI_ok (zp x (by rw [hz]; simp)) 0))
          rw [hz] at q
          cases w : nubL (x :: l) with
          | nil => rw [w] at q; cases q
          | cons _ _ => simp
      generalize hps : nubL (zipD k k') = ps at pp has pl6 kn0
      repeat walk_at "ex"
      refine if_dec (fun q5 => ?_) (fun q5 => ?_)
      · repeat walk_at "ex"
        refine ⟨_, _, rfl, ?_, rfl⟩
        simp only [RD, if_neg c1, if_neg c2, if_neg c3, hps, if_pos q5]
      refine ws_skip (th_nx ?_)
      refine ws_cutN (fun ρ => ρ = [.val (sysD e z k r), .val (sysD e' z' k' r'), .val (.int (z.length : Nat)), .val (.lst (ps.map (joinR r r'))), .own false (.lst ps), .own false (.lst ((zipD k k').map (idxD ps))), c6, c7, c8, c9, .unset, .unset, .unset, .unset, .unset]) 0 _ ?_ ?_
      · dsimp only [h1N]
        repeat' (first | (with_reducible refine we_comp ?_) | walk_at "ex")
        refine ⟨by dsimp only; unfold lim; omega, ?_⟩
        refine comp_pureW (joinR r r') (fun _ => true) ?_ ?_
        · intro x hx
          obtain ⟨i, j, a, b, rfl, e1, e2, e3, ha, hb, _, _⟩ := joinR_ok hl hu (pp x hx)
          dsimp only [wipe, List.set_cons_zero, List.set_cons_succ]
          repeat walk_at "ex"
          refine ⟨rfl, ?_⟩
          rw [if_pos rfl]
          repeat walk_at "ex"
          refine ix_of (at_nat e1).2.1 ?_
          repeat walk_at "ex"
          refine ix_of (at_nat e2).2.1 ?_
          repeat' (first | walk_at "ad" | walk_at "ex")
          exact ⟨e3.symm, rfl⟩
        · intro ρ' h
          rw [back_app h, filt]
          exact as_val rfl h3 ⟨rfl, rfl⟩
      · intro ρ hρ
        subst hρ
        dsimp only [t1N]
        repeat walk_at "ex"
        refine ⟨rfl, by dsimp only; rw [List.length_map]; unfold lim; omega, ?_⟩
        refine comp_pureW (fun x => .int (lenD x)) (fun _ => true) ?_ ?_
        · intro x hx
          obtain ⟨p, hp, rfl⟩ := List.mem_map.mp hx
          obtain ⟨i, j, a, b, rfl, e1, e2, e3, ha, hb, _, _⟩ := joinR_ok hl hu (pp p hp)
          rw [e3]
          walk_at "nb"
          repeat walk_at "ex"
          refine ⟨rfl, ?_⟩
          rw [if_pos rfl]
          repeat walk_at "ex"
          exact ⟨rfl, rfl⟩
        · intro ρ' h
          rw [back_of h, filt]
          walk_at "nb"
          repeat walk_at "ex"
          have tm : ∀ x ∈ ps.map (joinR r r'), tooM x = decide (8 < lenD x) := by
            intro x hx
            obtain ⟨p, hp, rfl⟩ := List.mem_map.mp hx
            obtain ⟨i, j, a, b, rfl, e1, e2, e3, ha, hb, _, _⟩ := joinR_ok hl hu (pp p hp)
            rw [e3]; rfl
          have hmx : ∃ x l, ps.map (joinR r r') = x :: l := by
            cases hq : ps with
            | nil => rw [hq] at kn0; simp at kn0
            | cons x l => exact ⟨_, _, rfl⟩
          obtain ⟨x0, l0, hx0⟩ := hmx
          rw [hx0]
          refine bf_max ?_
          have am : decide (8 < maxI (lenD x0) (l0.map lenD)) = (x0 :: l0).any tooM := by
            rw [maxI_gt, List.any_cons, tm x0 (by rw [hx0]; simp), List.any_map]
            congr 1
            exact any_cg fun x hx => (tm x (by rw [hx0]; simp [hx])).symm
          repeat walk_at "ex"
          rw [am]
          refine if_b (fun q6 => ?_) (fun q6 => ?_)
          · repeat walk_at "ex"
            refine ⟨_, _, rfl, ?_, rfl⟩
            simp only [RD, if_neg c1, if_neg c2, if_neg c3, hps, if_neg q5, hx0, if_pos q6]
          · repeat walk_at "ex"
            refine ⟨_, _, rfl, ?_, rfl⟩
            have c6 : ¬ (x0 :: l0).any tooM = true := by rw [q6]; exact nofun
            simp only [RD, if_neg c1, if_neg c2, if_neg c3, hps, if_neg q5, hx0, if_neg c6]
            rw [ee]
end K73

end

section
set_option Elab.async false
set_option linter.all false
set_option maxRecDepth 100000
set_option maxHeartbeats 2000000
open PySem PX
namespace K73
theorem plL_of {k a m : Nat} {l : List D} (h : ∀ y ∈ l, Pl k a y) (hl : l.length ≤ m) : PlL k (m * (a + 2)) l := (plL_all h).mono (Nat.le_refl _) (Nat.mul_le_mul_right _ hl)
theorem lay_pl {y : D} (h : LayOk y) : Pl 4 500 y := by
  obtain ⟨b, t, rfl, h0, h1, h2⟩ := h
  walk_at "pl"
theorem rule_pl {y : D} (h : RuleOk y) : Pl 6 2300 y := by
  obtain ⟨c, lays, rfl, hc, hl, hy⟩ := h
  have h1 : Pl 5 1509 (.tup lays) := pl_tup (plL_of (fun y hq => lay_pl (hy y hq)) hl)
  walk_at "pl"
theorem rs_pl {l : List D} (h : ∀ y ∈ l, RuleOk y) (hl : l.length ≤ 16) : Pl 7 40000 (.tup l) := (pl_tup (plL_of (fun y hq => rule_pl (h y hq)) hl)).mono (by decide) (by decide)
theorem int_pl {m : Int} {y : D} (h : IntIn m y) (hm : m ≤ 64) : Pl 0 3 y := by
  obtain ⟨i, rfl, h0, h1⟩ := h
  exact pl_int (by omega) (by omega)
theorem eye_pl {y : D} (h : EyeOk y) : Pl 1 40 y := by
  obtain ⟨l, rfl, hl, hi⟩ := h
  exact (pl_tup (plL_of (fun y hq => int_pl (hi y hq) (by decide)) hl)).mono (by decide) (by decide)
theorem sz_pl {y : D} (h : SzOk y) : Pl 0 3 y := by
  obtain ⟨i, rfl, h0, h1⟩ := h
  exact pl_int (by omega) (by omega)
theorem sys_pl {e z k r : List D} (he : ∀ y ∈ e, EyeOk y) (he6 : e.length ≤ 6) (hz : ∀ y ∈ z, SzOk y) (hz3 : z.length ≤ 3) (hk : ∀ y ∈ k, IntIn 64 y) (hk6 : k.length ≤ 6) (hr : ∀ y ∈ r, Pl 7 40000 y) (hr6 : r.length ≤ 6) : Pl 9 300000 (sysD e z k r) := by
  have h1 : Pl 2 255 (.tup e) := pl_tup (plL_of (fun y hq => eye_pl (he y hq)) he6)
  have h2 : Pl 1 18 (.tup z) := pl_tup (plL_of (fun y hq => sz_pl (hz y hq)) hz3)
  have h3 : Pl 1 33 (.tup k) := pl_tup (plL_of (fun y hq => int_pl (hk y hq) (by decide)) hk6)
  have h4 : Pl 8 240015 (.tup r) := pl_tup (plL_of hr hr6)
  show Pl 9 300000 (.tup [.tup e, .tup z, .tup k, .tup r])
  walk_at "pl"
theorem Sy.pl {e z k r : List D} (h : Sy e z k r) : Pl 9 300000 (sysD e z k r) := by
  refine sys_pl h.ee h.e6 h.zz h.z3 (fun y hy => ?_) (by rw [h.kl]; exact h.e6) (fun y hy => ?_) (Nat.le_trans h.r4 (by decide))
  · obtain ⟨i, rfl, h0, h1⟩ := h.kk y hy
    have := h.r4
    exact ⟨i, rfl, h0, by omega⟩
  · obtain ⟨l, rfl, hl, hx⟩ := h.rr y hy
    exact rs_pl hx (by omega)
variable {e z k r e' z' k' r' : List D}
theorem RD_pl (hl : Sy e z k r) (hu : Sy e' z' k' r') : Pl 9 300000 (RD e z k r e' z' k' r') := by
  have zp := zip_PI hl.kk hu.kk
  have pp : ∀ y ∈ nubL (zipD k k'), PI r.length r'.length y := fun y hy => zp y (nub_sub hy)
  have zl6 : (zipD k k').length ≤ 6 := by
    rw [zip_len]
    have := hl.kl
    have := hl.e6
    omega
  have pl6 := Nat.le_trans (nub_len (zipD k k')) zl6
  have w : ∀ s : Str, (PyData.strOk s && decide ((PyData.str s).shown.length ≤ 8)) = true → Pl 9 300000 (.str s) := fun s h => (pl_str h).mono (by decide) (by decide)
  unfold RD
  split
  · exact w _ (by decide +kernel)
  split
  · exact w _ (by decide +kernel)
  split
  · exact w _ (by decide +kernel)
  split
  · exact w _ (by decide +kernel)
  split
  · exact w _ (by decide +kernel)
  refine sys_pl hu.ee hu.e6 hu.zz hu.z3 (fun y hy => ?_) (by rw [List.length_map]; exact zl6) (fun y hy => ?_) (by rw [List.length_map]; exact pl6)
  · obtain ⟨x, hx, rfl⟩ := List.mem_map.mp hy
    obtain ⟨n, hn⟩ := find_has (nub_has hx (eq_refl (PI_ok (zp x hx) 0)))
    have hb := (List.findIdx?_eq_some_iff_findIdx_eq.mp hn).1
    unfold idxD
    rw [hn]
    exact ⟨_, rfl, by omega, by omega⟩
  · obtain ⟨p, hp, rfl⟩ := List.mem_map.mp hy
    obtain ⟨i, j, a, b, rfl, e1, e2, e3, ha, hb, hx, hy⟩ := joinR_ok hl hu (pp p hp)
    rw [e3]
    refine rs_pl (fun x hq => ?_) (by rw [List.length_append]; omega)
    rcases List.mem_append.mp hq with q | q
    · exact hx x q
    · exact hy x q
theorem pl_kids {k n : Nat} {l : List D} (h : Pl (k + 1) n (.tup l)) : (∀ x ∈ l, Pl k n x) ∧ l.length ≤ n := by
  have key : ∀ l : List D, PyData.showableAll (D.pys l) = true → ∀ x ∈ l, x.py.showable = true ∧ x.py.shown.length ≤ piled (PyData.shownAll (D.pys l)) := by
    intro l
    induction l with
    | nil => intro _ x hx; cases hx
    | cons y l ih =>
      intro hs x hx
      have hs' : (y.py.showable && PyData.showableAll (D.pys l)) = true := hs
      rw [Bool.and_eq_true] at hs'
      show _ ∧ _ ≤ piled (y.py.shown :: PyData.shownAll (D.pys l))
      rw [piled_cons]
      rcases List.mem_cons.mp hx with q | q
      · subst q; exact ⟨hs'.1, by omega⟩
      · have := ih hs'.2 x q
        exact ⟨this.1, by omega⟩
  have key2 : ∀ l : List D, l.length ≤ piled (PyData.shownAll (D.pys l)) := by
    intro l
    induction l with
    | nil => exact Nat.zero_le _
    | cons y l ih =>
      show l.length + 1 ≤ piled (y.py.shown :: PyData.shownAll (D.pys l))
      rw [piled_cons]; omega
  have hb : piled (PyData.shownAll (D.pys l)) ≤ n := Nat.le_trans (piled_le_tupleText _) h.ln
  have ok := List.all_eq_true.mp (show l.all (D.ok k) = true from h.ok)
  refine ⟨fun x hx => ⟨ok x hx, (key l h.sh x hx).1, Nat.le_trans (key l h.sh x hx).2 hb⟩, Nat.le_trans (key2 l) hb⟩
end K73

end

section
set_option Elab.async false
set_option linter.all false
set_option maxRecDepth 100000
set_option maxHeartbeats 2000000
open PySem PX
namespace K73
theorem pl_kidsL {k n : Nat} {l : List D} (ok : l.all (D.ok k) = true) (hs : PyData.showableAll (D.pys l) = true) (hb : piled (PyData.shownAll (D.pys l)) ≤ n) : (∀ x ∈ l, Pl k n x) ∧ l.length ≤ n := by
  have ht : Pl (k + 1) (n + 3) (.tup l) := pl_tup ⟨ok, hs, hb⟩
  have key : ∀ l : List D, PyData.showableAll (D.pys l) = true → ∀ x ∈ l, x.py.showable = true ∧ x.py.shown.length ≤ piled (PyData.shownAll (D.pys l)) := by
    intro l
    induction l with
    | nil => intro _ x hx; cases hx
    | cons y l ih =>
      intro hs x hx
      have hs' : (y.py.showable && PyData.showableAll (D.pys l)) = true := hs
      rw [Bool.and_eq_true] at hs'
      show _ ∧ _ ≤ piled (y.py.shown :: PyData.shownAll (D.pys l))
      rw [piled_cons]
      rcases List.mem_cons.mp hx with q | q
      · subst q; exact ⟨hs'.1, by omega⟩
      · have := ih hs'.2 x q
        exact ⟨this.1, by omega⟩
  have key2 : ∀ l : List D, l.length ≤ piled (PyData.shownAll (D.pys l)) := by
    intro l
    induction l with
    | nil => exact Nat.zero_le _
    | cons y l ih =>
      show l.length + 1 ≤ piled (y.py.shown :: PyData.shownAll (D.pys l))
      rw [piled_cons]; omega
  have ok := List.all_eq_true.mp ok
  exact ⟨fun x hx => ⟨ok x hx, (key l hs x hx).1, Nat.le_trans (key l hs x hx).2 hb⟩, Nat.le_trans (key2 l) hb⟩
theorem zip_self : ∀ l : List D, (zipD l l).length = l.length ∧ ∀ y ∈ zipD l l, ∃ x ∈ l, y = .tup [x, x]
  | [] => ⟨rfl, fun y h => by cases h⟩
  | a :: l => by
    obtain ⟨h1, h2⟩ := zip_self l
    refine ⟨by show (zipD l l).length + 1 = _; rw [h1]; rfl, fun y hy => ?_⟩
    rcases List.mem_cons.mp hy with q | q
    · exact ⟨a, by simp, q⟩
    · obtain ⟨x, hx, e⟩ := h2 y q
      exact ⟨x, by simp [hx], e⟩
theorem same_seq {C : Call} {d : D} {l : List D} (hd : d = .tup l ∨ d = .lst l ∨ d = .scr l) (hk : ∀ x ∈ l, VC C 6 [x, x] (fun r _ => r = .bool true) no) (hl : l.length ≤ lim) : Ws C G b6 [.val d, .val d, .unset, .unset] (fun fl ρ => ∃ r fr, fl = .ret r fr ∧ r = .bool true ∧ (ρ.take 2).length = 2) no := by
  obtain ⟨z1, z2⟩ := zip_self l
  have hall : ((zipD l l).map fun _ => D.bool true).all (D.ok 60) = true := by
    rw [List.all_eq_true]
    intro y hy
    obtain ⟨x, _, rfl⟩ := List.mem_map.mp hy
    rfl
  have hhas : D.has ((zipD l l).map fun _ => D.bool true) (.bool false) = false := by
    unfold D.has
    rw [List.any_eq_false]
    intro y hy
    obtain ⟨x, _, rfl⟩ := List.mem_map.mp hy
    exact nofun
  unfold b6
  rcases hd with rfl | rfl | rfl
  all_goals
    repeat walk_at "ex"
    refine ⟨false, rfl, ?_⟩
    repeat walk_at "ex"
    refine ⟨false, rfl, ?_⟩
    repeat walk_at "ex"
    refine if_f ?_
    repeat walk_at "ex"
    try refine bf_of rfl ?_
    repeat walk_at "ex"
    try refine bf_of rfl ?_
    repeat walk_at "ex"
    refine if_ndec (fun q => absurd rfl q) (fun _ => ?_)
    repeat walk_at "ex"
    try refine ⟨l, l, rfl, rfl, rfl, ?_⟩
    refine ⟨rfl, by dsimp only; omega, ?_⟩
    refine comp_pureW (fun _ => D.bool true) (fun _ => true) ?_ ?_
    · intro y hy
      obtain ⟨x, hx, rfl⟩ := z2 y hy
      walk_at "nb"
      repeat walk_at "ex"
      refine ⟨rfl, ?_⟩
      rw [if_pos rfl]
      repeat walk_at "ex"
      refine call_v (hk x hx) rfl (fun rr fr hr => ?_) no_of
      exact ⟨hr, rfl⟩
    · intro ρ' h
      rw [back_of h, filt]
      walk_at "nb"
      repeat walk_at "ex"
      refine co_notinL (by rw [hall]; rfl) ?_
      rw [hhas]
      exact ⟨_, _, rfl, rfl, rfl⟩
theorem same_atom {C : Call} {d : D} (h : [Ty.tup, Ty.lst].any (fun t => tyIs t d) = false) (ho : d.noObj = true) (hok : D.ok 60 d = true) : Ws C G b6 [.val d, .val d, .unset, .unset] (fun fl ρ => ∃ r fr, fl = .ret r fr ∧ r = .bool true ∧ (ρ.take 2).length = 2) no := by
  have bi : ∀ ts b, biF (.isi b ts) [d] = some (.bool (ts.any fun t => tyIs t d), false) := fun ts b => by show (if _ then _ else _) = _; rw [if_pos ho]
  have nn : ∀ b : Bool, D.eq (.bool b) (.bool b) = true := fun b => by cases b <;> rfl
  unfold b6
  repeat walk_at "ex"
  refine bf_of (bi _ _) ?_
  repeat walk_at "ex"
  refine bf_of (bi _ _) ?_
  repeat walk_at "ex"
  refine co_ne rfl ?_
  rw [nn]
  repeat walk_at "ex"
  try refine if_nt ?_
  repeat walk_at "ex"
  refine bf_of (bi _ _) ?_
  repeat walk_at "ex"
  refine bf_of (bi _ _) ?_
  repeat walk_at "ex"
  refine co_ne rfl ?_
  rw [nn]
  repeat walk_at "ex"
  try refine if_nt ?_
  repeat walk_at "ex"
  refine bf_of (bi _ _) ?_
  rw [h]
  repeat walk_at "ex"
  try refine if_nf ?_
  repeat walk_at "ex"
  refine bf_of (bi _ _) ?_
  repeat walk_at "ex"
  refine bf_of (bi _ _) ?_
  repeat walk_at "ex"
  refine co_eq rfl ?_
  rw [nn]
  repeat walk_at "ex"
  refine co_eq (by rw [hok]; rfl) ?_
  rw [eq_refl hok]
  repeat walk_at "ex"
  exact ⟨_, _, rfl, rfl, rfl⟩
theorem same : ∀ (k : Nat) {n : Nat} {d : D}, Pl k n d → k ≤ 60 → n ≤ lim → ∀ m, VC (callN T G (m + k + 1)) 6 [d, d] (fun r _ => r = .bool true) no := by
  intro k
  induction k with
  | zero =>
    intro n d h _ hn m
    refine vC_intro (T := T) rfl rfl ?_
    have ho := ok_le d h.ok (Nat.zero_le 60)
    refine same_atom ?_ ?_ ho <;> (have := h.ok; cases d <;> first | rfl | cases this)
  | succ k ih =>
    intro n d h hk hn m
    refine vC_intro (T := T) rfl rfl ?_
    have seq : ∀ l : List D, l.all (D.ok k) = true → PyData.showableAll (D.pys l) = true → piled (PyData.shownAll (D.pys l)) ≤ n → (d = .tup l ∨ d = .lst l ∨ d = .scr l) → Ws (callN T G (m + (k + 1))) G b6 [.val d, .val d, .unset, .unset] (fun fl ρ => ∃ r fr, fl = .ret r fr ∧ r = .bool true ∧ (ρ.take 2).length = 2) no := by
      intro l h1 h2 h3 hd
      obtain ⟨k1, k2⟩ := pl_kidsL h1 h2 h3
      exact same_seq hd (fun x hx => ih (k1 x hx) (by omega) hn m) (by omega)
    have ho := ok_le d h.ok hk
    cases d with
    | tup l => exact seq l h.ok h.sh (Nat.le_trans (piled_le_tupleText _) h.ln) (.inl rfl)
    | lst l => exact seq l h.ok h.sh (Nat.le_trans (piled_le_listText _) h.ln) (.inr (.inl rfl))
    | scr l => exact seq l h.ok h.sh (Nat.le_trans (piled_le_listText _) h.ln) (.inr (.inr rfl))
    | dct _ _ => cases h.ok
    | obj _ _ => cases h.ok
    | none => exact same_atom rfl rfl ho
    | bool _ => exact same_atom rfl rfl ho
    | int _ => exact same_atom rfl rfl ho
    | str _ => exact same_atom rfl rfl ho
end K73

end

section
set_option Elab.async false
set_option linter.all false
set_option maxRecDepth 100000
set_option maxHeartbeats 2000000
open PySem PX
namespace K73
variable {e z k r e' z' k' r' : List D}
theorem told {n : Nat} (hl : Sy e z k r) (hu : Sy e' z' k' r') : VC (callN T G (n + 3)) 13 [sysD e z k r, sysD e' z' k' r'] (fun d _ => d = RD e z k r e' z' k' r') no := by
  refine vC_intro (T := T) rfl rfl ?_
  have h2 := put (n := n) hl hu
  generalize callN T G (n + 2) = C at h2
  generalize RD e z k r e' z' k' r' = R at h2
  show Ws C G b13 [.val (sysD e z k r), .val (sysD e' z' k' r'), .unset, .unset] _ _
  unfold b13
  repeat walk_at "ex"
  refine ws_try rfl rfl ?_
  repeat walk_at "ex"
  refine call_v h2 rfl (fun rr fr hr => ?_) (fun c fs hx => ?_)
  · exact ⟨_, _, rfl, hr, rfl⟩
  · obtain ⟨rfl, rfl⟩ := hx
    refine ⟨by decide, ?_⟩
    exact ⟨R, rfl, _, _, rfl, rfl, rfl⟩
def cutF (few : Int) : D → D
  | .tup l => .tup (cut l none (some few))
  | d => d
theorem lowp {n : Nat} {st : List D} (hs : ∀ y ∈ st, ∃ l, y = .tup l) (hl : st.length ≤ 6) : VC (callN T G (n + 1)) 3 [sysD e z k r, .tup st] (fun d _ => d = .tup (st.map (cutF (z.length : Nat)))) no := by
  refine vC_intro (T := T) rfl rfl ?_
  generalize callN T G n = C
  show Ws C G b3 [.val (sysD e z k r), .val (.tup st), .unset] _ _
  unfold b3
  repeat walk_at "ex"
  refine ⟨rfl, by dsimp only; unfold lim; omega, ?_⟩
  refine comp_pureW (cutF (z.length : Nat)) (fun _ => true) ?_ ?_
  · intro y hy
    obtain ⟨l, rfl⟩ := hs y hy
    walk_at "nb"
    repeat walk_at "ex"
    refine ⟨rfl, ?_⟩
    rw [if_pos rfl]
    repeat walk_at "ex"
    exact ⟨rfl, rfl⟩
  · intro ρ' h
    rw [back_of h, filt]
    walk_at "nb"
    repeat walk_at "ex"
    exact ⟨_, _, rfl, rfl, rfl⟩
theorem at_last {l : List D} {y : D} : at_ (.lst (l ++ [y])) (-1) = some y := by
  have e : place (l ++ [y]).length (-1) = some l.length := by
    unfold place L2.ixN
    rw [if_neg (by decide), if_pos (by simp; omega)]
    congr 1
    simp
    omega
  show (place (l ++ [y]).length (-1)).bind _ = _
  rw [e]
  simp
end K73

end

set_option Elab.async false
set_option linter.all false
set_option maxRecDepth 100000
set_option maxHeartbeats 2000000
open PySem PX
namespace K73
/-- a pair of systems -/
def PD (y : D) : Prop := ∃ a b, y = .tup [a, b] ∧ SyD a ∧ SyD b
theorem PD_of {y : D} (h : PairOk y) : PD y := h
theorem PD_ofI {a b : D} (h : PairI a b) : PD (.tup [a, b]) := by
  obtain ⟨e, z, k, r, e', z', k', r', ea, eb, h1, h2, _, _⟩ := h
  exact ⟨a, b, rfl, ⟨e, z, k, r, ea, h1⟩, ⟨e', z', k', r', eb, h2⟩⟩
theorem PD_pl {y : D} (h : PD y) : Pl 10 600010 y := by
  obtain ⟨a, b, rfl, ⟨e, z, k, r, rfl, h1⟩, ⟨e', z', k', r', rfl, h2⟩⟩ := h
  have q1 := h1.pl
  have q2 := h2.pl
  walk_at "pl"
theorem PDs_pl {l : List D} (h : ∀ y ∈ l, PD y) (hl : l.length ≤ 12) : Pl 11 7200200 (.lst l) := (pl_lst (plL_of (fun y hy => PD_pl (h y hy)) hl)).mono (by decide) (by decide)
end K73
open PySem PX K73
local macro_rules
  | `(tactic| walk_at "gl") => `(tactic| repeat' (first
  | walk_at "ad"
  | walk_at "ex"
  | ((with_reducible refine as_val ?ho ?h ?_); (case ho => exact rfl); (case h => assumption); (try dsimp only [List.set_cons_zero, List.set_cons_succ]))
  | walk_at "cl"))
namespace K73
open PySem PX
theorem law_turn {n : Nat} {sc d : D} {B : Int} {i : Int} {c3 c4 c5 c6 c7 c8 c9 c10 c11 c12 : Cell} {K : Fl → Ev → Prop} {s : S} (hF : Fd B d) (hB : B + 400000 < 2 ^ 40)
    (h3 : Free (some c3) = true) (h4 : Free (some c4) = true) (h5 : Free (some c5) = true) (h6 : Free (some c6) = true) (h7 : Free (some c7) = true) (h8 : Free (some c8) = true) (h9 : Free (some c9) = true) (h10 : Free (some c10) = true) (h11 : Free (some c11) = true) (h12 : Free (some c12) = true)
    (hb : s = (match b19 with
      | .seq _ (.seq (.for _ _ s) _) => s
      | s => s))
    (k : ∀ (d' : D) (c3 c4 c5 c6 c7 c8 c9 c10 c11 c12 : Cell), Fd (B + 400000) d' → Free (some c3) = true → Free (some c4) = true → Free (some c5) = true → Free (some c6) = true → Free (some c7) = true → Free (some c8) = true → Free (some c9) = true → Free (some c10) = true → Free (some c11) = true → Free (some c12) = true → K .nx [.val sc, .own false d', .val (.int i), c3, c4, c5, c6, c7, c8, c9, c10, c11, c12, .unset, .unset, .unset]) :
    Ws (callN T G (n + 30)) G s [.val sc, .own false d, .val (.int i), c3, c4, c5, c6, c7, c8, c9, c10, c11, c12, .unset, .unset, .unset] K no := by
  subst hb
  have hT := tk (n := n + 29)
  have h11f := drawn (n := n + 22)
  have h12f : ∀ e z k r, Sy e z k r → e.length ≤ 3 → z.length ≤ 2 → FdC (callN T G (n + 30)) 12 [sysD e z k r] 50000 false (UpOk e z) := fun e z k r h1 h2 h3 => upper (n := n + 22) h1 h2 h3
  have h16f : ∀ e z k r e' z' k' r', Sy e z k r → Sy e' z' k' r' → r'.length = 2 → e = e' → FdC (callN T G (n + 30)) 16 [sysD e z k r, sysD e' z' k' r'] 200000 true OthOk := fun e z k r e' z' k' r' h1 h2 h3 h4 => others (n := n + 21) h1 h2 h3 h4
  have h18f : ∀ a b, PairI a b → FdC (callN T G (n + 30)) 18 [a, b] 10000 false PairD := fun a b h => several (n := n + 27) h
  have h13f : ∀ e z k r e' z' k' r', Sy e z k r → Sy e' z' k' r' → VC (callN T G (n + 30)) 13 [sysD e z k r, sysD e' z' k' r'] (fun d _ => d = RD e z k r e' z' k' r') no := fun e z k r e' z' k' r' h1 h2 => told (n := n + 27) h1 h2
  have h14f : ∀ e z k r e' z' k' r', Sy e z k r → Sy e' z' k' r' → VC (callN T G (n + 30)) 14 [sysD e z k r, sysD e' z' k' r'] (fun d _ => d = RD e z k r e' z' k' r') no := fun e z k r e' z' k' r' h1 h2 => due (n := n + 29) h1 h2
  have h6f : ∀ d, Pl 9 300000 d → VC (callN T G (n + 30)) 6 [d, d] (fun r _ => r = .bool true) no := fun d h => same 9 h (by decide) (by decide) (n + 20)
  have h3f : ∀ (e z k r st : List D), (∀ y ∈ st, ∃ l, y = .tup l) → st.length ≤ 6 → VC (callN T G (n + 30)) 3 [sysD e z k r, .tup st] (fun d _ => d = .tup (st.map (cutF (z.length : Nat)))) no := fun e z k r st h1 h2 => lowp (n := n + 29) h1 h2
  generalize callN T G (n + 30) = C at hT h11f h12f h16f h18f h13f h14f h6f h3f
  unfold b19
  dsimp only
  walk_at "gl"
  rename_i lo d1 hlo hF1
  obtain ⟨e, z, k1, r, rfl, hS, hr2, he3, hz2⟩ := hlo
  have f12 := h12f e z k1 r hS he3 hz2
  walk_at "gl"
  rename_i up d2 hup hF2
  obtain ⟨z', k', r', rfl, hU, hzz, hur⟩ := hup
  have f16 := h16f e z k1 r e z' k' r' hS hU hur rfl
  walk_at "gl"
  rename_i ot d3 hot hF3
  obtain ⟨F, wa, wb, rfl, hF6, hFP, hI⟩ := hot
  walk_at "gl"
  refine ix_of (at_last (l := .tup [sysD e z k1 r, sysD e z' k' r'] :: F) (y := .tup [wa, wb])) ?_
  walk_at "gl"
  refine ⟨rfl, ?_⟩
  have sS : SyD (sysD e z k1 r) := ⟨_, _, _, _, rfl, hS⟩
  have sU : SyD (sysD e z' k' r') := ⟨_, _, _, _, rfl, hU⟩
  have pI0 : PairI (sysD e z k1 r) (sysD e z' k' r') := ⟨_, _, _, _, _, _, _, _, rfl, rfl, hS, hU, rfl, hzz⟩
  have L0 : ∀ y ∈ [D.tup [sysD e z k1 r, sysD e z' k' r']] ++ (F ++ [.tup [wa, wb]]), PD y := by
    intro y hy
    rcases List.mem_append.mp hy with q | q
    · rw [List.mem_singleton.mp q]; exact ⟨_, _, rfl, sS, sU⟩
    · rcases List.mem_append.mp q with q | q
      · exact hFP y q
      · rw [List.mem_singleton.mp q]; exact PD_ofI hI
  have g1 := h18f _ _ pI0
  have g2 := h18f _ _ hI
  refine wp_forL (fun done ρ => ∃ (d' : D) (L : List D) (c7 : Cell), Fd (B + 310000 + done.length * 20000) d' ∧ L.length = 8 + 2 * done.length ∧ (∀ y ∈ L, PD y) ∧ Free (some c7) = true ∧ ρ = [.val sc, .own false d', .val (.int i), .val (sysD e z k1 r), .val (sysD e z' k' r'), .val (.lst L), .val (.tup [wa, wb]), c7, c8, c9, c10, c11, c12, .unset, .unset, .unset]) _ [] _ ⟨_, _, _, Fd.mono hF3 (by simp; omega), by simp [hF6], L0, h7, rfl⟩ ?_ ?_
  · intro pre x post ρ hs ⟨d', L, cc7, hF4, hL, hLP, hc7, hρ⟩
    subst hρ
    have hpl : pre.length < 2 := by
      have q := congrArg List.length hs
      rw [List.nil_append, show (irange 0 2).length = 2 from rfl] at q
      simp at q
      omega
    rw [wp_bind]
    refine bt_name hc7 ?_
    show Ws C G _ _ _ no
    dsimp only [List.set_cons_zero, List.set_cons_succ]
    walk_at "gl"
    rename_i p1 d4 hp1 hF5 p2 d5 hp2 hF6
    obtain ⟨a1, b1, rfl, hi1⟩ := hp1
    obtain ⟨a2, b2, rfl, hi2⟩ := hp2
    refine ⟨d5, _, _, Fd.mono hF6 (by simp; omega), ?_, ?_, rfl, rfl⟩
    · simp [hL]; omega
    · intro y hy
      rcases List.mem_append.mp hy with q | q
      · exact hLP y q
      · simp only [List.mem_cons, List.not_mem_nil, or_false] at q
        rcases q with rfl | rfl
        · exact PD_ofI hi1
        · exact PD_ofI hi2
  · intro ρ ⟨d', L, cc7, hF4, hL, hLP, hc7, hρ⟩
    subst hρ
    rw [List.nil_append, show (irange 0 2).length = 2 from rfl] at hL hF4
    have hpl := PDs_pl hLP (by omega)
    have hrep : biF .repr [.lst L] = some (.str (D.lst L).py.shown, false) := by
      show (if _ then _ else _) = _
      rw [if_pos (by rw [ok_le _ hpl.ok (by decide), hpl.sh]; simp; exact Nat.le_trans hpl.ln (by decide))]
    have hso : PyData.strOk (D.lst L).py.shown = true := shown_ok _ hpl.ok
    generalize (D.lst L).py.shown = W at hrep hso
    walk_at "gl"
    refine bf_of hrep ?_
    walk_at "gl"
    refine ⟨rfl, ?_⟩
    refine wp_forL (fun done ρ => ∃ (c11 c12 : Cell), Free (some c11) = true ∧ Free (some c12) = true ∧ ρ = [.val sc, .own false d', .val (.int i), .val (sysD e z k1 r), .val (sysD e z' k' r'), .val (.lst L), .val (.tup [wa, wb]), cc7, .val (.str W), c9, c10, c11, c12, .unset, .unset, .unset]) _ [] _ ⟨_, _, h11, h12, rfl⟩ ?_ ?_
    · intro pre x post ρ hs ⟨cc11, cc12, hc11, hc12, hρ⟩
      subst hρ
      simp only [List.nil_append] at hs
      obtain ⟨a, b, rfl, ⟨ea, za, ka, ra, rfl, hA⟩, ⟨eb, zb, kb, rb, rfl, hB2⟩⟩ := hLP x (by rw [hs]; simp)
      have ft := h13f _ _ _ _ _ _ _ _ hA hB2
      have fd := h14f _ _ _ _ _ _ _ _ hA hB2
      have fs := h6f _ (RD_pl hA hB2)
      generalize RD ea za ka ra eb zb kb rb = R at ft fd fs
      rw [wp_bind]
      refine bt_tup (pa_cons' hc11 (pa_cons' hc12 (pa_nil' ?_)))
      show Ws C G _ _ _ no
      dsimp only [List.set_cons_zero, List.set_cons_succ]
      repeat walk_at "ex"
      refine call_v ft rfl (fun rr fr hr => ?_) no_of
      subst hr
      repeat walk_at "ex"
      refine call_v fd rfl (fun rr fr hr => ?_) no_of
      subst hr
      repeat walk_at "ex"
      refine call_v fs rfl (fun rr fr hr => ?_) no_of
      subst hr
      repeat walk_at "ex"
      try refine if_nt ?_
      repeat walk_at "ex"
      exact ⟨_, _, rfl, rfl, rfl⟩
    · intro ρ ⟨cc11, cc12, hc11, hc12, hρ⟩
      subst hρ
      repeat walk_at "ex"
      refine ⟨rfl, by have := hU.e6; unfold lim; dsimp only; omega, ?_⟩
      refine comp_fd (i := 1) (p := false) (n := 3) (P := fun y => ∃ l, y = .tup l ∧ l.length ≤ 3 ∧ ∀ x ∈ l, IntIn 3 x) (by decide) rfl hF4 (by have := hU.e6; dsimp only; omega) (fun x hx d5 B5 hF5 hB5 => ?_) fun out d5 ρ5 ho ho2 hP hF5 hb5 => ?_
      · walk_at "nb"
        repeat walk_at "ex"
        refine ⟨rfl, by have := hU.z3; unfold lim; dsimp only; omega, ?_⟩
        refine comp_fd (i := 1) (p := false) (n := 1) (P := IntIn 3) (by decide) rfl hF5 (by have := hU.z3; dsimp only; omega) (fun x hx d6 B6 hF6 hB6 => ?_) fun out6 d6 ρ6 ho6 ho62 hP6 hF6 hb6 => ?_
        · obtain ⟨s0, rfl, hs0, hs1⟩ := hU.zz x hx
          walk_at "nb"
          walk_at "gl"
          refine ⟨⟨_, rfl, by omega, by omega⟩, ?_⟩
          walk_at "fe"
        · rw [hb6]
          walk_at "nb"
          walk_at "gl"
          have := hU.z3
          dsimp only at ho6 hF6
          exact ⟨⟨_, rfl, by omega, hP6⟩, _, Fd.mono hF6 (by omega), rfl⟩
      · rw [hb5]
        walk_at "nb"
        have e6 := hU.e6
        dsimp only at ho hF5
        have q3 := h3f e z k1 r out (fun y hy => by obtain ⟨l, h, _⟩ := hP y hy; exact ⟨l, h⟩) (by omega)
        have hcf : Pl 9 300000 (.tup (out.map (cutF (z.length : Nat)))) := by
          have w : ∀ y ∈ out.map (cutF (z.length : Nat)), Pl 1 18 y := by
            intro y hy
            obtain ⟨x, hx, rfl⟩ := List.mem_map.mp hy
            obtain ⟨l, rfl, hl3, hli⟩ := hP x hx
            exact pl_tup (plL_of (fun y hq => int_pl (hli y (cut_mem hq)) (by decide)) (Nat.le_trans (cut_len _ _ _) hl3))
          exact (pl_tup (plL_of w (by rw [List.length_map]; omega : _ ≤ 6))).mono (by decide) (by decide)
        have fs := h6f _ hcf
        walk_at "gl"
        refine call_v q3 rfl (fun rr fr hr => ?_) no_of
        subst hr
        walk_at "gl"
        refine ⟨rfl, by unfold lim; dsimp only; omega, ?_⟩
        refine comp_pureW (cutF (z.length : Nat)) (fun _ => true) ?_ ?_
        · intro y hy
          obtain ⟨l, rfl, _, _⟩ := hP y hy
          walk_at "nb"
          repeat walk_at "ex"
          refine ⟨rfl, ?_⟩
          rw [if_pos rfl]
          repeat walk_at "ex"
          exact ⟨rfl, rfl⟩
        · intro ρ' h
          rw [back_of h, filt]
          walk_at "nb"
          repeat walk_at "ex"
          refine call_v fs rfl (fun rr fr hr => ?_) no_of
          subst hr
          repeat walk_at "ex"
          try refine if_nt ?_
          repeat walk_at "ex"
          refine bf_of hrep ?_
          have hok : D.ok 60 (.str W) = true := hso
          repeat walk_at "ex"
          refine co_ne (by rw [hok]; rfl) ?_
          rw [eq_refl hok]
          try refine if_nt ?_
          repeat walk_at "ex"
          exact k d5 _ _ _ _ _ _ _ _ _ _ (Fd.mono hF5 (by omega)) rfl rfl rfl rfl hc7 rfl rfl rfl hc11 hc12
end K73

section
set_option Elab.async false
set_option linter.all false
set_option maxRecDepth 100000
set_option maxHeartbeats 2000000
open PySem PX
namespace K73
def bodyS : S := match b19 with
  | .seq _ (.seq (.for _ _ s) _) => s
  | s => s
theorem b19_eq : b19 = .seq (.asg true (.name 1) (.call 4 (.cons (.var 0) .nil))) (.seq (.for (.name 2) (.rng1 (.int 2)) bodyS) (.ret (.bool true))) := rfl
theorem law {ns : List Int} (hl : ns.length ≤ 63) : VC (callN T G 40) 19 [.scr (ns.map .int)] (fun r fr => r = .bool true ∧ fr = false) no := by
  refine vC_intro (T := T) (n := 39) rfl rfl ?_
  have h4 := feed_ok (T := T) (G := G) (n := 38) (t := 4) rfl hl
  have ht : ∀ (sc d : D) (B i : Int) (c3 c4 c5 c6 c7 c8 c9 c10 c11 c12 : Cell) (K : Fl → Ev → Prop), _ := fun sc d B i c3 c4 c5 c6 c7 c8 c9 c10 c11 c12 K => @law_turn 9 sc d B i c3 c4 c5 c6 c7 c8 c9 c10 c11 c12 K bodyS
  have h39 : callN T G (9 + 30) = callN T G 39 := rfl
  rw [h39] at ht
  generalize callN T G 39 = C at h4 ht
  show Ws C G b19 [.val (.scr (ns.map .int)), .unset, .unset, .unset, .unset, .unset, .unset, .unset, .unset, .unset, .unset, .unset, .unset, .unset, .unset, .unset] _ _
  rw [b19_eq]
  generalize D.scr (ns.map D.int) = sc at h4 ⊢
  repeat walk_at "ex"
  refine call_v h4 rfl (fun rr fr hr => ?_) no_of
  obtain ⟨rfl, hF⟩ := hr
  repeat walk_at "ex"
  refine ⟨rfl, ?_⟩
  refine wp_forL (fun done ρ => ∃ (d : D) (c2 c3 c4 c5 c6 c7 c8 c9 c10 c11 c12 : Cell), Fd (done.length * 400000) d ∧ Free (some c2) = true ∧ Free (some c3) = true ∧ Free (some c4) = true ∧ Free (some c5) = true ∧ Free (some c6) = true ∧ Free (some c7) = true ∧ Free (some c8) = true ∧ Free (some c9) = true ∧ Free (some c10) = true ∧ Free (some c11) = true ∧ Free (some c12) = true ∧ ρ = [.val sc, .own false d, c2, c3, c4, c5, c6, c7, c8, c9, c10, c11, c12, .unset, .unset, .unset]) _ [] _ ⟨rr, _, _, _, _, _, _, _, _, _, _, _, by simpa using hF, rfl, rfl, rfl, rfl, rfl, rfl, rfl, rfl, rfl, rfl, rfl, rfl⟩ ?_ ?_
  · intro pre x post ρ hs ⟨d, c2, c3, c4, c5, c6, c7, c8, c9, c10, c11, c12, hF, h2, h3, h4, h5, h6, h7, h8, h9, h10, h11, h12, hρ⟩
    subst hρ
    have hm : x = .int (pre.length : Nat) := ir_pos hs
    have hpl : pre.length < 2 := by
      have q := congrArg List.length hs
      rw [List.nil_append, show (irange 0 2).length = 2 from rfl] at q
      simp at q
      omega
    subst hm
    rw [wp_bind]
    refine bt_name h2 ?_
    refine ht sc d _ (pre.length : Nat) c3 c4 c5 c6 c7 c8 c9 c10 c11 c12 _ hF (by omega) h3 h4 h5 h6 h7 h8 h9 h10 h11 h12 rfl ?_
    intro d' e3 e4 e5 e6 e7 e8 e9 e10 e11 e12 hF' g3 g4 g5 g6 g7 g8 g9 g10 g11 g12
    exact ⟨d', _, _, _, _, _, _, _, _, _, _, _, Fd.mono hF' (by simp; omega), rfl, g3, g4, g5, g6, g7, g8, g9, g10, g11, g12, rfl⟩
  · intro ρ ⟨d, c2, c3, c4, c5, c6, c7, c8, c9, c10, c11, c12, hF, h2, h3, h4, h5, h6, h7, h8, h9, h10, h11, h12, hρ⟩
    subst hρ
    repeat walk_at "ex"
    exact ⟨_, _, rfl, ⟨rfl, rfl⟩, rfl⟩
theorem mainT (ns : List Int) (hl : ns.length ≤ 63) : ∃ outs, callN T G 40 19 [.val (.scr (ns.map .int))] = .ok (.bool true) false outs := by
  have h : wpC (callN T G 40 19 [.val (.scr (ns.map .int))]) (fun r fr o => (r = .bool true ∧ fr = false) ∧ o.length = 1) no := law hl
  revert h
  cases callN T G 40 19 [.val (.scr (ns.map .int))] with
  | ok d fr o =>
    rintro ⟨⟨rfl, rfl⟩, _⟩
    exact ⟨o, rfl⟩
  | exc c fs => exact fun h => h.elim
  | bad => exact fun h => h.elim
end K73

end

set_option Elab.async false
set_option linter.all false
set_option maxRecDepth 100000
set_option maxHeartbeats 0
namespace K73
open PySem PySem.Spec PyProof.Rows L2 PX
def tx : Tx := ⟨[some ("lays_below" : Str), some ("pairs_met" : Str), some ("put_over" : Str), some ("lower_part" : Str), some ("_law_feed" : Str), some ("_law_take" : Str), some ("_law_same" : Str), some ("_law_term" : Str), some ("_law_claim" : Str), some ("_law_rule" : Str), some ("_law_rules" : Str), some ("_law_drawn" : Str), some ("_law_upper" : Str), some ("_law_told" : Str), some ("_law_due" : Str), some ("_law_wide" : Str), some ("_law_others" : Str), some ("_law_faulty" : Str), some ("_law_several" : Str), some ("law" : Str)], [none, none, none, none, none, none, none, none, none, none, none, none, none, none, none, none, none, none, none, none], [], ["MOST_KINDS", "MOST_RULES"], [], ["NoSystem", "NoStep", "NoText", "NoPaper", "TooMany", "NoOver", "NoRow"], [["word", "at"], ["number"], ["row", "word"], ["word", "number"], ["word"], ["word"], []], "RightError"⟩
def e0 : Ent := ⟨⟨2, 7, b0⟩, N0, ["system", "few"], d0⟩
theorem ok0 : EntOk tx e0 := ⟨⟨rfl, rfl, rfl, by decide +kernel, rfl, by decide +kernel, by decide +kernel⟩, rfl, rfl, by decide, by decide +kernel, by decide +kernel, rfl, rfl, fun _ _ _ _ _ _ us hl => match us, hl with | [_, _], _ => rfl⟩
def e1 : Ent := ⟨⟨2, 4, b1⟩, N1, ["one", "other"], d1⟩
theorem ok1 : EntOk tx e1 := ⟨⟨rfl, rfl, rfl, by decide +kernel, rfl, by decide +kernel, by decide +kernel⟩, rfl, rfl, by decide, by decide +kernel, by decide +kernel, rfl, rfl, fun _ _ _ _ _ _ us hl => match us, hl with | [_, _], _ => rfl⟩
def e2 : Ent := ⟨⟨2, 10, b2⟩, N2, ["one", "other"], d2⟩
theorem ok2 : EntOk tx e2 := ⟨⟨rfl, rfl, rfl, by decide +kernel, rfl, by decide +kernel, by decide +kernel⟩, rfl, rfl, by decide, by decide +kernel, by decide +kernel, rfl, rfl, fun _ _ _ _ _ _ us hl => match us, hl with | [_, _], _ => rfl⟩
def e3 : Ent := ⟨⟨2, 3, b3⟩, N3, ["one", "stand"], d3⟩
theorem ok3 : EntOk tx e3 := ⟨⟨rfl, rfl, rfl, by decide +kernel, rfl, by decide +kernel, by decide +kernel⟩, rfl, rfl, by decide, by decide +kernel, by decide +kernel, rfl, rfl, fun _ _ _ _ _ _ us hl => match us, hl with | [_, _], _ => rfl⟩
def e4 : Ent := ⟨⟨1, 1, b4⟩, N4, ["_law_script"], d4⟩
theorem ok4 : EntOk tx e4 := ⟨⟨rfl, rfl, rfl, by decide +kernel, rfl, by decide +kernel, by decide +kernel⟩, rfl, rfl, by decide, by decide +kernel, by decide +kernel, rfl, rfl, fun _ _ _ _ _ _ us hl => match us, hl with | [_], _ => rfl⟩
def e5 : Ent := ⟨⟨2, 6, b5⟩, N5, ["_law_feed_here", "_law_many"], d5⟩
theorem ok5 : EntOk tx e5 := ⟨⟨rfl, rfl, rfl, by decide +kernel, rfl, by decide +kernel, by decide +kernel⟩, rfl, rfl, by decide, by decide +kernel, by decide +kernel, rfl, rfl, fun _ _ _ _ _ _ us hl => match us, hl with | [_, _], _ => rfl⟩
def e6 : Ent := ⟨⟨2, 4, b6⟩, N6, ["_law_found", "_law_due_here"], d6⟩
theorem ok6 : EntOk tx e6 := ⟨⟨rfl, rfl, rfl, by decide +kernel, rfl, by decide +kernel, by decide +kernel⟩, rfl, rfl, by decide, by decide +kernel, by decide +kernel, rfl, rfl, fun _ _ _ _ _ _ us hl => match us, hl with | [_, _], _ => rfl⟩
def e7 : Ent := ⟨⟨4, 8, b7⟩, N7, ["_law_feed_here", "_law_sizes", "_law_deep", "_law_inner"], d7⟩
theorem ok7 : EntOk tx e7 := ⟨⟨rfl, rfl, rfl, by decide +kernel, rfl, by decide +kernel, by decide +kernel⟩, rfl, rfl, by decide, by decide +kernel, by decide +kernel, rfl, rfl, fun _ _ _ _ _ _ us hl => match us, hl with | [_, _, _, _], _ => rfl⟩
def e8 : Ent := ⟨⟨4, 7, b8⟩, N8, ["_law_feed_here", "_law_sizes", "_law_deep", "_law_inner"], d8⟩
theorem ok8 : EntOk tx e8 := ⟨⟨rfl, rfl, rfl, by decide +kernel, rfl, by decide +kernel, by decide +kernel⟩, rfl, rfl, by decide, by decide +kernel, by decide +kernel, rfl, rfl, fun _ _ _ _ _ _ us hl => match us, hl with | [_, _, _, _], _ => rfl⟩
def e9 : Ent := ⟨⟨3, 6, b9⟩, N9, ["_law_feed_here", "_law_sizes", "_law_boxes"], d9⟩
theorem ok9 : EntOk tx e9 := ⟨⟨rfl, rfl, rfl, by decide +kernel, rfl, by decide +kernel, by decide +kernel⟩, rfl, rfl, by decide, by decide +kernel, by decide +kernel, rfl, rfl, fun _ _ _ _ _ _ us hl => match us, hl with | [_, _, _], _ => rfl⟩
def e10 : Ent := ⟨⟨4, 8, b10⟩, N10, ["_law_feed_here", "_law_sizes", "_law_boxes", "_law_most"], d10⟩
theorem ok10 : EntOk tx e10 := ⟨⟨rfl, rfl, rfl, by decide +kernel, rfl, by decide +kernel, by decide +kernel⟩, rfl, rfl, by decide, by decide +kernel, by decide +kernel, rfl, rfl, fun _ _ _ _ _ _ us hl => match us, hl with | [_, _, _, _], _ => rfl⟩
def e11 : Ent := ⟨⟨1, 7, b11⟩, N11, ["_law_feed_here"], d11⟩
theorem ok11 : EntOk tx e11 := ⟨⟨rfl, rfl, rfl, by decide +kernel, rfl, by decide +kernel, by decide +kernel⟩, rfl, rfl, by decide, by decide +kernel, by decide +kernel, rfl, rfl, fun _ _ _ _ _ _ us hl => match us, hl with | [_], _ => rfl⟩
def e12 : Ent := ⟨⟨2, 6, b12⟩, N12, ["_law_feed_here", "_law_lower"], d12⟩
theorem ok12 : EntOk tx e12 := ⟨⟨rfl, rfl, rfl, by decide +kernel, rfl, by decide +kernel, by decide +kernel⟩, rfl, rfl, by decide, by decide +kernel, by decide +kernel, rfl, rfl, fun _ _ _ _ _ _ us hl => match us, hl with | [_, _], _ => rfl⟩
def e13 : Ent := ⟨⟨2, 4, b13⟩, N13, ["_law_one", "_law_other"], d13⟩
theorem ok13 : EntOk tx e13 := ⟨⟨rfl, rfl, rfl, by decide +kernel, rfl, by decide +kernel, by decide +kernel⟩, rfl, rfl, by decide, by decide +kernel, by decide +kernel, rfl, rfl, fun _ _ _ _ _ _ us hl => match us, hl with | [_, _], _ => rfl⟩
def e14 : Ent := ⟨⟨2, 15, b14⟩, N14, ["_law_one", "_law_other"], d14⟩
theorem ok14 : EntOk tx e14 := ⟨⟨rfl, rfl, rfl, by decide +kernel, rfl, by decide +kernel, by decide +kernel⟩, rfl, rfl, by decide, by decide +kernel, by decide +kernel, rfl, rfl, fun _ _ _ _ _ _ us hl => match us, hl with | [_, _], _ => rfl⟩
def e15 : Ent := ⟨⟨4, 9, b15⟩, N15, ["_law_feed_here", "_law_eyes", "_law_sizes", "_law_boxes"], d15⟩
theorem ok15 : EntOk tx e15 := ⟨⟨rfl, rfl, rfl, by decide +kernel, rfl, by decide +kernel, by decide +kernel⟩, rfl, rfl, by decide, by decide +kernel, by decide +kernel, rfl, rfl, fun _ _ _ _ _ _ us hl => match us, hl with | [_, _, _, _], _ => rfl⟩
def e16 : Ent := ⟨⟨3, 14, b16⟩, N16, ["_law_feed_here", "_law_lower", "_law_upper_here"], d16⟩
theorem ok16 : EntOk tx e16 := ⟨⟨rfl, rfl, rfl, by decide +kernel, rfl, by decide +kernel, by decide +kernel⟩, rfl, rfl, by decide, by decide +kernel, by decide +kernel, rfl, rfl, fun _ _ _ _ _ _ us hl => match us, hl with | [_, _, _], _ => rfl⟩
def e17 : Ent := ⟨⟨4, 16, b17⟩, N17, ["_law_feed_here", "_law_lower", "_law_upper_here", "_law_word"], d17⟩
theorem ok17 : EntOk tx e17 := ⟨⟨rfl, rfl, rfl, by decide +kernel, rfl, by decide +kernel, by decide +kernel⟩, rfl, rfl, by decide, by decide +kernel, by decide +kernel, rfl, rfl, fun _ _ _ _ _ _ us hl => match us, hl with | [_, _, _, _], _ => rfl⟩
def e18 : Ent := ⟨⟨3, 8, b18⟩, N18, ["_law_feed_here", "_law_lower", "_law_upper_here"], d18⟩
theorem ok18 : EntOk tx e18 := ⟨⟨rfl, rfl, rfl, by decide +kernel, rfl, by decide +kernel, by decide +kernel⟩, rfl, rfl, by decide, by decide +kernel, by decide +kernel, rfl, rfl, fun _ _ _ _ _ _ us hl => match us, hl with | [_, _, _], _ => rfl⟩
def e19 : Ent := ⟨⟨1, 16, b19⟩, N19, ["_law_script"], d19⟩
theorem ok19 : EntOk tx e19 := ⟨⟨rfl, rfl, rfl, by decide +kernel, rfl, by decide +kernel, by decide +kernel⟩, rfl, rfl, by decide, by decide +kernel, by decide +kernel, rfl, rfl, fun _ _ _ _ _ _ us hl => match us, hl with | [_], _ => rfl⟩
def x0 : XEnt := ⟨0, ["self", "word", "at"], ["self", "word", "at"], xd0⟩
theorem xok0 : XEntOk tx x0 := ⟨⟨rfl, rfl, rfl, by decide +kernel, rfl, by decide +kernel, by decide +kernel⟩, rfl, by decide +kernel, rfl, rfl, fun _ _ _ _ _ _ us hl => match us, hl with | [_, _, _], _ => rfl⟩
def x1 : XEnt := ⟨1, ["self", "number"], ["self", "number"], xd1⟩
theorem xok1 : XEntOk tx x1 := ⟨⟨rfl, rfl, rfl, by decide +kernel, rfl, by decide +kernel, by decide +kernel⟩, rfl, by decide +kernel, rfl, rfl, fun _ _ _ _ _ _ us hl => match us, hl with | [_, _], _ => rfl⟩
def x2 : XEnt := ⟨2, ["self", "row", "word"], ["self", "row", "word"], xd2⟩
theorem xok2 : XEntOk tx x2 := ⟨⟨rfl, rfl, rfl, by decide +kernel, rfl, by decide +kernel, by decide +kernel⟩, rfl, by decide +kernel, rfl, rfl, fun _ _ _ _ _ _ us hl => match us, hl with | [_, _, _], _ => rfl⟩
def x3 : XEnt := ⟨3, ["self", "word", "number"], ["self", "word", "number"], xd3⟩
theorem xok3 : XEntOk tx x3 := ⟨⟨rfl, rfl, rfl, by decide +kernel, rfl, by decide +kernel, by decide +kernel⟩, rfl, by decide +kernel, rfl, rfl, fun _ _ _ _ _ _ us hl => match us, hl with | [_, _, _], _ => rfl⟩
def x4 : XEnt := ⟨4, ["self", "word"], ["self", "word"], xd4⟩
theorem xok4 : XEntOk tx x4 := ⟨⟨rfl, rfl, rfl, by decide +kernel, rfl, by decide +kernel, by decide +kernel⟩, rfl, by decide +kernel, rfl, rfl, fun _ _ _ _ _ _ us hl => match us, hl with | [_, _], _ => rfl⟩
def x5 : XEnt := ⟨5, ["self", "word"], ["self", "word"], xd5⟩
theorem xok5 : XEntOk tx x5 := ⟨⟨rfl, rfl, rfl, by decide +kernel, rfl, by decide +kernel, by decide +kernel⟩, rfl, by decide +kernel, rfl, rfl, fun _ _ _ _ _ _ us hl => match us, hl with | [_, _], _ => rfl⟩
def L : Txt := ⟨tx, [e0, e1, e2, e3, e4, e5, e6, e7, e8, e9, e10, e11, e12, e13, e14, e15, e16, e17, e18, e19], [x0, x1, x2, x3, x4, x5], [], gd⟩
theorem fnAt : ∀ (f : Nat) (x : Str), L.tx.fn[f]? = some (some x) → ∃ e, L.ents[f]? = some e ∧ e.dd.at_ = (x, none) := by
  intro f x h
  match f, h with
  | 0, h => exact ⟨e0, rfl, by cases h; rfl⟩
  | 1, h => exact ⟨e1, rfl, by cases h; rfl⟩
  | 2, h => exact ⟨e2, rfl, by cases h; rfl⟩
  | 3, h => exact ⟨e3, rfl, by cases h; rfl⟩
  | 4, h => exact ⟨e4, rfl, by cases h; rfl⟩
  | 5, h => exact ⟨e5, rfl, by cases h; rfl⟩
  | 6, h => exact ⟨e6, rfl, by cases h; rfl⟩
  | 7, h => exact ⟨e7, rfl, by cases h; rfl⟩
  | 8, h => exact ⟨e8, rfl, by cases h; rfl⟩
  | 9, h => exact ⟨e9, rfl, by cases h; rfl⟩
  | 10, h => exact ⟨e10, rfl, by cases h; rfl⟩
  | 11, h => exact ⟨e11, rfl, by cases h; rfl⟩
  | 12, h => exact ⟨e12, rfl, by cases h; rfl⟩
  | 13, h => exact ⟨e13, rfl, by cases h; rfl⟩
  | 14, h => exact ⟨e14, rfl, by cases h; rfl⟩
  | 15, h => exact ⟨e15, rfl, by cases h; rfl⟩
  | 16, h => exact ⟨e16, rfl, by cases h; rfl⟩
  | 17, h => exact ⟨e17, rfl, by cases h; rfl⟩
  | 18, h => exact ⟨e18, rfl, by cases h; rfl⟩
  | 19, h => exact ⟨e19, rfl, by cases h; rfl⟩
  | _ + 20, h => cases h
theorem meAt : ∀ (f c : Nat) (m : Str), L.tx.me[f]? = some (some (c, m)) → (∃ e, L.ents[f]? = some e ∧ e.dd.at_ = (L.clsn.getD c default, some m)) ∧ c < L.clsn.length ∧ m ∉ L.tx.fl := by
  intro f c m h
  match f, h with
  | 0, h => cases h
  | 1, h => cases h
  | 2, h => cases h
  | 3, h => cases h
  | 4, h => cases h
  | 5, h => cases h
  | 6, h => cases h
  | 7, h => cases h
  | 8, h => cases h
  | 9, h => cases h
  | 10, h => cases h
  | 11, h => cases h
  | 12, h => cases h
  | 13, h => cases h
  | 14, h => cases h
  | 15, h => cases h
  | 16, h => cases h
  | 17, h => cases h
  | 18, h => cases h
  | 19, h => cases h
  | _ + 20, h => cases h
theorem mlo : ∀ (f c : Nat) (m : Str), L.tx.me[f]? = some (some (c, m)) → ∀ n : Nat, m ≠ ⟨#[n + 2000000]⟩ := by
  intro f c m h
  match f, h with
  | 0, h => cases h
  | 1, h => cases h
  | 2, h => cases h
  | 3, h => cases h
  | 4, h => cases h
  | 5, h => cases h
  | 6, h => cases h
  | 7, h => cases h
  | 8, h => cases h
  | 9, h => cases h
  | 10, h => cases h
  | 11, h => cases h
  | 12, h => cases h
  | 13, h => cases h
  | 14, h => cases h
  | 15, h => cases h
  | 16, h => cases h
  | 17, h => cases h
  | 18, h => cases h
  | 19, h => cases h
  | _ + 20, h => cases h
theorem clAt : ∀ (c f : Nat) (x : Str), L.tx.cl[c]? = some (x, f) → L.clsn[c]? = some x ∧ ∃ e, L.ents[f]? = some e ∧ e.dd.at_ = (x, some ("__init__" : Str)) := by
  intro c f x h
  match c, h with
  | _ + 0, h => cases h
theorem inis : ∀ (c : Nat) (l : List Str), c < L.tx.ex.length → L.tx.xf[c]? = some l → l ≠ [] → ∃ e ∈ L.inits, e.c = c := by
  intro c l hc h hne
  match c, hc, h with
  | 0, _, h => exact ⟨x0, by simp [L], rfl⟩
  | 1, _, h => exact ⟨x1, by simp [L], rfl⟩
  | 2, _, h => exact ⟨x2, by simp [L], rfl⟩
  | 3, _, h => exact ⟨x3, by simp [L], rfl⟩
  | 4, _, h => exact ⟨x4, by simp [L], rfl⟩
  | 5, _, h => exact ⟨x5, by simp [L], rfl⟩
  | 6, _, h => cases h; exact absurd rfl hne
  | _ + 7, hc, h => cases h
theorem flo : ∀ x ∈ L.tx.fl, ∀ n : Nat, x ≠ ⟨#[n + 2000000]⟩ := by
  intro x hx n e
  subst e
  simp [L, tx, Str.ofString_eq_toList] at hx
theorem ok : L.Ok := ⟨.cons ok0 (.cons ok1 (.cons ok2 (.cons ok3 (.cons ok4 (.cons ok5 (.cons ok6 (.cons ok7 (.cons ok8 (.cons ok9 (.cons ok10 (.cons ok11 (.cons ok12 (.cons ok13 (.cons ok14 (.cons ok15 (.cons ok16 (.cons ok17 (.cons ok18 (.cons ok19 (.nil)))))))))))))))))))), .cons xok0 (.cons xok1 (.cons xok2 (.cons xok3 (.cons xok4 (.cons xok5 (.nil)))))), fnAt, meAt, clAt, inis, rfl, rfl, by decide +kernel, by decide +kernel, flo, mlo, by decide +kernel⟩
theorem LT : L.T = T := rfl
theorem LG : L.G = G := rfl
theorem Lfa : L.fa = hfa := rfl
theorem Lfn : L.fn = hfn := rfl
theorem Lex (K : PySem.W.Frag) : L.ex K = hex K := rfl
end K73
theorem K73.main (ns : List Int) (hl : ns.length ≤ 63) : ∃ outs, PX.callN K73.L.T K73.L.G 40 19 [.val (.scr (ns.map .int))] = .ok (.bool true) false outs := K73.mainT ns hl
open PySem PySem.W PySem.Calls PyProof.Rows in
theorem PySem.Challenge.cw_selfrights_k73_put_over_holds : PySem.Challenge.rw_selfrights_k73_put_over.Holds := by
  w_on; o_law
  refine HandSHeadRun.head_any (r := OpenLaw.row PySem.Challenge.rw_selfrights_k73_put_over) (q := view (OpenLaw.row PySem.Challenge.rw_selfrights_k73_put_over).prog [32]) (H := K73.hk) (ob := K73.ob) (M := 6000) (loose := K73.nms) (d := HandSHeadRun.topDef (OpenLaw.row PySem.Challenge.rw_selfrights_k73_put_over).prog 32) (kwd := []) K73.ob_eq
    (by kernel_rfl) (fun s => by kernel_rfl) K73.run (by kernel_rfl) (by kernel_rfl) (by kernel_rfl) (by rfl) (by first | assumption | decide +kernel) (by decide +kernel) ⟨rfl, rfl, rfl, rfl, rfl, by decide +kernel⟩ ?hw ?hc
  case hw => w_witness2
  case hc =>
    refine PX.walk_G (l := PySem.Challenge.rw_selfrights_k73_put_over) (n := 63) (k := 2 * 40 + 2) (x := "_law_script") (CX := fun w => L2.CX (PySem.Challenge.rw_selfrights_k73_put_over).prog w) rfl (by decide) (by kernel_rfl) ⟨⟨rfl, by decide, by decide⟩, rfl⟩ ?F (fun _ _ _ _ _ ⟨_, _, _, _, _, _, _, _, _, _, _, _, z⟩ => z)
    intro w mg fa h Y G hmg0
    obtain ⟨K, KX, c0, cx0⟩ := Y
    have c : He.SaysD K73.L.fa K73.L.fn K := by rw [K73.Lfa, K73.Lfn]; exact c0
    have cx : K73.L.ex K = true := by rw [K73.Lex]; exact cx0
    have hmg : mg ("law" : PySem.Str) = some (.ref fa) := by
      have e : (HandSHeadRun.topDef (OpenLaw.row PySem.Challenge.rw_selfrights_k73_put_over).prog 32).name = ("law" : PySem.Str) := by kernel_rfl
      rw [← e]
      exact hmg0
    obtain ⟨fd, hb, hF⟩ := PX.Txt.end_ (L := K73.L) (P := (PySem.Challenge.rw_selfrights_k73_put_over).prog) (w := w) (n := 40) (f := 19) (e := K73.e19) (x := "_law_script") (x0 := "law") K73.ok rfl rfl rfl KX G c cx hmg rfl
    refine ⟨K, fd, _, KX, hb, fun H a ns hl hO hS => ?_, hF⟩
    obtain ⟨outs, hm⟩ := K73.main ns hl
    exact PX.sp_script (N := K73.L.nm K (PySem.Challenge.rw_selfrights_k73_put_over).prog w) hm hO hS
