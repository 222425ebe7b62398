import PyProof.Rows.All
import KE.KLam
import KE.OsRunLaw
import HandS.Head2
import HandS.Words
import PySem.Challenge.RW_mergeblame_k96_errors_with_their_fields
import Wide.All
import OpenK.AllK
import Wide.FinOn
import HandS.ForMost
import HandS.ForExc
import HandS.Evl
import HandS.DictComp
import HandS.IsInst
import HandS.Deep
import HandS.TupAny
import HandS.Star
import HandS.Flow
import HandS.Property
import HandS.CallSlots
import HandS.Steps
import HandS.Wide
import HandS.SortInts
import HandS.Defaults
import HandS.SlotsOwn
import PyProof.InstNe
import HandS.OwnEq
import HandS.ExcOwn
import HandS.ExcIs
import HandS.ClsMeth
import HandS.WordsExc
import HandS.Conv
import PyProof.TupleOfSeq
import KE.SortData
import HandS.Strs
import KE.GoesMore
import HandS.Style
import HandS.MakeKw
import KE.KExcSuper
import HandS.ExcInit
import HandS.ExcField
import HandS.FStr
import PyProof.FitsInt
import PyProof.Rows.RegStrFacts
import HandS.Exc
import HandS.ExcValue
import HandS.FStrTup
import HandS.Remove
import PyProof.ReprRoads
import PyProof.ReprLen
import HandS.RaiseMore
import HandS.Lambda
import HandS.EndTab
import KE.KDictKeyed
import KE.KDictSum
import HandS.SetFor
set_option Elab.async false
set_option linter.all false
set_option maxRecDepth 100000
set_option maxHeartbeats 2000000
namespace Mb
open PySem PySem.W PySem.Calls PyProof.Rows HeadRun
/-- the head by one run of the kernel, with tables of code objects -/
theorem left_oneKm {p q : Program} {loose : List PySem.Str} {Xt : Shared → Bool} {K : Params → Frag} {as ts : List Addr} {ek : ∀ P, as = (K P).map (·.1)} {N M : Nat}
    (e : opening p = plainProg p.main.scope.names) (hN : Nat.ble 600 N = true) (f : ∀ s, fenceModules? p s = some s) (le : Nat.ble M N = true)
    (run : ∀ (w : World) (os : OsState), (endF (stepQ (denQ tabQ) p w) M p w os).map (fun s => (looksF p (boot_heap w.params) s.abs, seenQ q loose (importedModules p.main.body) Xt s.abs, as.map (getT s), ts.map (getT s))) = some (true, openGood q loose, (K w.params).map (fun x => some x.2), ts.map fun _ => some (tabObj #[]))) :
    LeftO p q loose Xt (Hook.obs (kmHook K as ek ts)) (Hook.val (kmHook K as ek ts)) N true :=
  left_one (M := M) e hN f le fun w os => by
    have z := run w os
    have eo : (fun s : SharedT => (looksF p (boot_heap w.params) s.abs, seenQ q loose (importedModules p.main.body) Xt s.abs, as.map (getT s), ts.map (getT s))) = fun s => (looksF p (boot_heap w.params) s.abs, seenQ q loose (importedModules p.main.body) Xt s.abs, Hook.obs (kmHook K as ek ts) s.abs) := by
      funext s
      have q1 : (as.map (getT s), ts.map (getT s)) = Hook.obs (kmHook K as ek ts) s.abs := congr (congrArg Prod.mk (List.map_congr_left fun a _ => getT_eq s a)) (List.map_congr_left fun a _ => getT_eq s a)
      rw [q1]
      rfl
    rw [eo] at z
    simp only [endQ_eq, seenQ_eq]
    exact z
end Mb
namespace Mb
open PySem PySem.Spec PyProof.Rows L2
def topS (i : Nat) : Stmt := PySem.Challenge.pw_mergeblame_k96_errors_with_their_fields.main.body.getD i (.Pass ⟨0, 0, 0, 0⟩)
end Mb
namespace Mb
open PySem PySem.W PySem.Calls PyProof.Rows L2
def headK (P : Params) : PySem.W.Frag :=
  (nat_lit 2, ⟨.none, none, (.dict (List.toArray []) 0), #[]⟩) ::
  (nat_lit 3, ⟨(.type "dict"), none, (.dict (List.toArray [⟨PyData.keyHash P (Str.ofString "__name__"), (.str (Str.ofString "__name__") 165), (.str (Str.ofString "law_mergeblame_k96_errors_with_their_fields") 690)⟩, ⟨PyData.keyHash P (Str.ofString "__doc__"), (.str (Str.ofString "__doc__") 166), .none⟩, ⟨PyData.keyHash P (Str.ofString "__package__"), (.str (Str.ofString "__package__") 167), .none⟩, ⟨PyData.keyHash P (Str.ofString "__loader__"), (.str (Str.ofString "__loader__") 168), (.builtin "__main__.__loader__#opaque")⟩, ⟨PyData.keyHash P (Str.ofString "__spec__"), (.str (Str.ofString "__spec__") 169), .none⟩, ⟨PyData.keyHash P (Str.ofString "__annotations__"), (.str (Str.ofString "__annotations__") 170), (.ref 6)⟩, ⟨PyData.keyHash P (Str.ofString "__builtins__"), (.str (Str.ofString "__builtins__") 171), (.ref 4)⟩, ⟨PyData.keyHash P (Str.ofString "__file__"), (.str (Str.ofString "__file__") 173), (.str (Str.ofString "/claim/cut.py") 172)⟩, ⟨PyData.keyHash P (Str.ofString "__cached__"), (.str (Str.ofString "__cached__") 174), .none⟩, ⟨PyData.keyHash P (Str.ofString "BlameError"), (.str (Str.ofString "BlameError") 206), (.ref 24)⟩, ⟨PyData.keyHash P (Str.ofString "NoHistory"), (.str (Str.ofString "NoHistory") 233), (.ref 46)⟩, ⟨PyData.keyHash P (Str.ofString "NoVersion"), (.str (Str.ofString "NoVersion") 260), (.ref 67)⟩, ⟨PyData.keyHash P (Str.ofString "NoChange"), (.str (Str.ofString "NoChange") 287), (.ref 88)⟩, ⟨PyData.keyHash P (Str.ofString "NoTest"), (.str (Str.ofString "NoTest") 314), (.ref 109)⟩, ⟨PyData.keyHash P (Str.ofString "Cheaper"), (.str (Str.ofString "Cheaper") 341), (.ref 130)⟩, ⟨PyData.keyHash P (Str.ofString "TooMany"), (.str (Str.ofString "TooMany") 368), (.ref 151)⟩, ⟨PyData.keyHash P (Str.ofString "NoOperation"), (.str (Str.ofString "NoOperation") 395), (.ref 172)⟩, ⟨PyData.keyHash P (Str.ofString "NoJournal"), (.str (Str.ofString "NoJournal") 422), (.ref 193)⟩, ⟨PyData.keyHash P (Str.ofString "NoText"), (.str (Str.ofString "NoText") 449), (.ref 214)⟩, ⟨PyData.keyHash P (Str.ofString "NoOrder"), (.str (Str.ofString "NoOrder") 465), (.ref 226)⟩, ⟨PyData.keyHash P (Str.ofString "NoCause"), (.str (Str.ofString "NoCause") 481), (.ref 238)⟩, ⟨PyData.keyHash P (Str.ofString "NoTheory"), (.str (Str.ofString "NoTheory") 497), (.ref 250)⟩, ⟨PyData.keyHash P (Str.ofString "NoCase"), (.str (Str.ofString "NoCase") 513), (.ref 262)⟩, ⟨PyData.keyHash P (Str.ofString "NoCosts"), (.str (Str.ofString "NoCosts") 529), (.ref 274)⟩, ⟨PyData.keyHash P (Str.ofString "NoLie"), (.str (Str.ofString "NoLie") 545), (.ref 286)⟩, ⟨PyData.keyHash P (Str.ofString "NoLimit"), (.str (Str.ofString "NoLimit") 561), (.ref 298)⟩, ⟨PyData.keyHash P (Str.ofString "NoCauses"), (.str (Str.ofString "NoCauses") 577), (.ref 310)⟩, ⟨PyData.keyHash P (Str.ofString "NoClaim"), (.str (Str.ofString "NoClaim") 593), (.ref 322)⟩, ⟨PyData.keyHash P (Str.ofString "NoChanges"), (.str (Str.ofString "NoChanges") 609), (.ref 334)⟩, ⟨PyData.keyHash P (Str.ofString "NoSuspects"), (.str (Str.ofString "NoSuspects") 625), (.ref 346)⟩, ⟨PyData.keyHash P (Str.ofString "NoState"), (.str (Str.ofString "NoState") 641), (.ref 358)⟩, ⟨PyData.keyHash P (Str.ofString "NoPlan"), (.str (Str.ofString "NoPlan") 657), (.ref 370)⟩, ⟨PyData.keyHash P (Str.ofString "NoNumber"), (.str (Str.ofString "NoNumber") 673), (.ref 382)⟩, ⟨PyData.keyHash P (Str.ofString "NothingLeft"), (.str (Str.ofString "NothingLeft") 689), (.ref 394)⟩, ⟨PyData.keyHash P (Str.ofString "_law_begun"), (.str (Str.ofString "_law_begun") 697), (.ref 401)⟩, ⟨PyData.keyHash P (Str.ofString "_law_next"), (.str (Str.ofString "_law_next") 709), (.ref 408)⟩, ⟨PyData.keyHash P (Str.ofString "_law_pick"), (.str (Str.ofString "_law_pick") 717), (.ref 415)⟩, ⟨PyData.keyHash P (Str.ofString "_law_with_fields"), (.str (Str.ofString "_law_with_fields") 725), (.ref 422)⟩, ⟨PyData.keyHash P (Str.ofString "_law_plain"), (.str (Str.ofString "_law_plain") 733), (.ref 429)⟩, ⟨PyData.keyHash P (Str.ofString "_law_kinds"), (.str (Str.ofString "_law_kinds") 741), (.ref 436)⟩, ⟨PyData.keyHash P (Str.ofString "law"), (.str (Str.ofString "law") 747), (.ref 441)⟩]) 41), #[]⟩) ::
  (nat_lit 15, ⟨(.type "tuple"), none, (.seq #[(.type "ValueError")] 0), #[]⟩) ::
  (nat_lit 22, ⟨(.type "tuple"), none, (.seq #[] 0), #[]⟩) ::
  (nat_lit 23, ⟨(.type "dict"), none, (.dict (List.toArray [⟨PyData.keyHash P (Str.ofString "__module__"), (.str (Str.ofString "__module__") 196), (.str (Str.ofString "mergeblame.errors") 187)⟩, ⟨PyData.keyHash P (Str.ofString "__firstlineno__"), (.str (Str.ofString "__firstlineno__") 200), (.int 2 199)⟩, ⟨PyData.keyHash P (Str.ofString "__static_attributes__"), (.str (Str.ofString "__static_attributes__") 201), (.ref 22)⟩, ⟨PyData.keyHash P (Str.ofString "__weakref__"), (.str (Str.ofString "__weakref__") 203), (.ref 25)⟩, ⟨PyData.keyHash P (Str.ofString "__doc__"), (.str (Str.ofString "__doc__") 204), .none⟩]) 3), #[]⟩) ::
  (nat_lit 24, ⟨(.type "type"), none, (.cls ⟨(Str.ofString "BlameError"), [(.type "ValueError")], [(.ref 24), (.type "ValueError"), (.type "Exception"), (.type "BaseException"), (.type "object")], 23, (Str.ofString "BlameError"), true, [], [(.ref 46), (.ref 67), (.ref 88), (.ref 109), (.ref 130), (.ref 151), (.ref 172), (.ref 193), (.ref 214), (.ref 226), (.ref 238), (.ref 250), (.ref 262), (.ref 274), (.ref 286), (.ref 298), (.ref 310), (.ref 322), (.ref 334), (.ref 346), (.ref 358), (.ref 370), (.ref 382), (.ref 394)], false, none, false⟩), #[(some (.ref 15)), none, (some (.str (Str.ofString "BlameError") 189)), (some (.str (Str.ofString "BlameError") 197)), (some (.builtin "ValueError.__new__")), (some (.bool true))]⟩) ::
  (nat_lit 25, ⟨(.type "getset_descriptor"), none, (.fields #[(.str (Str.ofString "__weakref__") 202), (.ref 24), (.builtin "ExceptionGroup.__weakref__"), .none]), #[]⟩) ::
  (nat_lit 28, ⟨(.type "tuple"), none, (.seq #[(.ref 24)] 0), #[]⟩) ::
  (nat_lit 31, ⟨(.type "cell"), none, (.cell (some (.ref 46))), #[]⟩) ::
  (nat_lit 36, ⟨(.type "tuple"), none, (.seq #[(.ref 31)] 0), #[]⟩) ::
  (nat_lit 37, ⟨(.type "tuple"), none, (.seq #[(.str (Str.ofString "__class__") 222)] 0), #[]⟩) ::
  (nat_lit 39, ⟨(.type "tuple"), none, (.seq #[(.str (Str.ofString "self") 223), (.str (Str.ofString "at") 224)] 0), #[]⟩) ::
  (nat_lit 40, ⟨(.type "tuple"), none, (.seq #[] 0), #[]⟩) ::
  (nat_lit 42, ⟨(.type "code"), none, (.fields #[(.str (Str.ofString "__init__") 219), (.str (Str.ofString "NoHistory.__init__") 220), (.str (Str.ofString "/claim/cut.py") 221), (.int 6 0), (.int 2 0), (.int 0 0), (.int 0 0), (.int 3 0), (.ref 37), (.bool true), (.int 181 0), (.ref 38), .none, (.ref 39), (.ref 40), (.ref 41), (.int 225 0), (.int 6 0), (.str (Str.ofString "/claim/cut.py") 226)]), #[]⟩) ::
  (nat_lit 43, ⟨(.type "function"), none, (.func ⟨(Str.ofString "__init__"), (Str.ofString "NoHistory.__init__"), (defArgs (inClass (topS 2) 0)), (.stmts (defBody (inClass (topS 2) 0))), (defScope (inClass (topS 2) 0)), 3, [((Str.ofString "__class__"), 31)], .none, .none, .none, (.str (Str.ofString "mergeblame.errors") 187), none, (.ref 42), (.ref 36), 0⟩), #[]⟩) ::
  (nat_lit 44, ⟨(.type "tuple"), none, (.seq #[(.str (Str.ofString "at") 228)] 0), #[]⟩) ::
  (nat_lit 45, ⟨(.type "dict"), none, (.dict (List.toArray [⟨PyData.keyHash P (Str.ofString "__module__"), (.str (Str.ofString "__module__") 214), (.str (Str.ofString "mergeblame.errors") 187)⟩, ⟨PyData.keyHash P (Str.ofString "__firstlineno__"), (.str (Str.ofString "__firstlineno__") 218), (.int 4 217)⟩, ⟨PyData.keyHash P (Str.ofString "__init__"), (.str (Str.ofString "__init__") 227), (.ref 43)⟩, ⟨PyData.keyHash P (Str.ofString "__static_attributes__"), (.str (Str.ofString "__static_attributes__") 229), (.ref 44)⟩, ⟨PyData.keyHash P (Str.ofString "__doc__"), (.str (Str.ofString "__doc__") 231), .none⟩]) 3), #[]⟩) ::
  (nat_lit 46, ⟨(.type "type"), none, (.cls ⟨(Str.ofString "NoHistory"), [(.ref 24)], [(.ref 46), (.ref 24), (.type "ValueError"), (.type "Exception"), (.type "BaseException"), (.type "object")], 45, (Str.ofString "NoHistory"), true, [], [], false, none, false⟩), #[(some (.ref 28)), none, (some (.str (Str.ofString "NoHistory") 207)), (some (.str (Str.ofString "NoHistory") 215)), (some (.builtin "ValueError.__new__")), (some (.bool true))]⟩) ::
  (nat_lit 49, ⟨(.type "tuple"), none, (.seq #[(.ref 24)] 0), #[]⟩) ::
  (nat_lit 52, ⟨(.type "cell"), none, (.cell (some (.ref 67))), #[]⟩) ::
  (nat_lit 57, ⟨(.type "tuple"), none, (.seq #[(.ref 52)] 0), #[]⟩) ::
  (nat_lit 58, ⟨(.type "tuple"), none, (.seq #[(.str (Str.ofString "__class__") 249)] 0), #[]⟩) ::
  (nat_lit 60, ⟨(.type "tuple"), none, (.seq #[(.str (Str.ofString "self") 250), (.str (Str.ofString "version") 251)] 0), #[]⟩) ::
  (nat_lit 61, ⟨(.type "tuple"), none, (.seq #[] 0), #[]⟩) ::
  (nat_lit 63, ⟨(.type "code"), none, (.fields #[(.str (Str.ofString "__init__") 246), (.str (Str.ofString "NoVersion.__init__") 247), (.str (Str.ofString "/claim/cut.py") 248), (.int 11 0), (.int 2 0), (.int 0 0), (.int 0 0), (.int 3 0), (.ref 58), (.bool true), (.int 181 0), (.ref 59), .none, (.ref 60), (.ref 61), (.ref 62), (.int 252 0), (.int 11 0), (.str (Str.ofString "/claim/cut.py") 253)]), #[]⟩) ::
  (nat_lit 64, ⟨(.type "function"), none, (.func ⟨(Str.ofString "__init__"), (Str.ofString "NoVersion.__init__"), (defArgs (inClass (topS 3) 0)), (.stmts (defBody (inClass (topS 3) 0))), (defScope (inClass (topS 3) 0)), 3, [((Str.ofString "__class__"), 52)], .none, .none, .none, (.str (Str.ofString "mergeblame.errors") 187), none, (.ref 63), (.ref 57), 0⟩), #[]⟩) ::
  (nat_lit 65, ⟨(.type "tuple"), none, (.seq #[(.str (Str.ofString "version") 255)] 0), #[]⟩) ::
  (nat_lit 66, ⟨(.type "dict"), none, (.dict (List.toArray [⟨PyData.keyHash P (Str.ofString "__module__"), (.str (Str.ofString "__module__") 241), (.str (Str.ofString "mergeblame.errors") 187)⟩, ⟨PyData.keyHash P (Str.ofString "__firstlineno__"), (.str (Str.ofString "__firstlineno__") 245), (.int 9 244)⟩, ⟨PyData.keyHash P (Str.ofString "__init__"), (.str (Str.ofString "__init__") 254), (.ref 64)⟩, ⟨PyData.keyHash P (Str.ofString "__static_attributes__"), (.str (Str.ofString "__static_attributes__") 256), (.ref 65)⟩, ⟨PyData.keyHash P (Str.ofString "__doc__"), (.str (Str.ofString "__doc__") 258), .none⟩]) 3), #[]⟩) ::
  (nat_lit 67, ⟨(.type "type"), none, (.cls ⟨(Str.ofString "NoVersion"), [(.ref 24)], [(.ref 67), (.ref 24), (.type "ValueError"), (.type "Exception"), (.type "BaseException"), (.type "object")], 66, (Str.ofString "NoVersion"), true, [], [], false, none, false⟩), #[(some (.ref 49)), none, (some (.str (Str.ofString "NoVersion") 234)), (some (.str (Str.ofString "NoVersion") 242)), (some (.builtin "ValueError.__new__")), (some (.bool true))]⟩) ::
  (nat_lit 70, ⟨(.type "tuple"), none, (.seq #[(.ref 24)] 0), #[]⟩) ::
  (nat_lit 73, ⟨(.type "cell"), none, (.cell (some (.ref 88))), #[]⟩) ::
  (nat_lit 78, ⟨(.type "tuple"), none, (.seq #[(.ref 73)] 0), #[]⟩) ::
  (nat_lit 79, ⟨(.type "tuple"), none, (.seq #[(.str (Str.ofString "__class__") 276)] 0), #[]⟩) ::
  (nat_lit 81, ⟨(.type "tuple"), none, (.seq #[(.str (Str.ofString "self") 277), (.str (Str.ofString "change") 278)] 0), #[]⟩) ::
  (nat_lit 82, ⟨(.type "tuple"), none, (.seq #[] 0), #[]⟩) ::
  (nat_lit 84, ⟨(.type "code"), none, (.fields #[(.str (Str.ofString "__init__") 273), (.str (Str.ofString "NoChange.__init__") 274), (.str (Str.ofString "/claim/cut.py") 275), (.int 16 0), (.int 2 0), (.int 0 0), (.int 0 0), (.int 3 0), (.ref 79), (.bool true), (.int 181 0), (.ref 80), .none, (.ref 81), (.ref 82), (.ref 83), (.int 279 0), (.int 16 0), (.str (Str.ofString "/claim/cut.py") 280)]), #[]⟩) ::
  (nat_lit 85, ⟨(.type "function"), none, (.func ⟨(Str.ofString "__init__"), (Str.ofString "NoChange.__init__"), (defArgs (inClass (topS 4) 0)), (.stmts (defBody (inClass (topS 4) 0))), (defScope (inClass (topS 4) 0)), 3, [((Str.ofString "__class__"), 73)], .none, .none, .none, (.str (Str.ofString "mergeblame.errors") 187), none, (.ref 84), (.ref 78), 0⟩), #[]⟩) ::
  (nat_lit 86, ⟨(.type "tuple"), none, (.seq #[(.str (Str.ofString "change") 282)] 0), #[]⟩) ::
  (nat_lit 87, ⟨(.type "dict"), none, (.dict (List.toArray [⟨PyData.keyHash P (Str.ofString "__module__"), (.str (Str.ofString "__module__") 268), (.str (Str.ofString "mergeblame.errors") 187)⟩, ⟨PyData.keyHash P (Str.ofString "__firstlineno__"), (.str (Str.ofString "__firstlineno__") 272), (.int 14 271)⟩, ⟨PyData.keyHash P (Str.ofString "__init__"), (.str (Str.ofString "__init__") 281), (.ref 85)⟩, ⟨PyData.keyHash P (Str.ofString "__static_attributes__"), (.str (Str.ofString "__static_attributes__") 283), (.ref 86)⟩, ⟨PyData.keyHash P (Str.ofString "__doc__"), (.str (Str.ofString "__doc__") 285), .none⟩]) 3), #[]⟩) ::
  (nat_lit 88, ⟨(.type "type"), none, (.cls ⟨(Str.ofString "NoChange"), [(.ref 24)], [(.ref 88), (.ref 24), (.type "ValueError"), (.type "Exception"), (.type "BaseException"), (.type "object")], 87, (Str.ofString "NoChange"), true, [], [], false, none, false⟩), #[(some (.ref 70)), none, (some (.str (Str.ofString "NoChange") 261)), (some (.str (Str.ofString "NoChange") 269)), (some (.builtin "ValueError.__new__")), (some (.bool true))]⟩) ::
  (nat_lit 91, ⟨(.type "tuple"), none, (.seq #[(.ref 24)] 0), #[]⟩) ::
  (nat_lit 94, ⟨(.type "cell"), none, (.cell (some (.ref 109))), #[]⟩) ::
  (nat_lit 99, ⟨(.type "tuple"), none, (.seq #[(.ref 94)] 0), #[]⟩) ::
  (nat_lit 100, ⟨(.type "tuple"), none, (.seq #[(.str (Str.ofString "__class__") 303)] 0), #[]⟩) ::
  (nat_lit 102, ⟨(.type "tuple"), none, (.seq #[(.str (Str.ofString "self") 304), (.str (Str.ofString "at") 305)] 0), #[]⟩) ::
  (nat_lit 103, ⟨(.type "tuple"), none, (.seq #[] 0), #[]⟩) ::
  (nat_lit 105, ⟨(.type "code"), none, (.fields #[(.str (Str.ofString "__init__") 300), (.str (Str.ofString "NoTest.__init__") 301), (.str (Str.ofString "/claim/cut.py") 302), (.int 21 0), (.int 2 0), (.int 0 0), (.int 0 0), (.int 3 0), (.ref 100), (.bool true), (.int 181 0), (.ref 101), .none, (.ref 102), (.ref 103), (.ref 104), (.int 306 0), (.int 21 0), (.str (Str.ofString "/claim/cut.py") 307)]), #[]⟩) ::
  (nat_lit 106, ⟨(.type "function"), none, (.func ⟨(Str.ofString "__init__"), (Str.ofString "NoTest.__init__"), (defArgs (inClass (topS 5) 0)), (.stmts (defBody (inClass (topS 5) 0))), (defScope (inClass (topS 5) 0)), 3, [((Str.ofString "__class__"), 94)], .none, .none, .none, (.str (Str.ofString "mergeblame.errors") 187), none, (.ref 105), (.ref 99), 0⟩), #[]⟩) ::
  (nat_lit 107, ⟨(.type "tuple"), none, (.seq #[(.str (Str.ofString "at") 309)] 0), #[]⟩) ::
  (nat_lit 108, ⟨(.type "dict"), none, (.dict (List.toArray [⟨PyData.keyHash P (Str.ofString "__module__"), (.str (Str.ofString "__module__") 295), (.str (Str.ofString "mergeblame.errors") 187)⟩, ⟨PyData.keyHash P (Str.ofString "__firstlineno__"), (.str (Str.ofString "__firstlineno__") 299), (.int 19 298)⟩, ⟨PyData.keyHash P (Str.ofString "__init__"), (.str (Str.ofString "__init__") 308), (.ref 106)⟩, ⟨PyData.keyHash P (Str.ofString "__static_attributes__"), (.str (Str.ofString "__static_attributes__") 310), (.ref 107)⟩, ⟨PyData.keyHash P (Str.ofString "__doc__"), (.str (Str.ofString "__doc__") 312), .none⟩]) 3), #[]⟩) ::
  (nat_lit 109, ⟨(.type "type"), none, (.cls ⟨(Str.ofString "NoTest"), [(.ref 24)], [(.ref 109), (.ref 24), (.type "ValueError"), (.type "Exception"), (.type "BaseException"), (.type "object")], 108, (Str.ofString "NoTest"), true, [], [], false, none, false⟩), #[(some (.ref 91)), none, (some (.str (Str.ofString "NoTest") 288)), (some (.str (Str.ofString "NoTest") 296)), (some (.builtin "ValueError.__new__")), (some (.bool true))]⟩) ::
  (nat_lit 112, ⟨(.type "tuple"), none, (.seq #[(.ref 24)] 0), #[]⟩) ::
  (nat_lit 115, ⟨(.type "cell"), none, (.cell (some (.ref 130))), #[]⟩) ::
  (nat_lit 120, ⟨(.type "tuple"), none, (.seq #[(.ref 115)] 0), #[]⟩) ::
  (nat_lit 121, ⟨(.type "tuple"), none, (.seq #[(.str (Str.ofString "__class__") 330)] 0), #[]⟩) ::
  (nat_lit 123, ⟨(.type "tuple"), none, (.seq #[(.str (Str.ofString "self") 331), (.str (Str.ofString "least") 332)] 0), #[]⟩) ::
  (nat_lit 124, ⟨(.type "tuple"), none, (.seq #[] 0), #[]⟩) ::
  (nat_lit 126, ⟨(.type "code"), none, (.fields #[(.str (Str.ofString "__init__") 327), (.str (Str.ofString "Cheaper.__init__") 328), (.str (Str.ofString "/claim/cut.py") 329), (.int 26 0), (.int 2 0), (.int 0 0), (.int 0 0), (.int 3 0), (.ref 121), (.bool true), (.int 181 0), (.ref 122), .none, (.ref 123), (.ref 124), (.ref 125), (.int 333 0), (.int 26 0), (.str (Str.ofString "/claim/cut.py") 334)]), #[]⟩) ::
  (nat_lit 127, ⟨(.type "function"), none, (.func ⟨(Str.ofString "__init__"), (Str.ofString "Cheaper.__init__"), (defArgs (inClass (topS 6) 0)), (.stmts (defBody (inClass (topS 6) 0))), (defScope (inClass (topS 6) 0)), 3, [((Str.ofString "__class__"), 115)], .none, .none, .none, (.str (Str.ofString "mergeblame.errors") 187), none, (.ref 126), (.ref 120), 0⟩), #[]⟩) ::
  (nat_lit 128, ⟨(.type "tuple"), none, (.seq #[(.str (Str.ofString "least") 336)] 0), #[]⟩) ::
  (nat_lit 129, ⟨(.type "dict"), none, (.dict (List.toArray [⟨PyData.keyHash P (Str.ofString "__module__"), (.str (Str.ofString "__module__") 322), (.str (Str.ofString "mergeblame.errors") 187)⟩, ⟨PyData.keyHash P (Str.ofString "__firstlineno__"), (.str (Str.ofString "__firstlineno__") 326), (.int 24 325)⟩, ⟨PyData.keyHash P (Str.ofString "__init__"), (.str (Str.ofString "__init__") 335), (.ref 127)⟩, ⟨PyData.keyHash P (Str.ofString "__static_attributes__"), (.str (Str.ofString "__static_attributes__") 337), (.ref 128)⟩, ⟨PyData.keyHash P (Str.ofString "__doc__"), (.str (Str.ofString "__doc__") 339), .none⟩]) 3), #[]⟩) ::
  (nat_lit 130, ⟨(.type "type"), none, (.cls ⟨(Str.ofString "Cheaper"), [(.ref 24)], [(.ref 130), (.ref 24), (.type "ValueError"), (.type "Exception"), (.type "BaseException"), (.type "object")], 129, (Str.ofString "Cheaper"), true, [], [], false, none, false⟩), #[(some (.ref 112)), none, (some (.str (Str.ofString "Cheaper") 315)), (some (.str (Str.ofString "Cheaper") 323)), (some (.builtin "ValueError.__new__")), (some (.bool true))]⟩) ::
  (nat_lit 133, ⟨(.type "tuple"), none, (.seq #[(.ref 24)] 0), #[]⟩) ::
  (nat_lit 136, ⟨(.type "cell"), none, (.cell (some (.ref 151))), #[]⟩) ::
  (nat_lit 141, ⟨(.type "tuple"), none, (.seq #[(.ref 136)] 0), #[]⟩) ::
  (nat_lit 142, ⟨(.type "tuple"), none, (.seq #[(.str (Str.ofString "__class__") 357)] 0), #[]⟩) ::
  (nat_lit 144, ⟨(.type "tuple"), none, (.seq #[(.str (Str.ofString "self") 358), (.str (Str.ofString "most") 359)] 0), #[]⟩) ::
  (nat_lit 145, ⟨(.type "tuple"), none, (.seq #[] 0), #[]⟩) ::
  (nat_lit 147, ⟨(.type "code"), none, (.fields #[(.str (Str.ofString "__init__") 354), (.str (Str.ofString "TooMany.__init__") 355), (.str (Str.ofString "/claim/cut.py") 356), (.int 31 0), (.int 2 0), (.int 0 0), (.int 0 0), (.int 3 0), (.ref 142), (.bool true), (.int 181 0), (.ref 143), .none, (.ref 144), (.ref 145), (.ref 146), (.int 360 0), (.int 31 0), (.str (Str.ofString "/claim/cut.py") 361)]), #[]⟩) ::
  (nat_lit 148, ⟨(.type "function"), none, (.func ⟨(Str.ofString "__init__"), (Str.ofString "TooMany.__init__"), (defArgs (inClass (topS 7) 0)), (.stmts (defBody (inClass (topS 7) 0))), (defScope (inClass (topS 7) 0)), 3, [((Str.ofString "__class__"), 136)], .none, .none, .none, (.str (Str.ofString "mergeblame.errors") 187), none, (.ref 147), (.ref 141), 0⟩), #[]⟩) ::
  (nat_lit 149, ⟨(.type "tuple"), none, (.seq #[(.str (Str.ofString "most") 363)] 0), #[]⟩) ::
  (nat_lit 150, ⟨(.type "dict"), none, (.dict (List.toArray [⟨PyData.keyHash P (Str.ofString "__module__"), (.str (Str.ofString "__module__") 349), (.str (Str.ofString "mergeblame.errors") 187)⟩, ⟨PyData.keyHash P (Str.ofString "__firstlineno__"), (.str (Str.ofString "__firstlineno__") 353), (.int 29 352)⟩, ⟨PyData.keyHash P (Str.ofString "__init__"), (.str (Str.ofString "__init__") 362), (.ref 148)⟩, ⟨PyData.keyHash P (Str.ofString "__static_attributes__"), (.str (Str.ofString "__static_attributes__") 364), (.ref 149)⟩, ⟨PyData.keyHash P (Str.ofString "__doc__"), (.str (Str.ofString "__doc__") 366), .none⟩]) 3), #[]⟩) ::
  (nat_lit 151, ⟨(.type "type"), none, (.cls ⟨(Str.ofString "TooMany"), [(.ref 24)], [(.ref 151), (.ref 24), (.type "ValueError"), (.type "Exception"), (.type "BaseException"), (.type "object")], 150, (Str.ofString "TooMany"), true, [], [], false, none, false⟩), #[(some (.ref 133)), none, (some (.str (Str.ofString "TooMany") 342)), (some (.str (Str.ofString "TooMany") 350)), (some (.builtin "ValueError.__new__")), (some (.bool true))]⟩) ::
  (nat_lit 154, ⟨(.type "tuple"), none, (.seq #[(.ref 24)] 0), #[]⟩) ::
  (nat_lit 157, ⟨(.type "cell"), none, (.cell (some (.ref 172))), #[]⟩) ::
  (nat_lit 162, ⟨(.type "tuple"), none, (.seq #[(.ref 157)] 0), #[]⟩) ::
  (nat_lit 163, ⟨(.type "tuple"), none, (.seq #[(.str (Str.ofString "__class__") 384)] 0), #[]⟩) ::
  (nat_lit 165, ⟨(.type "tuple"), none, (.seq #[(.str (Str.ofString "self") 385), (.str (Str.ofString "at") 386)] 0), #[]⟩) ::
  (nat_lit 166, ⟨(.type "tuple"), none, (.seq #[] 0), #[]⟩) ::
  (nat_lit 168, ⟨(.type "code"), none, (.fields #[(.str (Str.ofString "__init__") 381), (.str (Str.ofString "NoOperation.__init__") 382), (.str (Str.ofString "/claim/cut.py") 383), (.int 36 0), (.int 2 0), (.int 0 0), (.int 0 0), (.int 3 0), (.ref 163), (.bool true), (.int 181 0), (.ref 164), .none, (.ref 165), (.ref 166), (.ref 167), (.int 387 0), (.int 36 0), (.str (Str.ofString "/claim/cut.py") 388)]), #[]⟩) ::
  (nat_lit 169, ⟨(.type "function"), none, (.func ⟨(Str.ofString "__init__"), (Str.ofString "NoOperation.__init__"), (defArgs (inClass (topS 8) 0)), (.stmts (defBody (inClass (topS 8) 0))), (defScope (inClass (topS 8) 0)), 3, [((Str.ofString "__class__"), 157)], .none, .none, .none, (.str (Str.ofString "mergeblame.errors") 187), none, (.ref 168), (.ref 162), 0⟩), #[]⟩) ::
  (nat_lit 170, ⟨(.type "tuple"), none, (.seq #[(.str (Str.ofString "at") 390)] 0), #[]⟩) ::
  (nat_lit 171, ⟨(.type "dict"), none, (.dict (List.toArray [⟨PyData.keyHash P (Str.ofString "__module__"), (.str (Str.ofString "__module__") 376), (.str (Str.ofString "mergeblame.errors") 187)⟩, ⟨PyData.keyHash P (Str.ofString "__firstlineno__"), (.str (Str.ofString "__firstlineno__") 380), (.int 34 379)⟩, ⟨PyData.keyHash P (Str.ofString "__init__"), (.str (Str.ofString "__init__") 389), (.ref 169)⟩, ⟨PyData.keyHash P (Str.ofString "__static_attributes__"), (.str (Str.ofString "__static_attributes__") 391), (.ref 170)⟩, ⟨PyData.keyHash P (Str.ofString "__doc__"), (.str (Str.ofString "__doc__") 393), .none⟩]) 3), #[]⟩) ::
  (nat_lit 172, ⟨(.type "type"), none, (.cls ⟨(Str.ofString "NoOperation"), [(.ref 24)], [(.ref 172), (.ref 24), (.type "ValueError"), (.type "Exception"), (.type "BaseException"), (.type "object")], 171, (Str.ofString "NoOperation"), true, [], [], false, none, false⟩), #[(some (.ref 154)), none, (some (.str (Str.ofString "NoOperation") 369)), (some (.str (Str.ofString "NoOperation") 377)), (some (.builtin "ValueError.__new__")), (some (.bool true))]⟩) ::
  (nat_lit 175, ⟨(.type "tuple"), none, (.seq #[(.ref 24)] 0), #[]⟩) ::
  (nat_lit 178, ⟨(.type "cell"), none, (.cell (some (.ref 193))), #[]⟩) ::
  (nat_lit 183, ⟨(.type "tuple"), none, (.seq #[(.ref 178)] 0), #[]⟩) ::
  (nat_lit 184, ⟨(.type "tuple"), none, (.seq #[(.str (Str.ofString "__class__") 411)] 0), #[]⟩) ::
  (nat_lit 186, ⟨(.type "tuple"), none, (.seq #[(.str (Str.ofString "self") 412), (.str (Str.ofString "at") 413)] 0), #[]⟩) ::
  (nat_lit 187, ⟨(.type "tuple"), none, (.seq #[] 0), #[]⟩) ::
  (nat_lit 189, ⟨(.type "code"), none, (.fields #[(.str (Str.ofString "__init__") 408), (.str (Str.ofString "NoJournal.__init__") 409), (.str (Str.ofString "/claim/cut.py") 410), (.int 41 0), (.int 2 0), (.int 0 0), (.int 0 0), (.int 3 0), (.ref 184), (.bool true), (.int 181 0), (.ref 185), .none, (.ref 186), (.ref 187), (.ref 188), (.int 414 0), (.int 41 0), (.str (Str.ofString "/claim/cut.py") 415)]), #[]⟩) ::
  (nat_lit 190, ⟨(.type "function"), none, (.func ⟨(Str.ofString "__init__"), (Str.ofString "NoJournal.__init__"), (defArgs (inClass (topS 9) 0)), (.stmts (defBody (inClass (topS 9) 0))), (defScope (inClass (topS 9) 0)), 3, [((Str.ofString "__class__"), 178)], .none, .none, .none, (.str (Str.ofString "mergeblame.errors") 187), none, (.ref 189), (.ref 183), 0⟩), #[]⟩) ::
  (nat_lit 191, ⟨(.type "tuple"), none, (.seq #[(.str (Str.ofString "at") 417)] 0), #[]⟩) ::
  (nat_lit 192, ⟨(.type "dict"), none, (.dict (List.toArray [⟨PyData.keyHash P (Str.ofString "__module__"), (.str (Str.ofString "__module__") 403), (.str (Str.ofString "mergeblame.errors") 187)⟩, ⟨PyData.keyHash P (Str.ofString "__firstlineno__"), (.str (Str.ofString "__firstlineno__") 407), (.int 39 406)⟩, ⟨PyData.keyHash P (Str.ofString "__init__"), (.str (Str.ofString "__init__") 416), (.ref 190)⟩, ⟨PyData.keyHash P (Str.ofString "__static_attributes__"), (.str (Str.ofString "__static_attributes__") 418), (.ref 191)⟩, ⟨PyData.keyHash P (Str.ofString "__doc__"), (.str (Str.ofString "__doc__") 420), .none⟩]) 3), #[]⟩) ::
  (nat_lit 193, ⟨(.type "type"), none, (.cls ⟨(Str.ofString "NoJournal"), [(.ref 24)], [(.ref 193), (.ref 24), (.type "ValueError"), (.type "Exception"), (.type "BaseException"), (.type "object")], 192, (Str.ofString "NoJournal"), true, [], [], false, none, false⟩), #[(some (.ref 175)), none, (some (.str (Str.ofString "NoJournal") 396)), (some (.str (Str.ofString "NoJournal") 404)), (some (.builtin "ValueError.__new__")), (some (.bool true))]⟩) ::
  (nat_lit 196, ⟨(.type "tuple"), none, (.seq #[(.ref 24)] 0), #[]⟩) ::
  (nat_lit 199, ⟨(.type "cell"), none, (.cell (some (.ref 214))), #[]⟩) ::
  (nat_lit 204, ⟨(.type "tuple"), none, (.seq #[(.ref 199)] 0), #[]⟩) ::
  (nat_lit 205, ⟨(.type "tuple"), none, (.seq #[(.str (Str.ofString "__class__") 438)] 0), #[]⟩) ::
  (nat_lit 207, ⟨(.type "tuple"), none, (.seq #[(.str (Str.ofString "self") 439), (.str (Str.ofString "row") 440)] 0), #[]⟩) ::
  (nat_lit 208, ⟨(.type "tuple"), none, (.seq #[] 0), #[]⟩) ::
  (nat_lit 210, ⟨(.type "code"), none, (.fields #[(.str (Str.ofString "__init__") 435), (.str (Str.ofString "NoText.__init__") 436), (.str (Str.ofString "/claim/cut.py") 437), (.int 46 0), (.int 2 0), (.int 0 0), (.int 0 0), (.int 3 0), (.ref 205), (.bool true), (.int 181 0), (.ref 206), .none, (.ref 207), (.ref 208), (.ref 209), (.int 441 0), (.int 46 0), (.str (Str.ofString "/claim/cut.py") 442)]), #[]⟩) ::
  (nat_lit 211, ⟨(.type "function"), none, (.func ⟨(Str.ofString "__init__"), (Str.ofString "NoText.__init__"), (defArgs (inClass (topS 10) 0)), (.stmts (defBody (inClass (topS 10) 0))), (defScope (inClass (topS 10) 0)), 3, [((Str.ofString "__class__"), 199)], .none, .none, .none, (.str (Str.ofString "mergeblame.errors") 187), none, (.ref 210), (.ref 204), 0⟩), #[]⟩) ::
  (nat_lit 212, ⟨(.type "tuple"), none, (.seq #[(.str (Str.ofString "row") 444)] 0), #[]⟩) ::
  (nat_lit 213, ⟨(.type "dict"), none, (.dict (List.toArray [⟨PyData.keyHash P (Str.ofString "__module__"), (.str (Str.ofString "__module__") 430), (.str (Str.ofString "mergeblame.errors") 187)⟩, ⟨PyData.keyHash P (Str.ofString "__firstlineno__"), (.str (Str.ofString "__firstlineno__") 434), (.int 44 433)⟩, ⟨PyData.keyHash P (Str.ofString "__init__"), (.str (Str.ofString "__init__") 443), (.ref 211)⟩, ⟨PyData.keyHash P (Str.ofString "__static_attributes__"), (.str (Str.ofString "__static_attributes__") 445), (.ref 212)⟩, ⟨PyData.keyHash P (Str.ofString "__doc__"), (.str (Str.ofString "__doc__") 447), .none⟩]) 3), #[]⟩) ::
  (nat_lit 214, ⟨(.type "type"), none, (.cls ⟨(Str.ofString "NoText"), [(.ref 24)], [(.ref 214), (.ref 24), (.type "ValueError"), (.type "Exception"), (.type "BaseException"), (.type "object")], 213, (Str.ofString "NoText"), true, [], [], false, none, false⟩), #[(some (.ref 196)), none, (some (.str (Str.ofString "NoText") 423)), (some (.str (Str.ofString "NoText") 431)), (some (.builtin "ValueError.__new__")), (some (.bool true))]⟩) ::
  (nat_lit 217, ⟨(.type "tuple"), none, (.seq #[(.ref 24)] 0), #[]⟩) ::
  (nat_lit 224, ⟨(.type "tuple"), none, (.seq #[] 0), #[]⟩) ::
  (nat_lit 225, ⟨(.type "dict"), none, (.dict (List.toArray [⟨PyData.keyHash P (Str.ofString "__module__"), (.str (Str.ofString "__module__") 457), (.str (Str.ofString "mergeblame.errors") 187)⟩, ⟨PyData.keyHash P (Str.ofString "__firstlineno__"), (.str (Str.ofString "__firstlineno__") 461), (.int 49 460)⟩, ⟨PyData.keyHash P (Str.ofString "__static_attributes__"), (.str (Str.ofString "__static_attributes__") 462), (.ref 224)⟩, ⟨PyData.keyHash P (Str.ofString "__doc__"), (.str (Str.ofString "__doc__") 463), .none⟩]) 2), #[]⟩) ::
  (nat_lit 226, ⟨(.type "type"), none, (.cls ⟨(Str.ofString "NoOrder"), [(.ref 24)], [(.ref 226), (.ref 24), (.type "ValueError"), (.type "Exception"), (.type "BaseException"), (.type "object")], 225, (Str.ofString "NoOrder"), true, [], [], false, none, false⟩), #[(some (.ref 217)), none, (some (.str (Str.ofString "NoOrder") 450)), (some (.str (Str.ofString "NoOrder") 458)), (some (.builtin "ValueError.__new__")), (some (.bool true))]⟩) ::
  (nat_lit 229, ⟨(.type "tuple"), none, (.seq #[(.ref 24)] 0), #[]⟩) ::
  (nat_lit 236, ⟨(.type "tuple"), none, (.seq #[] 0), #[]⟩) ::
  (nat_lit 237, ⟨(.type "dict"), none, (.dict (List.toArray [⟨PyData.keyHash P (Str.ofString "__module__"), (.str (Str.ofString "__module__") 473), (.str (Str.ofString "mergeblame.errors") 187)⟩, ⟨PyData.keyHash P (Str.ofString "__firstlineno__"), (.str (Str.ofString "__firstlineno__") 477), (.int 51 476)⟩, ⟨PyData.keyHash P (Str.ofString "__static_attributes__"), (.str (Str.ofString "__static_attributes__") 478), (.ref 236)⟩, ⟨PyData.keyHash P (Str.ofString "__doc__"), (.str (Str.ofString "__doc__") 479), .none⟩]) 2), #[]⟩) ::
  (nat_lit 238, ⟨(.type "type"), none, (.cls ⟨(Str.ofString "NoCause"), [(.ref 24)], [(.ref 238), (.ref 24), (.type "ValueError"), (.type "Exception"), (.type "BaseException"), (.type "object")], 237, (Str.ofString "NoCause"), true, [], [], false, none, false⟩), #[(some (.ref 229)), none, (some (.str (Str.ofString "NoCause") 466)), (some (.str (Str.ofString "NoCause") 474)), (some (.builtin "ValueError.__new__")), (some (.bool true))]⟩) ::
  (nat_lit 241, ⟨(.type "tuple"), none, (.seq #[(.ref 24)] 0), #[]⟩) ::
  (nat_lit 248, ⟨(.type "tuple"), none, (.seq #[] 0), #[]⟩) ::
  (nat_lit 249, ⟨(.type "dict"), none, (.dict (List.toArray [⟨PyData.keyHash P (Str.ofString "__module__"), (.str (Str.ofString "__module__") 489), (.str (Str.ofString "mergeblame.errors") 187)⟩, ⟨PyData.keyHash P (Str.ofString "__firstlineno__"), (.str (Str.ofString "__firstlineno__") 493), (.int 53 492)⟩, ⟨PyData.keyHash P (Str.ofString "__static_attributes__"), (.str (Str.ofString "__static_attributes__") 494), (.ref 248)⟩, ⟨PyData.keyHash P (Str.ofString "__doc__"), (.str (Str.ofString "__doc__") 495), .none⟩]) 2), #[]⟩) ::
  (nat_lit 250, ⟨(.type "type"), none, (.cls ⟨(Str.ofString "NoTheory"), [(.ref 24)], [(.ref 250), (.ref 24), (.type "ValueError"), (.type "Exception"), (.type "BaseException"), (.type "object")], 249, (Str.ofString "NoTheory"), true, [], [], false, none, false⟩), #[(some (.ref 241)), none, (some (.str (Str.ofString "NoTheory") 482)), (some (.str (Str.ofString "NoTheory") 490)), (some (.builtin "ValueError.__new__")), (some (.bool true))]⟩) ::
  (nat_lit 253, ⟨(.type "tuple"), none, (.seq #[(.ref 24)] 0), #[]⟩) ::
  (nat_lit 260, ⟨(.type "tuple"), none, (.seq #[] 0), #[]⟩) ::
  (nat_lit 261, ⟨(.type "dict"), none, (.dict (List.toArray [⟨PyData.keyHash P (Str.ofString "__module__"), (.str (Str.ofString "__module__") 505), (.str (Str.ofString "mergeblame.errors") 187)⟩, ⟨PyData.keyHash P (Str.ofString "__firstlineno__"), (.str (Str.ofString "__firstlineno__") 509), (.int 55 508)⟩, ⟨PyData.keyHash P (Str.ofString "__static_attributes__"), (.str (Str.ofString "__static_attributes__") 510), (.ref 260)⟩, ⟨PyData.keyHash P (Str.ofString "__doc__"), (.str (Str.ofString "__doc__") 511), .none⟩]) 2), #[]⟩) ::
  (nat_lit 262, ⟨(.type "type"), none, (.cls ⟨(Str.ofString "NoCase"), [(.ref 24)], [(.ref 262), (.ref 24), (.type "ValueError"), (.type "Exception"), (.type "BaseException"), (.type "object")], 261, (Str.ofString "NoCase"), true, [], [], false, none, false⟩), #[(some (.ref 253)), none, (some (.str (Str.ofString "NoCase") 498)), (some (.str (Str.ofString "NoCase") 506)), (some (.builtin "ValueError.__new__")), (some (.bool true))]⟩) ::
  (nat_lit 265, ⟨(.type "tuple"), none, (.seq #[(.ref 24)] 0), #[]⟩) ::
  (nat_lit 272, ⟨(.type "tuple"), none, (.seq #[] 0), #[]⟩) ::
  (nat_lit 273, ⟨(.type "dict"), none, (.dict (List.toArray [⟨PyData.keyHash P (Str.ofString "__module__"), (.str (Str.ofString "__module__") 521), (.str (Str.ofString "mergeblame.errors") 187)⟩, ⟨PyData.keyHash P (Str.ofString "__firstlineno__"), (.str (Str.ofString "__firstlineno__") 525), (.int 57 524)⟩, ⟨PyData.keyHash P (Str.ofString "__static_attributes__"), (.str (Str.ofString "__static_attributes__") 526), (.ref 272)⟩, ⟨PyData.keyHash P (Str.ofString "__doc__"), (.str (Str.ofString "__doc__") 527), .none⟩]) 2), #[]⟩) ::
  (nat_lit 274, ⟨(.type "type"), none, (.cls ⟨(Str.ofString "NoCosts"), [(.ref 24)], [(.ref 274), (.ref 24), (.type "ValueError"), (.type "Exception"), (.type "BaseException"), (.type "object")], 273, (Str.ofString "NoCosts"), true, [], [], false, none, false⟩), #[(some (.ref 265)), none, (some (.str (Str.ofString "NoCosts") 514)), (some (.str (Str.ofString "NoCosts") 522)), (some (.builtin "ValueError.__new__")), (some (.bool true))]⟩) ::
  (nat_lit 277, ⟨(.type "tuple"), none, (.seq #[(.ref 24)] 0), #[]⟩) ::
  (nat_lit 284, ⟨(.type "tuple"), none, (.seq #[] 0), #[]⟩) ::
  (nat_lit 285, ⟨(.type "dict"), none, (.dict (List.toArray [⟨PyData.keyHash P (Str.ofString "__module__"), (.str (Str.ofString "__module__") 537), (.str (Str.ofString "mergeblame.errors") 187)⟩, ⟨PyData.keyHash P (Str.ofString "__firstlineno__"), (.str (Str.ofString "__firstlineno__") 541), (.int 59 540)⟩, ⟨PyData.keyHash P (Str.ofString "__static_attributes__"), (.str (Str.ofString "__static_attributes__") 542), (.ref 284)⟩, ⟨PyData.keyHash P (Str.ofString "__doc__"), (.str (Str.ofString "__doc__") 543), .none⟩]) 2), #[]⟩) ::
  (nat_lit 286, ⟨(.type "type"), none, (.cls ⟨(Str.ofString "NoLie"), [(.ref 24)], [(.ref 286), (.ref 24), (.type "ValueError"), (.type "Exception"), (.type "BaseException"), (.type "object")], 285, (Str.ofString "NoLie"), true, [], [], false, none, false⟩), #[(some (.ref 277)), none, (some (.str (Str.ofString "NoLie") 530)), (some (.str (Str.ofString "NoLie") 538)), (some (.builtin "ValueError.__new__")), (some (.bool true))]⟩) ::
  (nat_lit 289, ⟨(.type "tuple"), none, (.seq #[(.ref 24)] 0), #[]⟩) ::
  (nat_lit 296, ⟨(.type "tuple"), none, (.seq #[] 0), #[]⟩) ::
  (nat_lit 297, ⟨(.type "dict"), none, (.dict (List.toArray [⟨PyData.keyHash P (Str.ofString "__module__"), (.str (Str.ofString "__module__") 553), (.str (Str.ofString "mergeblame.errors") 187)⟩, ⟨PyData.keyHash P (Str.ofString "__firstlineno__"), (.str (Str.ofString "__firstlineno__") 557), (.int 61 556)⟩, ⟨PyData.keyHash P (Str.ofString "__static_attributes__"), (.str (Str.ofString "__static_attributes__") 558), (.ref 296)⟩, ⟨PyData.keyHash P (Str.ofString "__doc__"), (.str (Str.ofString "__doc__") 559), .none⟩]) 2), #[]⟩) ::
  (nat_lit 298, ⟨(.type "type"), none, (.cls ⟨(Str.ofString "NoLimit"), [(.ref 24)], [(.ref 298), (.ref 24), (.type "ValueError"), (.type "Exception"), (.type "BaseException"), (.type "object")], 297, (Str.ofString "NoLimit"), true, [], [], false, none, false⟩), #[(some (.ref 289)), none, (some (.str (Str.ofString "NoLimit") 546)), (some (.str (Str.ofString "NoLimit") 554)), (some (.builtin "ValueError.__new__")), (some (.bool true))]⟩) ::
  (nat_lit 301, ⟨(.type "tuple"), none, (.seq #[(.ref 24)] 0), #[]⟩) ::
  (nat_lit 308, ⟨(.type "tuple"), none, (.seq #[] 0), #[]⟩) ::
  (nat_lit 309, ⟨(.type "dict"), none, (.dict (List.toArray [⟨PyData.keyHash P (Str.ofString "__module__"), (.str (Str.ofString "__module__") 569), (.str (Str.ofString "mergeblame.errors") 187)⟩, ⟨PyData.keyHash P (Str.ofString "__firstlineno__"), (.str (Str.ofString "__firstlineno__") 573), (.int 63 572)⟩, ⟨PyData.keyHash P (Str.ofString "__static_attributes__"), (.str (Str.ofString "__static_attributes__") 574), (.ref 308)⟩, ⟨PyData.keyHash P (Str.ofString "__doc__"), (.str (Str.ofString "__doc__") 575), .none⟩]) 2), #[]⟩) ::
  (nat_lit 310, ⟨(.type "type"), none, (.cls ⟨(Str.ofString "NoCauses"), [(.ref 24)], [(.ref 310), (.ref 24), (.type "ValueError"), (.type "Exception"), (.type "BaseException"), (.type "object")], 309, (Str.ofString "NoCauses"), true, [], [], false, none, false⟩), #[(some (.ref 301)), none, (some (.str (Str.ofString "NoCauses") 562)), (some (.str (Str.ofString "NoCauses") 570)), (some (.builtin "ValueError.__new__")), (some (.bool true))]⟩) ::
  (nat_lit 313, ⟨(.type "tuple"), none, (.seq #[(.ref 24)] 0), #[]⟩) ::
  (nat_lit 320, ⟨(.type "tuple"), none, (.seq #[] 0), #[]⟩) ::
  (nat_lit 321, ⟨(.type "dict"), none, (.dict (List.toArray [⟨PyData.keyHash P (Str.ofString "__module__"), (.str (Str.ofString "__module__") 585), (.str (Str.ofString "mergeblame.errors") 187)⟩, ⟨PyData.keyHash P (Str.ofString "__firstlineno__"), (.str (Str.ofString "__firstlineno__") 589), (.int 65 588)⟩, ⟨PyData.keyHash P (Str.ofString "__static_attributes__"), (.str (Str.ofString "__static_attributes__") 590), (.ref 320)⟩, ⟨PyData.keyHash P (Str.ofString "__doc__"), (.str (Str.ofString "__doc__") 591), .none⟩]) 2), #[]⟩) ::
  (nat_lit 322, ⟨(.type "type"), none, (.cls ⟨(Str.ofString "NoClaim"), [(.ref 24)], [(.ref 322), (.ref 24), (.type "ValueError"), (.type "Exception"), (.type "BaseException"), (.type "object")], 321, (Str.ofString "NoClaim"), true, [], [], false, none, false⟩), #[(some (.ref 313)), none, (some (.str (Str.ofString "NoClaim") 578)), (some (.str (Str.ofString "NoClaim") 586)), (some (.builtin "ValueError.__new__")), (some (.bool true))]⟩) ::
  (nat_lit 325, ⟨(.type "tuple"), none, (.seq #[(.ref 24)] 0), #[]⟩) ::
  (nat_lit 332, ⟨(.type "tuple"), none, (.seq #[] 0), #[]⟩) ::
  (nat_lit 333, ⟨(.type "dict"), none, (.dict (List.toArray [⟨PyData.keyHash P (Str.ofString "__module__"), (.str (Str.ofString "__module__") 601), (.str (Str.ofString "mergeblame.errors") 187)⟩, ⟨PyData.keyHash P (Str.ofString "__firstlineno__"), (.str (Str.ofString "__firstlineno__") 605), (.int 67 604)⟩, ⟨PyData.keyHash P (Str.ofString "__static_attributes__"), (.str (Str.ofString "__static_attributes__") 606), (.ref 332)⟩, ⟨PyData.keyHash P (Str.ofString "__doc__"), (.str (Str.ofString "__doc__") 607), .none⟩]) 2), #[]⟩) ::
  (nat_lit 334, ⟨(.type "type"), none, (.cls ⟨(Str.ofString "NoChanges"), [(.ref 24)], [(.ref 334), (.ref 24), (.type "ValueError"), (.type "Exception"), (.type "BaseException"), (.type "object")], 333, (Str.ofString "NoChanges"), true, [], [], false, none, false⟩), #[(some (.ref 325)), none, (some (.str (Str.ofString "NoChanges") 594)), (some (.str (Str.ofString "NoChanges") 602)), (some (.builtin "ValueError.__new__")), (some (.bool true))]⟩) ::
  (nat_lit 337, ⟨(.type "tuple"), none, (.seq #[(.ref 24)] 0), #[]⟩) ::
  (nat_lit 344, ⟨(.type "tuple"), none, (.seq #[] 0), #[]⟩) ::
  (nat_lit 345, ⟨(.type "dict"), none, (.dict (List.toArray [⟨PyData.keyHash P (Str.ofString "__module__"), (.str (Str.ofString "__module__") 617), (.str (Str.ofString "mergeblame.errors") 187)⟩, ⟨PyData.keyHash P (Str.ofString "__firstlineno__"), (.str (Str.ofString "__firstlineno__") 621), (.int 69 620)⟩, ⟨PyData.keyHash P (Str.ofString "__static_attributes__"), (.str (Str.ofString "__static_attributes__") 622), (.ref 344)⟩, ⟨PyData.keyHash P (Str.ofString "__doc__"), (.str (Str.ofString "__doc__") 623), .none⟩]) 2), #[]⟩) ::
  (nat_lit 346, ⟨(.type "type"), none, (.cls ⟨(Str.ofString "NoSuspects"), [(.ref 24)], [(.ref 346), (.ref 24), (.type "ValueError"), (.type "Exception"), (.type "BaseException"), (.type "object")], 345, (Str.ofString "NoSuspects"), true, [], [], false, none, false⟩), #[(some (.ref 337)), none, (some (.str (Str.ofString "NoSuspects") 610)), (some (.str (Str.ofString "NoSuspects") 618)), (some (.builtin "ValueError.__new__")), (some (.bool true))]⟩) ::
  (nat_lit 349, ⟨(.type "tuple"), none, (.seq #[(.ref 24)] 0), #[]⟩) ::
  (nat_lit 356, ⟨(.type "tuple"), none, (.seq #[] 0), #[]⟩) ::
  (nat_lit 357, ⟨(.type "dict"), none, (.dict (List.toArray [⟨PyData.keyHash P (Str.ofString "__module__"), (.str (Str.ofString "__module__") 633), (.str (Str.ofString "mergeblame.errors") 187)⟩, ⟨PyData.keyHash P (Str.ofString "__firstlineno__"), (.str (Str.ofString "__firstlineno__") 637), (.int 71 636)⟩, ⟨PyData.keyHash P (Str.ofString "__static_attributes__"), (.str (Str.ofString "__static_attributes__") 638), (.ref 356)⟩, ⟨PyData.keyHash P (Str.ofString "__doc__"), (.str (Str.ofString "__doc__") 639), .none⟩]) 2), #[]⟩) ::
  (nat_lit 358, ⟨(.type "type"), none, (.cls ⟨(Str.ofString "NoState"), [(.ref 24)], [(.ref 358), (.ref 24), (.type "ValueError"), (.type "Exception"), (.type "BaseException"), (.type "object")], 357, (Str.ofString "NoState"), true, [], [], false, none, false⟩), #[(some (.ref 349)), none, (some (.str (Str.ofString "NoState") 626)), (some (.str (Str.ofString "NoState") 634)), (some (.builtin "ValueError.__new__")), (some (.bool true))]⟩) ::
  (nat_lit 361, ⟨(.type "tuple"), none, (.seq #[(.ref 24)] 0), #[]⟩) ::
  (nat_lit 368, ⟨(.type "tuple"), none, (.seq #[] 0), #[]⟩) ::
  (nat_lit 369, ⟨(.type "dict"), none, (.dict (List.toArray [⟨PyData.keyHash P (Str.ofString "__module__"), (.str (Str.ofString "__module__") 649), (.str (Str.ofString "mergeblame.errors") 187)⟩, ⟨PyData.keyHash P (Str.ofString "__firstlineno__"), (.str (Str.ofString "__firstlineno__") 653), (.int 73 652)⟩, ⟨PyData.keyHash P (Str.ofString "__static_attributes__"), (.str (Str.ofString "__static_attributes__") 654), (.ref 368)⟩, ⟨PyData.keyHash P (Str.ofString "__doc__"), (.str (Str.ofString "__doc__") 655), .none⟩]) 2), #[]⟩) ::
  (nat_lit 370, ⟨(.type "type"), none, (.cls ⟨(Str.ofString "NoPlan"), [(.ref 24)], [(.ref 370), (.ref 24), (.type "ValueError"), (.type "Exception"), (.type "BaseException"), (.type "object")], 369, (Str.ofString "NoPlan"), true, [], [], false, none, false⟩), #[(some (.ref 361)), none, (some (.str (Str.ofString "NoPlan") 642)), (some (.str (Str.ofString "NoPlan") 650)), (some (.builtin "ValueError.__new__")), (some (.bool true))]⟩) ::
  (nat_lit 373, ⟨(.type "tuple"), none, (.seq #[(.ref 24)] 0), #[]⟩) ::
  (nat_lit 380, ⟨(.type "tuple"), none, (.seq #[] 0), #[]⟩) ::
  (nat_lit 381, ⟨(.type "dict"), none, (.dict (List.toArray [⟨PyData.keyHash P (Str.ofString "__module__"), (.str (Str.ofString "__module__") 665), (.str (Str.ofString "mergeblame.errors") 187)⟩, ⟨PyData.keyHash P (Str.ofString "__firstlineno__"), (.str (Str.ofString "__firstlineno__") 669), (.int 75 668)⟩, ⟨PyData.keyHash P (Str.ofString "__static_attributes__"), (.str (Str.ofString "__static_attributes__") 670), (.ref 380)⟩, ⟨PyData.keyHash P (Str.ofString "__doc__"), (.str (Str.ofString "__doc__") 671), .none⟩]) 2), #[]⟩) ::
  (nat_lit 382, ⟨(.type "type"), none, (.cls ⟨(Str.ofString "NoNumber"), [(.ref 24)], [(.ref 382), (.ref 24), (.type "ValueError"), (.type "Exception"), (.type "BaseException"), (.type "object")], 381, (Str.ofString "NoNumber"), true, [], [], false, none, false⟩), #[(some (.ref 373)), none, (some (.str (Str.ofString "NoNumber") 658)), (some (.str (Str.ofString "NoNumber") 666)), (some (.builtin "ValueError.__new__")), (some (.bool true))]⟩) ::
  (nat_lit 385, ⟨(.type "tuple"), none, (.seq #[(.ref 24)] 0), #[]⟩) ::
  (nat_lit 392, ⟨(.type "tuple"), none, (.seq #[] 0), #[]⟩) ::
  (nat_lit 393, ⟨(.type "dict"), none, (.dict (List.toArray [⟨PyData.keyHash P (Str.ofString "__module__"), (.str (Str.ofString "__module__") 681), (.str (Str.ofString "mergeblame.errors") 187)⟩, ⟨PyData.keyHash P (Str.ofString "__firstlineno__"), (.str (Str.ofString "__firstlineno__") 685), (.int 77 684)⟩, ⟨PyData.keyHash P (Str.ofString "__static_attributes__"), (.str (Str.ofString "__static_attributes__") 686), (.ref 392)⟩, ⟨PyData.keyHash P (Str.ofString "__doc__"), (.str (Str.ofString "__doc__") 687), .none⟩]) 2), #[]⟩) ::
  (nat_lit 394, ⟨(.type "type"), none, (.cls ⟨(Str.ofString "NothingLeft"), [(.ref 24)], [(.ref 394), (.ref 24), (.type "ValueError"), (.type "Exception"), (.type "BaseException"), (.type "object")], 393, (Str.ofString "NothingLeft"), true, [], [], false, none, false⟩), #[(some (.ref 385)), none, (some (.str (Str.ofString "NothingLeft") 674)), (some (.str (Str.ofString "NothingLeft") 682)), (some (.builtin "ValueError.__new__")), (some (.bool true))]⟩) ::
  (nat_lit 397, ⟨(.type "tuple"), none, (.seq #[] 0), #[]⟩) ::
  (nat_lit 400, ⟨(.type "code"), none, (.fields #[(.str (Str.ofString "_law_begun") 692), (.str (Str.ofString "_law_begun") 693), (.str (Str.ofString "/claim/cut.py") 694), (.int 80 0), (.int 1 0), (.int 0 0), (.int 0 0), (.int 3 0), (.ref 397), (.bool true), (.int 181 0), (.ref 398), .none, .none, .none, (.ref 399), (.int 695 0), (.int 80 0), (.str (Str.ofString "/claim/cut.py") 696)]), #[]⟩) ::
  (nat_lit 401, ⟨(.type "function"), none, (.func ⟨(Str.ofString "_law_begun"), (Str.ofString "_law_begun"), (defArgs (topS 27)), (.stmts (defBody (topS 27))), (defScope (topS 27)), 3, [], .none, .none, .none, (.str (Str.ofString "law_mergeblame_k96_errors_with_their_fields") 690), none, (.ref 400), .none, 0⟩), #[]⟩) ::
  (nat_lit 402, ⟨(.type "tuple"), none, (.seq #[] 0), #[]⟩) ::
  (nat_lit 404, ⟨(.type "tuple"), none, (.seq #[(.str (Str.ofString "_law_draw") 701), (.str (Str.ofString "_law_many") 702), (.str (Str.ofString "_law_found") 703), (.str (Str.ofString "_law_turn") 704), (.str (Str.ofString "_law_lump") 705), (.str (Str.ofString "_law_mixed") 706)] 0), #[]⟩) ::
  (nat_lit 405, ⟨(.type "tuple"), none, (.seq #[] 0), #[]⟩) ::
  (nat_lit 407, ⟨(.type "code"), none, (.fields #[(.str (Str.ofString "_law_next") 698), (.str (Str.ofString "_law_next") 699), (.str (Str.ofString "/claim/cut.py") 700), (.int 83 0), (.int 2 0), (.int 0 0), (.int 0 0), (.int 3 0), (.ref 402), (.bool true), (.int 181 0), (.ref 403), .none, (.ref 404), (.ref 405), (.ref 406), (.int 707 0), (.int 83 0), (.str (Str.ofString "/claim/cut.py") 708)]), #[]⟩) ::
  (nat_lit 408, ⟨(.type "function"), none, (.func ⟨(Str.ofString "_law_next"), (Str.ofString "_law_next"), (defArgs (topS 28)), (.stmts (defBody (topS 28))), (defScope (topS 28)), 3, [], .none, .none, .none, (.str (Str.ofString "law_mergeblame_k96_errors_with_their_fields") 690), none, (.ref 407), .none, 0⟩), #[]⟩) ::
  (nat_lit 409, ⟨(.type "tuple"), none, (.seq #[] 0), #[]⟩) ::
  (nat_lit 411, ⟨(.type "tuple"), none, (.seq #[(.str (Str.ofString "_law_draw") 713), (.str (Str.ofString "_law_some") 714)] 0), #[]⟩) ::
  (nat_lit 412, ⟨(.type "tuple"), none, (.seq #[] 0), #[]⟩) ::
  (nat_lit 414, ⟨(.type "code"), none, (.fields #[(.str (Str.ofString "_law_pick") 710), (.str (Str.ofString "_law_pick") 711), (.str (Str.ofString "/claim/cut.py") 712), (.int 97 0), (.int 2 0), (.int 0 0), (.int 0 0), (.int 3 0), (.ref 409), (.bool true), (.int 181 0), (.ref 410), .none, (.ref 411), (.ref 412), (.ref 413), (.int 715 0), (.int 97 0), (.str (Str.ofString "/claim/cut.py") 716)]), #[]⟩) ::
  (nat_lit 415, ⟨(.type "function"), none, (.func ⟨(Str.ofString "_law_pick"), (Str.ofString "_law_pick"), (defArgs (topS 29)), (.stmts (defBody (topS 29))), (defScope (topS 29)), 3, [], .none, .none, .none, (.str (Str.ofString "law_mergeblame_k96_errors_with_their_fields") 690), none, (.ref 414), .none, 0⟩), #[]⟩) ::
  (nat_lit 416, ⟨(.type "tuple"), none, (.seq #[] 0), #[]⟩) ::
  (nat_lit 418, ⟨(.type "tuple"), none, (.seq #[(.str (Str.ofString "_law_value") 721), (.str (Str.ofString "_law_found") 722)] 0), #[]⟩) ::
  (nat_lit 419, ⟨(.type "tuple"), none, (.seq #[] 0), #[]⟩) ::
  (nat_lit 421, ⟨(.type "code"), none, (.fields #[(.str (Str.ofString "_law_with_fields") 718), (.str (Str.ofString "_law_with_fields") 719), (.str (Str.ofString "/claim/cut.py") 720), (.int 99 0), (.int 1 0), (.int 0 0), (.int 0 0), (.int 3 0), (.ref 416), (.bool true), (.int 181 0), (.ref 417), .none, (.ref 418), (.ref 419), (.ref 420), (.int 723 0), (.int 99 0), (.str (Str.ofString "/claim/cut.py") 724)]), #[]⟩) ::
  (nat_lit 422, ⟨(.type "function"), none, (.func ⟨(Str.ofString "_law_with_fields"), (Str.ofString "_law_with_fields"), (defArgs (topS 30)), (.stmts (defBody (topS 30))), (defScope (topS 30)), 3, [], .none, .none, .none, (.str (Str.ofString "law_mergeblame_k96_errors_with_their_fields") 690), none, (.ref 421), .none, 0⟩), #[]⟩) ::
  (nat_lit 423, ⟨(.type "tuple"), none, (.seq #[] 0), #[]⟩) ::
  (nat_lit 425, ⟨(.type "tuple"), none, (.seq #[(.str (Str.ofString "_law_word") 729), (.str (Str.ofString "_law_found") 730)] 0), #[]⟩) ::
  (nat_lit 426, ⟨(.type "tuple"), none, (.seq #[] 0), #[]⟩) ::
  (nat_lit 428, ⟨(.type "code"), none, (.fields #[(.str (Str.ofString "_law_plain") 726), (.str (Str.ofString "_law_plain") 727), (.str (Str.ofString "/claim/cut.py") 728), (.int 111 0), (.int 1 0), (.int 0 0), (.int 0 0), (.int 3 0), (.ref 423), (.bool true), (.int 181 0), (.ref 424), .none, (.ref 425), (.ref 426), (.ref 427), (.int 731 0), (.int 111 0), (.str (Str.ofString "/claim/cut.py") 732)]), #[]⟩) ::
  (nat_lit 429, ⟨(.type "function"), none, (.func ⟨(Str.ofString "_law_plain"), (Str.ofString "_law_plain"), (defArgs (topS 31)), (.stmts (defBody (topS 31))), (defScope (topS 31)), 3, [], .none, .none, .none, (.str (Str.ofString "law_mergeblame_k96_errors_with_their_fields") 690), none, (.ref 428), .none, 0⟩), #[]⟩) ::
  (nat_lit 430, ⟨(.type "tuple"), none, (.seq #[] 0), #[]⟩) ::
  (nat_lit 432, ⟨(.type "tuple"), none, (.seq #[(.str (Str.ofString "_law_error") 737), (.str (Str.ofString "_law_found") 738)] 0), #[]⟩) ::
  (nat_lit 433, ⟨(.type "tuple"), none, (.seq #[] 0), #[]⟩) ::
  (nat_lit 435, ⟨(.type "code"), none, (.fields #[(.str (Str.ofString "_law_kinds") 734), (.str (Str.ofString "_law_kinds") 735), (.str (Str.ofString "/claim/cut.py") 736), (.int 115 0), (.int 1 0), (.int 0 0), (.int 0 0), (.int 3 0), (.ref 430), (.bool true), (.int 181 0), (.ref 431), .none, (.ref 432), (.ref 433), (.ref 434), (.int 739 0), (.int 115 0), (.str (Str.ofString "/claim/cut.py") 740)]), #[]⟩) ::
  (nat_lit 436, ⟨(.type "function"), none, (.func ⟨(Str.ofString "_law_kinds"), (Str.ofString "_law_kinds"), (defArgs (topS 32)), (.stmts (defBody (topS 32))), (defScope (topS 32)), 3, [], .none, .none, .none, (.str (Str.ofString "law_mergeblame_k96_errors_with_their_fields") 690), none, (.ref 435), .none, 0⟩), #[]⟩) ::
  (nat_lit 437, ⟨(.type "tuple"), none, (.seq #[] 0), #[]⟩) ::
  (nat_lit 440, ⟨(.type "code"), none, (.fields #[(.str (Str.ofString "law") 742), (.str (Str.ofString "law") 743), (.str (Str.ofString "/claim/cut.py") 744), (.int 124 0), (.int 1 0), (.int 0 0), (.int 0 0), (.int 3 0), (.ref 437), (.bool true), (.int 181 0), (.ref 438), .none, .none, .none, (.ref 439), (.int 745 0), (.int 124 0), (.str (Str.ofString "/claim/cut.py") 746)]), #[]⟩) ::
  (nat_lit 441, ⟨(.type "function"), none, (.func ⟨(Str.ofString "law"), (Str.ofString "law"), (defArgs (topS 33)), (.stmts (defBody (topS 33))), (defScope (topS 33)), 3, [], .none, .none, .none, (.str (Str.ofString "law_mergeblame_k96_errors_with_their_fields") 690), none, (.ref 440), .none, 0⟩), #[]⟩) ::
  []
def headAs : List Addr := ([2, 3, 15, 22, 23, 24, 25, 28, 31, 36, 37, 39, 40, 42, 43, 44, 45, 46, 49, 52, 57, 58, 60, 61, 63] : List Addr) ++ (([64, 65, 66, 67, 70, 73, 78, 79, 81, 82, 84, 85, 86, 87, 88, 91, 94, 99, 100, 102, 103, 105, 106, 107, 108] : List Addr) ++ (([109, 112, 115, 120, 121, 123, 124, 126, 127, 128, 129, 130, 133, 136, 141, 142, 144, 145, 147, 148, 149, 150, 151, 154, 157] : List Addr) ++ (([162, 163, 165, 166, 168, 169, 170, 171, 172, 175, 178, 183, 184, 186, 187, 189, 190, 191, 192, 193, 196, 199, 204, 205, 207] : List Addr) ++ (([208, 210, 211, 212, 213, 214, 217, 224, 225, 226, 229, 236, 237, 238, 241, 248, 249, 250, 253, 260, 261, 262, 265, 272, 273] : List Addr) ++ (([274, 277, 284, 285, 286, 289, 296, 297, 298, 301, 308, 309, 310, 313, 320, 321, 322, 325, 332, 333, 334, 337, 344, 345, 346] : List Addr) ++ (([349, 356, 357, 358, 361, 368, 369, 370, 373, 380, 381, 382, 385, 392, 393, 394, 397, 400, 401, 402, 404, 405, 407, 408, 409] : List Addr) ++ (([411, 412, 414, 415, 416, 418, 419, 421, 422, 423, 425, 426, 428, 429, 430, 432, 433, 435, 436, 437, 440, 441] : List Addr))))))))
def headTs : List Addr := []
abbrev headR : PySem.W.OpenRow := PySem.W.OpenLaw.row PySem.Challenge.rw_mergeblame_k96_errors_with_their_fields
def headI : List Nat := ([1, 2, 3, 4, 5, 6, 7, 8, 9, 10, 11, 12, 13, 14, 15, 16, 17, 18, 19, 20, 21, 22, 23, 24, 25] : List Nat) ++ (([27, 28, 29, 30, 31, 32, 33] : List Nat))
def headQ : Program := PySem.W.view headR.prog headI
def headLoose : List PySem.Str := []
theorem headE : ∀ P, headAs = (headK P).map (·.1) := fun _ => by kernel_rfl
abbrev headH : PySem.W.Hook := PySem.W.kmHook headK headAs headE headTs
abbrev headD : DefRec := HandSHeadRun.topDef headR.prog 33
theorem head_left : LeftO headR.prog headQ headLoose (fun s => xlAt headQ [] s && recOk (RowW.records headR.toRowW) s) (Hook.obs headH) (Hook.val headH) 12734 true := left_oneKm (M := 12034) (by kernel_rfl) (by rfl) (fun s => by kernel_rfl) (by rfl) (fun w os => by kernel_rfl)
end Mb
namespace Mb
open PySem L2
open Evl (Ex)

/-- data: what a value stands for, no heap in it -/
inductive D where
  | non | bl (b : Bool) | int (i : Int) | str (x : Str) | tup (l : List D) | lst (l : List D) | ty (n : String)
  | adr (a : Addr)
  | dic (ks : List Key) (l : List D)
  | dif (ks : List Key) (l : List D)
  | err (C : Addr) (ks : List Str) (l : List D)
  | ins (C : Addr) (ks : List Str) (l : List D)

def D.asBl (d : D) (q : Bool → Prop) : Prop := match d with | .bl k => q k | _ => False
def D.asInt (d : D) (q : Int → Prop) : Prop := match d with | .int k => q k | _ => False
def D.asStr (d : D) (q : Str → Prop) : Prop := match d with | .str k => q k | _ => False
def D.asTup (d : D) (q : List D → Prop) : Prop := match d with | .tup k => q k | _ => False
def D.asLst (d : D) (q : List D → Prop) : Prop := match d with | .lst k => q k | _ => False
@[simp] theorem D.asBl_bl {b : Bool} {q : Bool → Prop} : (D.bl b).asBl q = q b := rfl
@[simp] theorem D.asInt_int {b : Int} {q : Int → Prop} : (D.int b).asInt q = q b := rfl
@[simp] theorem D.asStr_str {b : Str} {q : Str → Prop} : (D.str b).asStr q = q b := rfl
@[simp] theorem D.asTup_tup {b : List D} {q : List D → Prop} : (D.tup b).asTup q = q b := rfl
@[simp] theorem D.asLst_lst {b : List D} {q : List D → Prop} : (D.lst b).asLst q = q b := rfl
theorem D.bl_of {d : D} {q : Bool → Prop} (h : d.asBl q) : ∃ k, d = .bl k ∧ q k := by
  cases d with
  | bl k => exact ⟨k, rfl, h⟩
  | _ => exact h.elim
theorem D.int_of {d : D} {q : Int → Prop} (h : d.asInt q) : ∃ k, d = .int k ∧ q k := by
  cases d with
  | int k => exact ⟨k, rfl, h⟩
  | _ => exact h.elim
theorem D.tup_of {d : D} {q : List D → Prop} (h : d.asTup q) : ∃ k, d = .tup k ∧ q k := by
  cases d with
  | tup k => exact ⟨k, rfl, h⟩
  | _ => exact h.elim
/-- an error that was caught: its class, its own dict -/
abbrev errO (C : Addr) (p : Option Addr) (a : Addr) : HO := .ext fun h => ∃ (oe : Obj) (vs : Array Value), h.get? a = some oe ∧ Zc (.ref C) p oe ∧ oe.data = .fields vs
mutual
inductive Is (K : PySem.W.Frag) (H : Hp) : V → D → Prop
  | non : Is K H .non .non
  | bl (b : Bool) : Is K H (.bl b) (.bl b)
  | int (i : Int) : Is K H (.int i) (.int i)
  | str (x : Str) : Is K H (.str x) (.str x)
  | ty (n : String) : Is K H (.ty n) (.ty n)
  | lst {a : Addr} {xs : List V} {ds : List D} : H a = some (.lst xs) → IsAll K H xs ds → Is K H (.ref a) (.lst ds)
  | tup {a : Addr} {xs : List V} {ds : List D} : SqT K H a xs → IsAll K H xs ds → Is K H (.ref a) (.tup ds)
  | adr (a : Addr) : Is K H (.ref a) (.adr a)
  | dic {a : Addr} {ks : List Key} {xs : List V} {ds : List D} : H a = some (.dK (ks.zip xs)) → IsAll K H xs ds → Is K H (.ref a) (.dic ks ds)
  | dif {a : Addr} {o : Obj} {ks : List Key} {xs : List V} {ds : List D} : H a = some (.frz o (.dK (ks.zip xs))) → IsAll K H xs ds → Is K H (.ref a) (.dif ks ds)
  | err {a C : Addr} {p : Option Addr} {ks : List Str} {xs : List V} {ds : List D} : H a = some (errO C p a) → (∀ q, p = some q → H q = some (.xd (ks.zip xs))) → (p = none ↔ ks = []) → IsAll K H xs ds → Is K H (.ref a) (.err C ks ds)
  | ins {a dx C : Addr} {ks : List Str} {xs : List V} {ds : List D} : H a = some (.ins C dx (ks.zip xs)) → IsAll K H xs ds → Is K H (.ref a) (.ins C ks ds)
inductive IsAll (K : PySem.W.Frag) (H : Hp) : List V → List D → Prop
  | nil : IsAll K H [] []
  | cons {v : V} {vs : List V} {d : D} {ds : List D} : Is K H v d → IsAll K H vs ds → IsAll K H (v :: vs) (d :: ds)
end

section
variable {K : PySem.W.Frag} {H H' : Hp}
mutual
theorem Is.mono (e : Ex H H') : ∀ {v : V} {d : D}, Is K H v d → Is K H' v d
  | _, _, .non => .non
  | _, _, .bl b => .bl b
  | _, _, .int i => .int i
  | _, _, .str x => .str x
  | _, _, .ty n => .ty n
  | _, _, .lst h hs => .lst (e _ _ h) (IsAll.mono e hs)
  | _, _, .tup h hs => .tup (Evl.ex_t e h) (IsAll.mono e hs)
  | _, _, .adr a => .adr a
  | _, _, .dic h hs => .dic (e _ _ h) (IsAll.mono e hs)
  | _, _, .dif h hs => .dif (e _ _ h) (IsAll.mono e hs)
  | _, _, .err h h2 h3 hs => .err (e _ _ h) (fun q z => e _ _ (h2 q z)) h3 (IsAll.mono e hs)
  | _, _, .ins h hs => .ins (e _ _ h) (IsAll.mono e hs)
theorem IsAll.mono (e : Ex H H') : ∀ {vs : List V} {ds : List D}, IsAll K H vs ds → IsAll K H' vs ds
  | _, _, .nil => .nil
  | _, _, .cons h hs => .cons (Is.mono e h) (IsAll.mono e hs)
end
theorem IsAll.length : ∀ {vs : List V} {ds : List D}, IsAll K H vs ds → vs.length = ds.length
  | _, _, .nil => rfl
  | _, _, .cons _ t => congrArg (· + 1) t.length
theorem IsAll.get : ∀ {vs : List V} {ds : List D} {i : Nat} {v : V}, IsAll K H vs ds → vs[i]? = some v → ∃ d, ds[i]? = some d ∧ Is K H v d
  | _, _, 0, _, .cons h _, e => by
    cases e
    exact ⟨_, rfl, h⟩
  | _, _, i + 1, _, .cons _ t, e => IsAll.get (i := i) t e
theorem IsAll.at : ∀ {vs : List V} {ds : List D} {i : Nat} {d : D}, IsAll K H vs ds → ds[i]? = some d → ∃ v, vs[i]? = some v ∧ Is K H v d
  | _, _, 0, _, .cons h _, e => by
    cases e
    exact ⟨_, rfl, h⟩
  | _, _, i + 1, _, .cons _ t, e => IsAll.at (i := i) t e
theorem IsAll.app : ∀ {vs us : List V} {ds es : List D}, IsAll K H vs ds → IsAll K H us es → IsAll K H (vs ++ us) (ds ++ es)
  | _, _, _, _, .nil, s => s
  | _, _, _, _, .cons h t, s => .cons h (t.app s)
theorem IsAll.drop : ∀ {vs : List V} {ds : List D} (n : Nat), IsAll K H vs ds → IsAll K H (vs.drop n) (ds.drop n)
  | _, _, 0, r => r
  | _, _, _ + 1, .nil => .nil
  | _, _, n + 1, .cons _ t => IsAll.drop n t
theorem IsAll.take : ∀ {vs : List V} {ds : List D} (n : Nat), IsAll K H vs ds → IsAll K H (vs.take n) (ds.take n)
  | _, _, 0, _ => .nil
  | _, _, _ + 1, .nil => .nil
  | _, _, n + 1, .cons h t => .cons h (IsAll.take n t)
end

/-! ### what is mutable and shared: a resource, its state in S -/
structure Rs (S : Type) where
  own : Addr → Prop
  inv : S → Hp → Hp → Prop
  loc : ∀ s Hs H H', (∀ b, own b → H' b = H b) → inv s Hs H → inv s Hs H'
  mono : ∀ s Hs Hs' H, Ex Hs Hs' → inv s Hs H → inv s Hs' H
  dom : ∀ s Hs H b, inv s Hs H → own b → ∃ o, H b = some o
/-- less one object -/
noncomputable def offOne (Hs : Hp) (p : Addr) : Hp := by
  classical
  exact fun b => if b = p then none else Hs b
theorem off_ne {Hs : Hp} {p b : Addr} (h : b ≠ p) : offOne Hs p b = Hs b := by
  unfold offOne
  exact if_neg h
/-- what is shared points at no list that was lent -/
class Rs.Flat {S : Type} (ρ : Rs S) : Prop where
  down : ∀ s0 H0 s Hs Hs2 H p, ρ.inv s0 Hs H0 → Hs p = none → (∃ vs, Hs2 p = some (.lst vs)) → Ex Hs Hs2 → ρ.inv s Hs2 H → ρ.inv s (offOne Hs2 p) H
/-- nothing is shared -/
def Rs.none : Rs Unit := ⟨fun _ => False, fun _ _ _ => True, fun _ _ _ _ _ _ => True.intro, fun _ _ _ _ _ _ => True.intro, fun _ _ _ _ _ h => h.elim⟩
instance : Rs.Flat Rs.none := ⟨fun _ _ _ _ _ _ _ _ _ _ _ _ => True.intro⟩
theorem off_ex {Hs Hs2 : Hp} {p : Addr} (e : Ex Hs Hs2) (n : Hs p = Option.none) : Ex Hs (offOne Hs2 p) := fun b o z => by
  have nb : b ≠ p := fun y => by
    rw [y, n] at z
    cases z
  rw [off_ne nb]
  exact e b o z

section
variable {S : Type}
structure Gd (ρ : Rs S) (s : S) (Hs H : Hp) : Prop where
  ex : Ex Hs H
  inv : ρ.inv s Hs H
  off : ∀ b, ρ.own b → Hs b = none
structure Rel (ρ : Rs S) (Hs H Hs' H' : Hp) : Prop where
  s : Ex Hs Hs'
  h : ∀ b o, ¬ ρ.own b → H b = some o → H' b = some o
  n : ∀ b o, H b = some o → Hs b = none → Hs' b = none
  k : ∀ b o, H b = some o → ∃ o', H' b = some o'
variable {ρ : Rs S} {s s' : S} {Hs H Hs' H' Hs2 H2 : Hp}
theorem Rel.refl (Hs H : Hp) : Rel ρ Hs H Hs H := ⟨Ex.refl _, fun _ _ _ h => h, fun _ _ _ h => h, fun _ o h => ⟨o, h⟩⟩
theorem Rel.trans (a : Rel ρ Hs H Hs' H') (b : Rel ρ Hs' H' Hs2 H2) : Rel ρ Hs H Hs2 H2 :=
  ⟨a.s.trans b.s, fun c o n h => b.h c o n (a.h c o n h), fun c o h n => let ⟨o', h'⟩ := a.k c o h; b.n c o' h' (a.n c o h n), fun c o h => let ⟨o', h'⟩ := a.k c o h; b.k c o' h'⟩
theorem Gd.notOwn (g : Gd ρ s Hs H) {p : Addr} (h : H p = none) : ¬ ρ.own p := fun q => by
  obtain ⟨o, e⟩ := ρ.dom s Hs H p g.inv q
  rw [h] at e
  cases e
theorem Gd.freeS (g : Gd ρ s Hs H) {p : Addr} (h : H p = none) : Hs p = none := by
  cases e : Hs p with
  | none => rfl
  | some o =>
    rw [g.ex _ _ e] at h
    cases h
/-- a new object, kept to oneself -/
theorem Gd.put (g : Gd ρ s Hs H) {p : Addr} {o : HO} (h : H p = none) : Gd ρ s Hs (upd H p o) ∧ Rel ρ Hs H Hs (upd H p o) := by
  have e : Ex H (upd H p o) := Ex.new h
  refine ⟨⟨g.ex.trans e, ρ.loc s Hs H _ (fun b hb => upd_ne fun z => g.notOwn h (by rw [← z]; exact hb)) g.inv, g.off⟩, ⟨Ex.refl _, fun b u _ q => e b u q, fun _ _ _ q => q, fun b u q => ⟨u, e b u q⟩⟩⟩
/-- a new object, frozen -/
theorem Gd.new (g : Gd ρ s Hs H) {p : Addr} {o : HO} (h : H p = none) : Gd ρ s (upd Hs p o) (upd H p o) ∧ Rel ρ Hs H (upd Hs p o) (upd H p o) := by
  have e : Ex H (upd H p o) := Ex.new h
  have hs : Hs p = none := g.freeS h
  refine ⟨⟨fun b u q => ?_, ρ.mono s Hs _ _ (Ex.new hs) (ρ.loc s Hs H _ (fun b hb => upd_ne fun z => g.notOwn h (by rw [← z]; exact hb)) g.inv), fun b hb => ?_⟩, ⟨Ex.new hs, fun b u _ q => e b u q, fun b u q n => ?_, fun b u q => ⟨u, e b u q⟩⟩⟩
  · by_cases z : b = p
    · subst z
      rw [upd_same] at q ⊢
      exact q
    · rw [upd_ne z] at q ⊢
      exact g.ex b u q
  · have q : b ≠ p := fun z => g.notOwn h (by rw [← z]; exact hb)
    rw [upd_ne q]
    exact g.off b hb
  · rw [upd_ne (ne_of_none q h)]
    exact n
/-- freezing what is one's own -/
theorem Gd.freeze (g : Gd ρ s Hs H) {p : Addr} {o : HO} (h : H p = some o) (hs : Hs p = none) (hn : ¬ ρ.own p) : Gd ρ s (upd Hs p o) H :=
  ⟨fun b u q => by
    by_cases z : b = p
    · subst z
      rw [upd_same] at q
      rw [h]
      exact q
    · rw [upd_ne z] at q
      exact g.ex b u q, ρ.mono s Hs _ _ (Ex.new hs) g.inv, fun b hb => by
    have q : b ≠ p := fun z => hn (by rw [← z]; exact hb)
    rw [upd_ne q]
    exact g.off b hb⟩
end

/-! ### slots -/
/-- what kind of object is one's own: a list, a dict with these keys -/
inductive Ok where
  | lst | dk (ks : List Key)
@[reducible] def Ok.obj : Ok → List V → HO
  | .lst, vs => .lst vs
  | .dk ks, vs => .dK (ks.zip vs)
@[reducible] def Ok.fz : Ok → List D → D
  | .lst, l => .lst l
  | .dk ks, l => .dic ks l
theorem Ok.is {K : PySem.W.Frag} {H : Hp} {a : Addr} {vs : List V} {l : List D} : ∀ {k : Ok}, H a = some (k.obj vs) → IsAll K H vs l → Is K H (.ref a) (k.fz l)
  | .lst, h, q => .lst h q
  | .dk _, h, q => .dic h q
inductive Sl where
  | emp | dat (d : D) | ow (k : Ok) (l : List D)
abbrev Sl.own (l : List D) : Sl := .ow .lst l
abbrev Ctx := List Sl
@[simp] def Ctx.asDat (Γ : Ctx) (i : Nat) (q : D → Prop) : Prop := match Γ[i]? with | some (.dat d) => q d | _ => False
@[simp] def Ctx.asOwn (Γ : Ctx) (i : Nat) (q : List D → Prop) : Prop := match Γ[i]? with | some (.ow .lst d) => q d | _ => False
theorem Ctx.dat_of {Γ : Ctx} {i : Nat} {q : D → Prop} (h : Γ.asDat i q) : ∃ d, Γ[i]? = some (.dat d) ∧ q d := by
  unfold Ctx.asDat at h
  split at h
  · exact ⟨_, by assumption, h⟩
  · exact h.elim
theorem Ctx.own_of {Γ : Ctx} {i : Nat} {q : List D → Prop} (h : Γ.asOwn i q) : ∃ d, Γ[i]? = some (.own d) ∧ q d := by
  unfold Ctx.asOwn at h
  split at h
  · exact ⟨_, by assumption, h⟩
  · exact h.elim
inductive Res where
  | dat (d : D) | ow (k : Ok) (l : List D)
abbrev Res.own (l : List D) : Res := .ow .lst l
/-- what it is once it is frozen -/
def Res.d : Res → D
  | .dat d => d
  | .ow k l => k.fz l
def Res.asOwn (y : Res) (q : List D → Prop) : Prop := match y with | .ow .lst l => q l | _ => False
@[simp] theorem Res.d_dat {d : D} : (Res.dat d).d = d := rfl
@[simp] theorem Res.d_ow {k : Ok} {l : List D} : (Res.ow k l).d = k.fz l := rfl
@[simp] theorem Ok.fz_lst {l : List D} : Ok.fz .lst l = .lst l := rfl
@[simp] theorem Ok.fz_dk {ks : List Key} {l : List D} : Ok.fz (.dk ks) l = .dic ks l := rfl
@[simp] theorem Res.d_own {d : List D} : (Res.own d).d = .lst d := rfl
@[simp] theorem Res.asOwn_own {l : List D} {q : List D → Prop} : (Res.own l).asOwn q = q l := rfl
theorem Res.own_of {y : Res} {q : List D → Prop} (h : y.asOwn q) : ∃ l, y = .own l ∧ q l := by
  unfold Res.asOwn at h
  split at h
  · exact ⟨_, rfl, h⟩
  · exact h.elim
def Res.sl : Res → Sl
  | .dat d => .dat d
  | .ow k l => .ow k l
@[simp] theorem Res.sl_dat {d : D} : (Res.dat d).sl = .dat d := rfl
@[simp] theorem Res.sl_ow {k : Ok} {l : List D} : (Res.ow k l).sl = .ow k l := rfl
@[simp] theorem Res.sl_own {d : List D} : (Res.own d).sl = .own d := rfl
section
variable {S : Type}
def SlOk (K : PySem.W.Frag) (ρ : Rs S) (H0 Hs H : Hp) : Sl → Option V → Prop
  | .emp, _ => True
  | .dat d, x => ∃ v, x = some v ∧ Is K Hs v d
  | .ow k l, x => ∃ a vs, x = some (.ref a) ∧ H a = some (k.obj vs) ∧ IsAll K Hs vs l ∧ Hs a = none ∧ H0 a = none ∧ ¬ ρ.own a
structure Slots (K : PySem.W.Frag) (ρ : Rs S) (H0 : Hp) (σ : St) (Hs H : Hp) (Γ : Ctx) : Prop where
  len : σ.length = Γ.length
  ok : ∀ (i : Nat) (sl : Sl) (x : Option V), Γ[i]? = some sl → σ[i]? = some x → SlOk K ρ H0 Hs H sl x
  sep : ∀ (i j : Nat) (k k' : Ok) (l l' : List D) (a : Addr), Γ[i]? = some (.ow k l) → Γ[j]? = some (.ow k' l') → σ[i]? = some (some (.ref a)) → σ[j]? = some (some (.ref a)) → i = j
def ResOk (K : PySem.W.Frag) (ρ : Rs S) (H0 Hs H : Hp) (v : V) : Res → Prop
  | .dat d => Is K Hs v d
  | .ow k l => ∃ a vs, v = .ref a ∧ H a = some (k.obj vs) ∧ IsAll K Hs vs l ∧ Hs a = none ∧ H0 a = none ∧ ¬ ρ.own a
/-- an error: its class, the one field that it may have -/
structure Exn where
  cls : Value
  fld : Option (Str × D)
def ExnOk (K : PySem.W.Frag) (Hs : Hp) (x : Exn) (c : Value) (p : Option Addr) : Prop :=
  c = x.cls ∧ match x.fld with
    | none => p = none
    | some (f, d) => ∃ a v, p = some a ∧ Hs a = some (.xd [(f, v)]) ∧ Is K Hs v d

variable {K : PySem.W.Frag} {ρ : Rs S} {s s' : S} {H0 Hs H Hs' H' : Hp} {σ : St} {Γ : Ctx}
theorem Slots.step (h : Slots K ρ H0 σ Hs H Γ) (r : Rel ρ Hs H Hs' H') : Slots K ρ H0 σ Hs' H' Γ := by
  refine ⟨h.len, fun i sl x e1 e2 => ?_, h.sep⟩
  have q := h.ok i sl x e1 e2
  cases sl with
  | emp => exact True.intro
  | dat d =>
    obtain ⟨v, e, q⟩ := q
    exact ⟨v, e, q.mono r.s⟩
  | ow k l =>
    obtain ⟨a, vs, e, ha, hv, hn, h0, ho⟩ := q
    exact ⟨a, vs, e, r.h _ _ ho ha, hv.mono r.s, r.n _ _ ha hn, h0, ho⟩
theorem Slots.get (h : Slots K ρ H0 σ Hs H Γ) {i : Nat} {d : D} (e : Γ[i]? = some (.dat d)) : ∃ v, σ[i]? = some (some v) ∧ Is K Hs v d := by
  have hl : i < σ.length := by
    rw [h.len]
    exact (List.getElem?_eq_some_iff.mp e).1
  obtain ⟨v, q, r⟩ := h.ok i _ _ e (List.getElem?_eq_getElem hl)
  refine ⟨v, ?_, r⟩
  rw [List.getElem?_eq_getElem hl, q]
theorem Slots.getOwn (h : Slots K ρ H0 σ Hs H Γ) {i : Nat} {k : Ok} {l : List D} (e : Γ[i]? = some (.ow k l)) : ∃ a vs, σ[i]? = some (some (.ref a)) ∧ H a = some (k.obj vs) ∧ IsAll K Hs vs l ∧ Hs a = none ∧ H0 a = none ∧ ¬ ρ.own a := by
  have hl : i < σ.length := by
    rw [h.len]
    exact (List.getElem?_eq_some_iff.mp e).1
  obtain ⟨a, vs, q, r⟩ := h.ok i _ _ e (List.getElem?_eq_getElem hl)
  refine ⟨a, vs, ?_, r⟩
  rw [List.getElem?_eq_getElem hl, q]
theorem Slots.set (h : Slots K ρ H0 σ Hs H Γ) {i : Nat} {v : V} {d : D} (q : Is K Hs v d) : Slots K ρ H0 (σ.set i (some v)) Hs H (Γ.set i (.dat d)) := by
  refine ⟨by rw [List.length_set, List.length_set, h.len], fun j sl x e1 e2 => ?_, fun j k m m' l l' a e1 e2 e3 e4 => ?_⟩
  · by_cases z : i = j
    · subst z
      rw [List.getElem?_set] at e1 e2
      simp only [if_true] at e1 e2
      split at e1
      · split at e2
        · cases e1
          cases e2
          exact ⟨v, rfl, q⟩
        · cases e2
      · cases e1
    · rw [List.getElem?_set_ne z] at e1 e2
      exact h.ok j sl x e1 e2
  · have nj : i ≠ j := fun z => by
      subst z
      rw [List.getElem?_set] at e1
      simp only [if_true] at e1
      split at e1 <;> cases e1
    have nk : i ≠ k := fun z => by
      subst z
      rw [List.getElem?_set] at e2
      simp only [if_true] at e2
      split at e2 <;> cases e2
    rw [List.getElem?_set_ne nj] at e1 e3
    rw [List.getElem?_set_ne nk] at e2 e4
    exact h.sep j k m m' l l' a e1 e2 e3 e4
theorem Slots.wipe1 (h : Slots K ρ H0 σ Hs H Γ) (i : Nat) (x : Option V) : Slots K ρ H0 (σ.set i x) Hs H (Γ.set i .emp) := by
  refine ⟨by rw [List.length_set, List.length_set, h.len], fun j sl x e1 e2 => ?_, fun j k m m' l l' a e1 e2 e3 e4 => ?_⟩
  · by_cases z : i = j
    · subst z
      rw [List.getElem?_set] at e1
      simp only [if_true] at e1
      split at e1
      · cases e1
        exact True.intro
      · cases e1
    · rw [List.getElem?_set_ne z] at e1 e2
      exact h.ok j sl x e1 e2
  · have nj : i ≠ j := fun z => by
      subst z
      rw [List.getElem?_set] at e1
      simp only [if_true] at e1
      split at e1 <;> cases e1
    have nk : i ≠ k := fun z => by
      subst z
      rw [List.getElem?_set] at e2
      simp only [if_true] at e2
      split at e2 <;> cases e2
    rw [List.getElem?_set_ne nj] at e1 e3
    rw [List.getElem?_set_ne nk] at e2 e4
    exact h.sep j k m m' l l' a e1 e2 e3 e4
/-- a list of one's own goes into slot i; no other slot has it -/
theorem Slots.setOwn (h : Slots K ρ H0 σ Hs H Γ) {i : Nat} {a : Addr} {k : Ok} {vs : List V} {l : List D} (ha : H a = some (k.obj vs)) (q : IsAll K Hs vs l) (hn : Hs a = none) (h0 : H0 a = none) (ho : ¬ ρ.own a)
    (hd : ∀ (j : Nat) (k' : Ok) (l' : List D), j ≠ i → Γ[j]? = some (.ow k' l') → σ[j]? ≠ some (some (.ref a))) : Slots K ρ H0 (σ.set i (some (.ref a))) Hs H (Γ.set i (.ow k l)) := by
  refine ⟨by rw [List.length_set, List.length_set, h.len], fun j sl x e1 e2 => ?_, fun j k' m1 m2 l1 l2 b e1 e2 e3 e4 => ?_⟩
  · by_cases z : i = j
    · subst z
      rw [List.getElem?_set] at e1 e2
      simp only [if_true] at e1 e2
      split at e1
      · split at e2
        · cases e1
          cases e2
          exact ⟨a, vs, rfl, ha, q, hn, h0, ho⟩
        · cases e2
      · cases e1
    · rw [List.getElem?_set_ne z] at e1 e2
      exact h.ok j sl x e1 e2
  · by_cases zj : i = j
    · by_cases zk : i = k'
      · rw [← zj, ← zk]
      · rw [List.getElem?_set_ne zk] at e2 e4
        subst zj
        rw [List.getElem?_set] at e3
        simp only [if_true] at e3
        split at e3
        · cases e3
          exact absurd e4 (hd k' m2 l2 (Ne.symm zk) e2)
        · cases e3
    · by_cases zk : i = k'
      · rw [List.getElem?_set_ne zj] at e1 e3
        subst zk
        rw [List.getElem?_set] at e4
        simp only [if_true] at e4
        split at e4
        · cases e4
          exact absurd e3 (hd j m1 l1 (Ne.symm zj) e1)
        · cases e4
      · rw [List.getElem?_set_ne zj] at e1 e3
        rw [List.getElem?_set_ne zk] at e2 e4
        exact h.sep j k' m1 m2 l1 l2 b e1 e2 e3 e4
/-- the list at slot i changes -/
theorem Slots.mut (h : Slots K ρ H0 σ Hs H Γ) {i : Nat} {a : Addr} {k k0 : Ok} {vs : List V} {l l0 : List D} (hi : Γ[i]? = some (.ow k0 l0)) (hσ : σ[i]? = some (some (.ref a))) (q : IsAll K Hs vs l) : Slots K ρ H0 σ Hs (upd H a (k.obj vs)) (Γ.set i (.ow k l)) := by
  have own := h.getOwn hi
  obtain ⟨a', vs', e', ha', _, hn, h0, ho⟩ := own
  rw [hσ] at e'
  cases e'
  refine ⟨by rw [List.length_set, h.len], fun j sl x e1 e2 => ?_, fun j k' m1 m2 l1 l2 b e1 e2 e3 e4 => ?_⟩
  · by_cases z : i = j
    · subst z
      rw [List.getElem?_set] at e1
      simp only [if_true] at e1
      rw [hσ] at e2
      cases e2
      split at e1
      · cases e1
        exact ⟨a, vs, rfl, upd_same, q, hn, h0, ho⟩
      · cases e1
    · rw [List.getElem?_set_ne z] at e1
      have r := h.ok j sl x e1 e2
      cases sl with
      | emp => exact True.intro
      | dat d => exact r
      | ow k1 l1 =>
        obtain ⟨b, ws, e, hb, hw, n1, n2, n3⟩ := r
        have nb : b ≠ a := fun y => by
          subst y
          exact z (h.sep i j k0 k1 l0 l1 b hi e1 hσ (by rw [e2, e]))
        exact ⟨b, ws, e, by rw [upd_ne nb]; exact hb, hw, n1, n2, n3⟩
  · have f : ∀ (m : Nat) (km : Ok) (lm : List D), (Γ.set i (Sl.ow k l))[m]? = some (Sl.ow km lm) → ∃ k' l', Γ[m]? = some (Sl.ow k' l') := fun m km lm e => by
      by_cases z : i = m
      · subst z
        exact ⟨k0, l0, hi⟩
      · rw [List.getElem?_set_ne z] at e
        exact ⟨km, lm, e⟩
    obtain ⟨_, _, f1⟩ := f j m1 l1 e1
    obtain ⟨_, _, f2⟩ := f k' m2 l2 e2
    exact h.sep j k' _ _ _ _ b f1 f2 e3 e4
/-- what is known less -/
def Sl.le : Sl → Sl → Prop
  | .emp, _ => True
  | a, b => a = b
def Ctx.le : Ctx → Ctx → Prop
  | [], [] => True
  | a :: r, b :: r' => a.le b ∧ Ctx.le r r'
  | _, _ => False
theorem Ctx.le_len : ∀ {a b : Ctx}, Ctx.le a b → a.length = b.length
  | [], [], _ => rfl
  | _ :: _, _ :: _, h => congrArg (· + 1) (Ctx.le_len h.2)
theorem Ctx.le_at : ∀ {a b : Ctx}, Ctx.le a b → ∀ {i : Nat} {sl : Sl}, a[i]? = some sl → sl = .emp ∨ b[i]? = some sl
  | x :: _, y :: _, h, 0, sl, e => by
    cases e
    cases x with
    | emp => exact Or.inl rfl
    | dat d => exact Or.inr (congrArg some (Eq.symm h.1))
    | ow k d => exact Or.inr (congrArg some (Eq.symm h.1))
  | _ :: _, _ :: _, h, i + 1, sl, e => Ctx.le_at h.2 (i := i) e
theorem Slots.weak (h : Slots K ρ H0 σ Hs H Γ) {Γ' : Ctx} (l : Ctx.le Γ' Γ) : Slots K ρ H0 σ Hs H Γ' := by
  refine ⟨by rw [h.len, Ctx.le_len l], fun i sl x e1 e2 => ?_, fun i j m1 m2 l1 l2 a e1 e2 e3 e4 => ?_⟩
  · rcases Ctx.le_at l e1 with rfl | e
    · exact True.intro
    · exact h.ok i sl x e e2
  · rcases Ctx.le_at l e1 with z | f1
    · cases z
    · rcases Ctx.le_at l e2 with z | f2
      · cases z
      · exact h.sep i j m1 m2 l1 l2 a f1 f2 e3 e4
end
end Mb
namespace Mb
open PySem L2
open Evl (Ex)
section
variable {S : Type}
/-- weakest preconditions: of an expression, a fresh list, arguments, a test -/
abbrev WE (S : Type) := Ctx → S → (D → S → Prop) → (Exn → S → Prop) → Prop
abbrev WO (S : Type) := Ctx → S → (List D → S → Prop) → (Exn → S → Prop) → Prop
abbrev WT (S : Type) := Ctx → S → (Bool → S → Prop) → (Exn → S → Prop) → Prop
/-- what is wanted of errors by the code around -/
def XOk (K : PySem.W.Frag) (ρ : Rs S) (W : WX) (σ : St) (Hs H : Hp) (r : Exn → S → Prop) : Prop :=
  ∀ (x : Exn) (c : Value) (p : Option Addr) (s' : S) (Hs' H' : Hp), Rel ρ Hs H Hs' H' → Gd ρ s' Hs' H' → ExnOk K Hs' x c p → r x s' → W c p σ H'
theorem XOk.step {K : PySem.W.Frag} {ρ : Rs S} {W : WX} {σ : St} {Hs H Hs' H' : Hp} {r : Exn → S → Prop} (h : XOk K ρ W σ Hs H r) (a : Rel ρ Hs H Hs' H') : XOk K ρ W σ Hs' H' r :=
  fun x c p s' Hs2 H2 b g e q => h x c p s' Hs2 H2 (a.trans b) g e q
def tW (K : PySem.W.Frag) (ρ : Rs S) (W : WX) (w : WE S) : TE := fun σ H Q => ∃ (H0 Hs : Hp) (Γ : Ctx) (s : S) (q : D → S → Prop) (r : Exn → S → Prop),
  Gd ρ s Hs H ∧ Slots K ρ H0 σ Hs H Γ ∧ w Γ s q r ∧ (∀ v d s' Hs' H', Rel ρ Hs H Hs' H' → Gd ρ s' Hs' H' → Is K Hs' v d → q d s' → Q v H') ∧ XOk K ρ W σ Hs H r
def tWo (K : PySem.W.Frag) (ρ : Rs S) (W : WX) (w : WO S) : TE := fun σ H Q => ∃ (H0 Hs : Hp) (Γ : Ctx) (s : S) (q : List D → S → Prop) (r : Exn → S → Prop),
  Gd ρ s Hs H ∧ Slots K ρ H0 σ Hs H Γ ∧ w Γ s q r ∧ (∀ a vs l s' Hs' H', Rel ρ Hs H Hs' H' → Gd ρ s' Hs' H' → H' a = some (.lst vs) → IsAll K Hs' vs l → Hs' a = none → H a = none → q l s' → Q (.ref a) H') ∧ XOk K ρ W σ Hs H r
def tWa (K : PySem.W.Frag) (ρ : Rs S) (W : WX) (w : WO S) : TA := fun σ H Q => ∃ (H0 Hs : Hp) (Γ : Ctx) (s : S) (q : List D → S → Prop) (r : Exn → S → Prop),
  Gd ρ s Hs H ∧ Slots K ρ H0 σ Hs H Γ ∧ w Γ s q r ∧ (∀ vs l s' Hs' H', Rel ρ Hs H Hs' H' → Gd ρ s' Hs' H' → IsAll K Hs' vs l → q l s' → Q vs H') ∧ XOk K ρ W σ Hs H r
def tWt (K : PySem.W.Frag) (ρ : Rs S) (W : WX) (w : WT S) : TT := fun σ H Q => ∃ (H0 Hs : Hp) (Γ : Ctx) (s : S) (q : Bool → S → Prop) (r : Exn → S → Prop),
  Gd ρ s Hs H ∧ Slots K ρ H0 σ Hs H Γ ∧ w Γ s q r ∧ (∀ b s' Hs' H', Rel ρ Hs H Hs' H' → Gd ρ s' Hs' H' → q b s' → Q b H') ∧ XOk K ρ W σ Hs H r
structure ME (X : Cx) (ρ : Rs S) (W : WX) (e : Expr) (w : WE S) : Prop where
  pe : PE X e (tW X.K ρ W w)
structure MO (X : Cx) (ρ : Rs S) (W : WX) (e : Expr) (w : WO S) : Prop where
  pe : PE X e (tWo X.K ρ W w)
structure MA (X : Cx) (ρ : Rs S) (W : WX) (es : List Expr) (w : WO S) : Prop where
  pa : PA X es (tWa X.K ρ W w)
structure MT (X : Cx) (ρ : Rs S) (W : WX) (e : Expr) (w : WT S) : Prop where
  pt : PT X e (tWt X.K ρ W w)
structure MW (X : Cx) (ρ : Rs S) (W : WX) (e : Expr) (w : WT S) : Prop where
  pw : PW X e (tWt X.K ρ W w)
variable {X : Cx} {ρ : Rs S} {W : WX} {e a b c : Expr} {wa wb wc : WE S} {pos : Pos}

theorem _root_.L2.PE.imp {X : Cx} {e : Expr} {t t' : TE} (h : PE X e t) (f : ∀ σ H Q, t' σ H Q → t σ H Q) : PE X e t' := ⟨fun pins s σ H Q I q => h.run pins s σ H Q I (f _ _ _ q)⟩
theorem _root_.L2.PA.imp {X : Cx} {es : List Expr} {t t' : TA} (h : PA X es t) (f : ∀ σ H Q, t' σ H Q → t σ H Q) : PA X es t' := ⟨fun pos pins s σ H Q I q => h.run pos pins s σ H Q I (f _ _ _ q)⟩
theorem _root_.L2.PT.imp {X : Cx} {e : Expr} {t t' : TT} (h : PT X e t) (f : ∀ σ H Q, t' σ H Q → t σ H Q) : PT X e t' := ⟨fun pins s σ H Q I q => h.run pins s σ H Q I (f _ _ _ q)⟩
theorem _root_.L2.PW.imp {X : Cx} {e : Expr} {t t' : TT} (h : PW X e t) (f : ∀ σ H Q, t' σ H Q → t σ H Q) : PW X e t' := ⟨fun w pins s σ H Q I q => h.run w pins s σ H Q I (f _ _ _ q)⟩

/-! ### names, constants -/
@[simp] def wVar (i : Nat) : WE S := fun Γ s q _ => Γ.asDat i fun d => q d s
theorem me_var (i : Nat) {x : Str} (hN : X.N[i]? = some x := by rfl) (hv : Vis X.env.scope x := by first | exact Or.inl rfl | exact Or.inr (Or.inl rfl) | exact Or.inr (Or.inr rfl)) (hd : (x == ("__debug__" : Str)) = false := by decide)
    (hcd : (x == ("__classdict__" : Str)) = false := by decide) : ME X ρ W (.Name x pos) (wVar i) :=
  ⟨(pv i hN hv hd hcd).imp fun σ H Q ⟨H0, Hs, Γ, s, q, r, G, L, h, k, _⟩ => by
    replace h := Ctx.dat_of h
    obtain ⟨d, e, h⟩ := h
    obtain ⟨v, e1, i1⟩ := L.get e
    exact ⟨v, e1, k v d s Hs H (Rel.refl _ _) G i1 h⟩⟩
@[simp] def wC (d : D) : WE S := fun _ s q _ => q d s
theorem me_val {v : V} {d : D} (h : PE X e (tC v)) (hd : ∀ H, Is X.K H v d) : ME X ρ W e (wC d) :=
  ⟨h.imp fun σ H Q ⟨H0, Hs, Γ, s, q, r, G, L, h, k, _⟩ => k v d s Hs H (Rel.refl _ _) G (hd Hs) h⟩
theorem me_int {i : Int} {j : Nat} : ME X ρ W (.Constant (.int i) j pos) (wC (.int i)) := me_val pe_int fun _ => .int i
theorem me_bl {i : Bool} {j : Nat} : ME X ρ W (.Constant (.bool i) j pos) (wC (.bl i)) := me_val pe_bl fun _ => .bl i
theorem me_non {j : Nat} : ME X ρ W (.Constant .none j pos) (wC .non) := me_val pe_non fun _ => .non
theorem me_str {i : Str} {j : Nat} : ME X ρ W (.Constant (.str i) j pos) (wC (.str i)) := me_val pe_str fun _ => .str i

/-! ### operators by data -/
abbrev G2 := D → D → (D → Prop) → Prop
def SndB (K : PySem.W.Frag) (r : R2) (g : G2) : Prop := ∀ (Hs H : Hp) (x y : V) (d1 d2 : D) (q : D → Prop) (Q : VK), Ex Hs H → Is K Hs x d1 → Is K Hs y d2 → g d1 d2 q →
  (∀ v d, q d → Is K Hs v d → Q v H) → (∀ p o d, q d → H p = none → Is K (upd Hs p o) (.ref p) d → Q (.ref p) (upd H p o)) → r x y H Q
@[simp] def wBin (g : G2) (wa wb : WE S) : WE S := fun Γ s q r => wa Γ s (fun d1 s1 => wb Γ s1 (fun d2 s2 => g d1 d2 fun d => q d s2) r) r
theorem me_bin2 {r : R2} {g : G2} {e : Expr} {f : TE → TE → TE} (hpe : ∀ ta tb, PE X a ta → PE X b tb → PE X e (tOp r ta tb)) (hs : SndB X.K r g) (ha : ME X ρ W a wa) (hb : ME X ρ W b wb) : ME X ρ W e (wBin g wa wb) :=
  ⟨(hpe _ _ ha.pe hb.pe).imp fun σ H Q ⟨H0, Hs, Γ, s, q, rx, G, L, h, k, x⟩ =>
    ⟨H0, Hs, Γ, s, _, rx, G, L, h, fun v d s1 Hs1 H1 R1 G1 I1 h1 => ⟨H0, Hs1, Γ, s1, _, rx, G1, L.step R1, h1, fun u d' s2 Hs2 H2 R2 G2 I2 h2 =>
      hs Hs2 H2 v u d d' _ _ G2.ex (I1.mono R2.s) I2 h2 (fun z d3 h3 i3 => k z d3 s2 Hs2 H2 (R1.trans R2) G2 i3 h3) (fun p o d3 h3 hp i3 => by
        have n := G2.new (o := o) hp
        exact k _ d3 s2 _ _ ((R1.trans R2).trans n.2) n.1 i3 h3), x.step R1⟩, x⟩⟩
theorem me_op {r : R2} {g : G2} {op : Operator} (ho : OpR X (binaryOp op) r) (hs : SndB X.K r g) (ha : ME X ρ W a wa) (hb : ME X ρ W b wb) : ME X ρ W (.BinOp a op b pos) (wBin g wa wb) :=
  me_bin2 (f := fun _ t => t) (fun _ _ p q => pe_op ho p q) hs ha hb
theorem me_cmp {r : R2} {g : G2} {op : CmpOp} (ho : OpR X (compareOp op) r) (hs : SndB X.K r g) (ha : ME X ρ W a wa) (hb : ME X ρ W b wb) (hm : behindInMarks op b = false := by first | exact nomark _ | rfl) : ME X ρ W (.Compare a [op] [b] pos) (wBin g wa wb) :=
  me_bin2 (f := fun _ t => t) (fun _ _ p q => pe_cmpR ho p q hm) hs ha hb
/-- a < b < c -/
@[simp] def wChain (g g' : G2) (wa wb wc : WE S) : WE S := fun Γ s q r => wa Γ s (fun d1 s1 => wb Γ s1 (fun d2 s2 => g d1 d2 fun d => d.asBl fun k => if k = true then wc Γ s2 (fun d3 s3 => g' d2 d3 fun d => q d s3) r else q (.bl false) s2) r) r
/-! ### tests -/
@[simp] def wTest (wa : WE S) : WT S := fun Γ s q r => wa Γ s (fun d s1 => d.asBl fun k => q k s1) r
theorem tW_test {K : PySem.W.Frag} {σ : St} {H : Hp} {Q : Bool → Hp → Prop} (h : tWt K ρ W (wTest wa) σ H Q) : tW K ρ W wa σ H fun x H1 => ∃ c, x = .bl c ∧ Q c H1 := by
  obtain ⟨H0, Hs, Γ, s, q, r, G, L, h, k, x⟩ := h
  refine ⟨H0, Hs, Γ, s, _, r, G, L, h, fun v d s1 Hs1 H1 R1 G1 I1 h1 => ?_, x⟩
  replace h1 := D.bl_of h1
  obtain ⟨c, e, h1⟩ := h1
  subst e
  cases I1
  exact ⟨c, rfl, k c s1 Hs1 H1 R1 G1 h1⟩
theorem mt_val (ha : ME X ρ W e wa) (he : ∀ whole, isTrue e X.env whole = (do let v ← whole; standAt e.pos; holding [v] (truthy v)) := by intro _; rfl) : MT X ρ W e (wTest wa) :=
  ⟨(pt_val ha.pe he).imp fun _ _ _ h => tW_test h⟩
theorem mt_cmp {r : R2} {g : G2} {op : CmpOp} (ho : OpR X (compareOp op) r) (hs : SndB X.K r g) (ha : ME X ρ W a wa) (hb : ME X ρ W b wb) (hm : behindInMarks op b = false := by first | exact nomark _ | rfl) : MT X ρ W (.Compare a [op] [b] pos) (wTest (wBin g wa wb)) := by
  refine ⟨(pt_cmpR ho ha.pe hb.pe hm).imp fun σ H Q h => ?_⟩
  obtain ⟨H0, Hs, Γ, s, q, rx, G, L, h, k, x⟩ := h
  refine ⟨H0, Hs, Γ, s, _, rx, G, L, h, fun v d s1 Hs1 H1 R1 G1 I1 h1 => ⟨H0, Hs1, Γ, s1, _, rx, G1, L.step R1, h1, fun u d' s2 Hs2 H2 R2 G2 I2 h2 =>
      hs Hs2 H2 v u d d' _ _ G2.ex (I1.mono R2.s) I2 h2 (fun z d3 h3 i3 => ?_) (fun p o d3 h3 hp i3 => ?_), x.step R1⟩, x⟩
  · replace h3 := D.bl_of h3
    obtain ⟨c, e, h3⟩ := h3
    subst e
    cases i3
    exact ⟨c, rfl, k c s2 Hs2 H2 (R1.trans R2) G2 h3⟩
  · replace h3 := D.bl_of h3
    obtain ⟨c, e, h3⟩ := h3
    subst e
    cases i3
variable {ta tb : WT S} {rest : List Expr}
@[simp] def wAnd (ta tb : WT S) : WT S := fun Γ s q r => ta Γ s (fun k s1 => if k = true then tb Γ s1 q r else q false s1) r
@[simp] def wOr (ta tb : WT S) : WT S := fun Γ s q r => ta Γ s (fun k s1 => if k = true then q true s1 else tb Γ s1 q r) r
@[simp] def wNot (ta : WT S) : WT S := fun Γ s q r => ta Γ s (fun k s1 => q (!k) s1) r
theorem MW.mt (h : MW X ρ W e ta) : MT X ρ W e ta := ⟨h.pw.pt⟩
theorem mw_and1 (ha : MT X ρ W a ta) : MW X ρ W (.BoolOp .And [a] pos) ta := ⟨pw_and1 ha.pt⟩
theorem mw_or1 (ha : MT X ρ W a ta) : MW X ρ W (.BoolOp .Or [a] pos) ta := ⟨pw_or1 ha.pt⟩
theorem mw_and (ha : MT X ρ W a ta) (hb : MW X ρ W (.BoolOp .And (b :: rest) pos) tb) : MW X ρ W (.BoolOp .And (a :: b :: rest) pos) (wAnd ta tb) :=
  ⟨(pw_and ha.pt hb.pw).imp fun σ H Q ⟨H0, Hs, Γ, s, q, rx, G, L, h, k, x⟩ => ⟨H0, Hs, Γ, s, _, rx, G, L, h, fun c s1 Hs1 H1 R1 G1 h1 => by
    cases c with
    | true => exact ⟨H0, Hs1, Γ, s1, q, rx, G1, L.step R1, h1, fun c2 s2 Hs2 H2 R2 G2 h2 => k c2 s2 Hs2 H2 (R1.trans R2) G2 h2, x.step R1⟩
    | false => exact k false s1 Hs1 H1 R1 G1 h1, x⟩⟩
theorem mw_or (ha : MT X ρ W a ta) (hb : MW X ρ W (.BoolOp .Or (b :: rest) pos) tb) : MW X ρ W (.BoolOp .Or (a :: b :: rest) pos) (wOr ta tb) :=
  ⟨(pw_or ha.pt hb.pw).imp fun σ H Q ⟨H0, Hs, Γ, s, q, rx, G, L, h, k, x⟩ => ⟨H0, Hs, Γ, s, _, rx, G, L, h, fun c s1 Hs1 H1 R1 G1 h1 => by
    cases c with
    | true => exact k true s1 Hs1 H1 R1 G1 h1
    | false => exact ⟨H0, Hs1, Γ, s1, q, rx, G1, L.step R1, h1, fun c2 s2 Hs2 H2 R2 G2 h2 => k c2 s2 Hs2 H2 (R1.trans R2) G2 h2, x.step R1⟩, x⟩⟩
theorem mt_not (ha : MT X ρ W a ta) : MT X ρ W (.UnaryOp .Not a pos) (wNot ta) :=
  ⟨(pt_not ha.pt).imp fun σ H Q ⟨H0, Hs, Γ, s, q, rx, G, L, h, k, x⟩ => ⟨H0, Hs, Γ, s, _, rx, G, L, h, fun c s1 Hs1 H1 R1 G1 h1 => k (!c) s1 Hs1 H1 R1 G1 h1, x⟩⟩
/-- and, or, not as values -/
@[simp] def wAndV (wa wb : WE S) : WE S := fun Γ s q r => wa Γ s (fun d s1 => d.asBl fun k => if k = true then wb Γ s1 q r else q (.bl false) s1) r
@[simp] def wOrV (wa wb : WE S) : WE S := fun Γ s q r => wa Γ s (fun d s1 => d.asBl fun k => if k = true then q (.bl true) s1 else wb Γ s1 q r) r
@[simp] def wNotV (wa : WE S) : WE S := fun Γ s q r => wa Γ s (fun d s1 => d.asBl fun k => q (.bl (!k)) s1) r
@[simp] def wIf (t : WT S) (wa wb : WE S) : WE S := fun Γ s q r => t Γ s (fun k s1 => if k = true then wa Γ s1 q r else wb Γ s1 q r) r
theorem me_if {t : WT S} (hc : MT X ρ W c t) (ha : ME X ρ W a wa) (hb : ME X ρ W b wb) : ME X ρ W (.IfExp c a b pos) (wIf t wa wb) :=
  ⟨(pe_ifExp hc.pt ha.pe hb.pe).imp fun σ H Q ⟨H0, Hs, Γ, s, q, rx, G, L, h, k, x⟩ => ⟨H0, Hs, Γ, s, _, rx, G, L, h, fun c s1 Hs1 H1 R1 G1 h1 => by
    cases c with
    | true => exact ⟨H0, Hs1, Γ, s1, q, rx, G1, L.step R1, h1, fun v2 d2 s2 Hs2 H2 R2 G2 I2 h2 => k v2 d2 s2 Hs2 H2 (R1.trans R2) G2 I2 h2, x.step R1⟩
    | false => exact ⟨H0, Hs1, Γ, s1, q, rx, G1, L.step R1, h1, fun v2 d2 s2 Hs2 H2 R2 G2 I2 h2 => k v2 d2 s2 Hs2 H2 (R1.trans R2) G2 I2 h2, x.step R1⟩, x⟩⟩

/-! ### a fresh list is a value, too; arguments, displays -/
@[simp] def wFrz (w : WO S) : WE S := fun Γ s q r => w Γ s (fun l s1 => q (.lst l) s1) r
theorem MO.me {w : WO S} (h : MO X ρ W e w) : ME X ρ W e (wFrz w) :=
  ⟨h.pe.imp fun σ H Q ⟨H0, Hs, Γ, s, q, rx, G, L, h, k, x⟩ => ⟨H0, Hs, Γ, s, _, rx, G, L, h, fun a vs l s1 Hs1 H1 R1 G1 ha hv hn h0 h1 => by
    have no : ¬ ρ.own a := G.notOwn h0
    have e : Ex Hs1 (upd Hs1 a (.lst vs)) := Ex.new hn
    refine k _ (.lst l) s1 (upd Hs1 a (.lst vs)) H1 ⟨R1.s.trans e, R1.h, fun b o q n => ?_, R1.k⟩ (G1.freeze ha hn no) (.lst upd_same (hv.mono e)) h1
    rw [upd_ne (ne_of_none q h0)]
    exact R1.n b o q n, x⟩⟩
@[simp] def wNil : WO S := fun _ s q _ => q [] s
@[simp] def wCons (wa : WE S) (w : WO S) : WO S := fun Γ s q r => wa Γ s (fun d s1 => w Γ s1 (fun l s2 => q (d :: l) s2) r) r
theorem ma_nil : MA X ρ W [] wNil := ⟨pa_nil.imp fun σ H Q ⟨H0, Hs, Γ, s, q, rx, G, L, h, k, x⟩ => k [] [] s Hs H (Rel.refl _ _) G .nil h⟩
theorem ma_cons {es : List Expr} {w : WO S} (ha : ME X ρ W a wa) (hr : MA X ρ W es w) (he : starEach (a :: es) X.env = (false, eval a X.env) :: starEach es X.env := by rfl) : MA X ρ W (a :: es) (wCons wa w) :=
  ⟨(pa_cons ha.pe hr.pa he).imp fun σ H Q ⟨H0, Hs, Γ, s, q, rx, G, L, h, k, x⟩ => ⟨H0, Hs, Γ, s, _, rx, G, L, h, fun v d s1 Hs1 H1 R1 G1 I1 h1 =>
    ⟨H0, Hs1, Γ, s1, _, rx, G1, L.step R1, h1, fun vs l s2 Hs2 H2 R2 G2 I2 h2 => k (v :: vs) (d :: l) s2 Hs2 H2 (R1.trans R2) G2 (.cons (I1.mono R2.s) I2) h2, x.step R1⟩, x⟩⟩
/-- (a, b, ..): at most 100 -/
@[simp] def wTup (w : WO S) : WE S := fun Γ s q r => w Γ s (fun l s1 => l.length ≤ 1000000 ∧ q (.tup l) s1) r
theorem size_le {n : Nat} (h : n ≤ 1000000) : n ≤ sizeLine := Nat.le_trans h (by decide)
theorem me_tup {es : List Expr} {k : Nat} {w : WO S} (h : MA X ρ W es w) : ME X ρ W (.Tuple es k pos) (wTup w) :=
  ⟨(pe_tup h.pa).imp fun σ H Q ⟨H0, Hs, Γ, s, q, rx, G, L, h, k, x⟩ => ⟨H0, Hs, Γ, s, _, rx, G, L, h, fun vs l s1 Hs1 H1 R1 G1 I1 ⟨hl, h1⟩ => ⟨size_le (by rw [I1.length]; exact hl), fun p hp => by
    have n := G1.new (o := .tup vs) hp
    exact k _ _ s1 _ _ (R1.trans n.2) n.1 (.tup (Or.inl (Or.inl upd_same)) (I1.mono n.2.s)) h1⟩, x⟩⟩
@[simp] def wLst (w : WO S) : WO S := fun Γ s q r => w Γ s (fun l s1 => l.length ≤ 1000000 ∧ q l s1) r
theorem mo_lst {es : List Expr} {w : WO S} (h : MA X ρ W es w) : MO X ρ W (.List es pos) (wLst w) :=
  ⟨(pe_lst h.pa).imp fun σ H Q ⟨H0, Hs, Γ, s, q, rx, G, L, h, k, x⟩ => ⟨H0, Hs, Γ, s, _, rx, G, L, h, fun vs l s1 Hs1 H1 R1 G1 I1 ⟨hl, h1⟩ => ⟨size_le (by rw [I1.length]; exact hl), fun p hp => by
    have n := G1.put (o := .lst vs) hp
    refine k p vs l s1 Hs1 _ (R1.trans n.2) n.1 upd_same I1 (G1.freeS hp) ?_ h1
    cases e : H p with
    | none => rfl
    | some o =>
      obtain ⟨o', e'⟩ := R1.k p o e
      rw [hp] at e'
      cases e'⟩, x⟩⟩
/-- a built-in on its arguments, by data -/
abbrev G1 := List D → (D → Prop) → Prop
def SndC (K : PySem.W.Frag) (r : List V → Hp → VK → Prop) (g : G1) : Prop := ∀ (Hs H : Hp) (xs : List V) (ds : List D) (q : D → Prop) (Q : VK), Ex Hs H → IsAll K Hs xs ds → g ds q →
  (∀ v d, q d → Is K Hs v d → Q v H) → (∀ p o d, q d → H p = none → Is K (upd Hs p o) (.ref p) d → Q (.ref p) (upd H p o)) → r xs H Q
@[simp] def wCall (g : G1) (w : WO S) : WE S := fun Γ s q r => w Γ s (fun l s1 => g l fun d => q d s1) r
theorem me_cb {e : Expr} {es : List Expr} {r : List V → Hp → VK → Prop} {g : G1} {w : WO S} (hpe : ∀ t, PA X es t → PE X e (tCB r t)) (hs : SndC X.K r g) (h : MA X ρ W es w) : ME X ρ W e (wCall g w) :=
  ⟨(hpe _ h.pa).imp fun σ H Q ⟨H0, Hs, Γ, s, q, rx, G, L, h, k, x⟩ => ⟨H0, Hs, Γ, s, _, rx, G, L, h, fun vs l s1 Hs1 H1 R1 G1 I1 h1 =>
    hs Hs1 H1 vs l _ _ G1.ex I1 h1 (fun v d h2 i2 => k v d s1 Hs1 H1 R1 G1 i2 h2) (fun p o d h2 hp i2 => by
      have n := G1.new (o := o) hp
      exact k _ d s1 _ _ (R1.trans n.2) n.1 i2 h2), x⟩⟩
/-- one that makes a fresh list -/
def SndCO (K : PySem.W.Frag) (r : List V → Hp → VK → Prop) (g : List D → (List D → Prop) → Prop) : Prop := ∀ (Hs H : Hp) (xs : List V) (ds : List D) (q : List D → Prop) (Q : VK), Ex Hs H → IsAll K Hs xs ds → g ds q →
  (∀ p vs l, q l → H p = none → IsAll K Hs vs l → Q (.ref p) (upd H p (.lst vs))) → r xs H Q
@[simp] def wCallO (g : List D → (List D → Prop) → Prop) (w : WO S) : WO S := fun Γ s q r => w Γ s (fun l s1 => g l fun l' => q l' s1) r
theorem back_none {ρ : Rs S} {Hs H Hs' H' : Hp} (R : Rel ρ Hs H Hs' H') {p : Addr} (h : H' p = none) : H p = none := by
  cases e : H p with
  | none => rfl
  | some o =>
    obtain ⟨o', e'⟩ := R.k p o e
    rw [h] at e'
    cases e'
/-- a binary operator that makes a fresh list -/
def SndBO (K : PySem.W.Frag) (r : R2) (g : D → D → (List D → Prop) → Prop) : Prop := ∀ (Hs H : Hp) (x y : V) (d1 d2 : D) (q : List D → Prop) (Q : VK), Ex Hs H → Is K Hs x d1 → Is K Hs y d2 → g d1 d2 q →
  (∀ p vs l, q l → H p = none → IsAll K Hs vs l → Q (.ref p) (upd H p (.lst vs))) → r x y H Q
@[simp] def wBinO (g : D → D → (List D → Prop) → Prop) (wa wb : WE S) : WO S := fun Γ s q r => wa Γ s (fun d1 s1 => wb Γ s1 (fun d2 s2 => g d1 d2 fun l => q l s2) r) r
end
end Mb
namespace Mb
open PySem L2
open Evl (Ex)
/-! ### what is walked -/
/-- the items of a list, a tuple, a text -/
def D.asSeq (d : D) (q : List D → Prop) : Prop := match d with
  | .lst l => q l
  | .tup l => q l
  | .str z => z.cps.size ≤ 1000000 ∧ q (z.cps.toList.map fun c => D.str ⟨#[c]⟩)
  | _ => False
@[simp] theorem D.asSeq_lst {b : List D} {q : List D → Prop} : (D.lst b).asSeq q = q b := rfl
@[simp] theorem D.asSeq_tup {b : List D} {q : List D → Prop} : (D.tup b).asSeq q = q b := rfl
theorem D.seq_of {d : D} {q : List D → Prop} (h : d.asSeq q) : ∃ l, (d = .lst l ∨ d = .tup l ∨ ∃ z : Str, d = .str z ∧ z.cps.size ≤ 1000000 ∧ l = z.cps.toList.map fun c => D.str ⟨#[c]⟩) ∧ q l := by
  cases d with
  | lst l => exact ⟨l, Or.inl rfl, h⟩
  | tup l => exact ⟨l, Or.inr (Or.inl rfl), h⟩
  | str z => exact ⟨_, Or.inr (Or.inr ⟨z, rfl, h.1, rfl⟩), h.2⟩
  | _ => exact h.elim
section
variable {S : Type}
/-- J walks ds -/
def Yl (K : PySem.W.Frag) (ρ : Rs S) (J : It) (Hs1 : Hp) (ds : List D) : Prop := ∀ (i : Nat) (Hs H : Hp), Ex Hs1 Hs → Ex Hs H →
  (i < ds.length → J.go i H ∧ ∀ x H', J.yld i H x H' → ∃ d, ds[i]? = some d ∧ ((H' = H ∧ Is K Hs x d) ∨ (∃ p o, H p = none ∧ H' = upd H p o ∧ Is K (upd Hs p o) x d))) ∧ (i = ds.length → J.stop i H)
def tWi (K : PySem.W.Frag) (ρ : Rs S) (W : WX) (w : WO S) : TI := fun σ H R => ∃ (H0 Hs : Hp) (Γ : Ctx) (s : S) (q : List D → S → Prop) (r : Exn → S → Prop),
  Gd ρ s Hs H ∧ Slots K ρ H0 σ Hs H Γ ∧ w Γ s q r ∧ (∀ J ds s' Hs' H', Rel ρ Hs H Hs' H' → Gd ρ s' Hs' H' → Yl K ρ J Hs' ds → ds.length ≤ sizeLine → q ds s' → R J H') ∧ XOk K ρ W σ Hs H r
structure MI (X : Cx) (ρ : Rs S) (W : WX) (tg e : Expr) (w : WO S) : Prop where
  pi : PI X tg e (tWi X.K ρ W w)
variable {X : Cx} {ρ : Rs S} {W : WX} {e a b c tg : Expr} {wa wb wc : WE S} {pos : Pos} {K : PySem.W.Frag}
theorem ex_sqT {H H' : Hp} {a : Addr} {xs : List V} (e : Ex H H') (h : SqT K H a xs) : SqT K H' a xs := Evl.ex_t e h
/-- sequences by value: a list, a tuple, a text -/
def iSeq (K : PySem.W.Frag) (tl : TE) : TI := fun σ H R => tl σ H fun x H1 =>
  (∃ a xs, x = .ref a ∧ SqL K H1 a xs ∧ (xs.length ≤ sizeLine → R (Itl K a) H1)) ∨ (∃ a xs, x = .ref a ∧ SqT K H1 a xs ∧ (xs.length ≤ sizeLine → R (Itt K a) H1)) ∨ (∃ z, x = .str z ∧ R (Its z) H1)
theorem pi_seq {l : Expr} {tl : TE} (hl : PE X l tl) : PI X tg l (iSeq X.K tl) := by
  refine ⟨fun pins s σ H R I h => thn (hl.run pins s σ H _ I h) fun v s1 hv => ?_⟩
  obtain ⟨x, H1, I1, r1, q1⟩ := hv
  have fp0 : ∀ b ∈ [s1.heap.objs.size], FpOk X pins H1 b := fun b hb => by
    rw [List.mem_singleton.mp hb]
    exact I1.fpOk (Nat.le_refl _) (I1.hok.fresh (Nat.le_refl _))
  rcases q1 with ⟨a, xs, e, hq, q⟩ | ⟨a, xs, e, hq, q⟩ | ⟨z, e, q⟩
  · subst e
    cases r1
    have il := I1.list hq
    obtain ⟨its, _, p, hz⟩ := il
    exact wpAny_pyIter_list p.isList ⟨_, [s1.heap.objs.size], _, _, H1, rfl, I1.kept (t' := s1.toks) fun b o e => Heap.get?_push_of_some _ e, turn_list a _, ⟨_, Heap.get?_push_size _ rfl, rfl, rfl⟩, fp0, q hz⟩
  · subst e
    cases r1
    have il := I1.tuple hq
    obtain ⟨its, _, p, hz⟩ := il
    exact wpAny_pyIter_tuple (show s1.heap.IsTuple a its.toArray from p) ⟨_, [s1.heap.objs.size], _, _, H1, rfl, I1.kept (t' := s1.toks) fun b o e => Heap.get?_push_of_some _ e, turn_tuple a _, ⟨_, Heap.get?_push_size _ rfl, rfl, rfl⟩, fp0, q hz⟩
  · subst e
    obtain ⟨t, rfl⟩ := r1
    cases ha : z.cps.all (· < 128)
    · exact wpAny_pyIter_wide ha (pi_one (tk := s1.toks) I1 _ (turn_str _ z t "str_iterator" (Or.inr rfl)) ⟨_, Heap.get?_push_size _ rfl, rfl, rfl⟩ q)
    · exact wpAny_pyIter_ascii ha (pi_one (tk := s1.toks) I1 _ (turn_str _ z t "str_ascii_iterator" (Or.inl rfl)) ⟨_, Heap.get?_push_size _ rfl, rfl, rfl⟩ q)
theorem yl_list {H1 : Hp} {a : Addr} {vs : List V} {ds : List D} (h : H1 a = some (.lst vs)) (hv : IsAll K H1 vs ds) : Yl K ρ (Itl K a) H1 ds := by
  intro i Hs H e1 e2
  have hs : SqL K H a vs := Or.inl (Or.inl (e2 _ _ (e1 _ _ h)))
  refine ⟨fun hi => ?_, fun hi => ⟨vs, hs, by rw [hv.length]; exact Nat.le_of_eq hi.symm⟩⟩
  have hx := hv.at (List.getElem?_eq_getElem hi)
  obtain ⟨v, q, iv⟩ := hx
  refine ⟨⟨vs, v, hs, q⟩, fun x H' y => ?_⟩
  obtain ⟨rfl, y⟩ := y
  have q2 := y vs hs
  rw [q] at q2
  cases q2
  exact ⟨ds[i], List.getElem?_eq_getElem hi, Or.inl ⟨rfl, iv.mono e1⟩⟩
theorem yl_tup {H1 : Hp} {a : Addr} {vs : List V} {ds : List D} (h : SqT K H1 a vs) (hv : IsAll K H1 vs ds) : Yl K ρ (Itt K a) H1 ds := by
  intro i Hs H e1 e2
  have hs : SqT K H a vs := ex_sqT e2 (ex_sqT e1 h)
  refine ⟨fun hi => ?_, fun hi => ⟨vs, hs, by rw [hv.length]; exact Nat.le_of_eq hi.symm⟩⟩
  have hx := hv.at (List.getElem?_eq_getElem hi)
  obtain ⟨v, q, iv⟩ := hx
  refine ⟨⟨vs, v, hs, q⟩, fun x H' y => ?_⟩
  obtain ⟨rfl, y⟩ := y
  have q2 := y vs hs
  rw [q] at q2
  cases q2
  exact ⟨ds[i], List.getElem?_eq_getElem hi, Or.inl ⟨rfl, iv.mono e1⟩⟩
theorem yl_str {H1 : Hp} {z : Str} : Yl K ρ (Its z) H1 (z.cps.toList.map fun c => D.str ⟨#[c]⟩) := by
  intro i Hs H e1 e2
  rw [List.length_map, Array.length_toList]
  refine ⟨fun hi => ⟨hi, fun x H' y => ?_⟩, fun hi => Nat.le_of_eq hi.symm⟩
  obtain ⟨rfl, c, hc, rfl⟩ := y
  refine ⟨.str ⟨#[c]⟩, ?_, Or.inl ⟨rfl, .str _⟩⟩
  rw [List.getElem?_map, Array.getElem?_toList, hc]
  rfl
@[simp] def wSeq (wa : WE S) : WO S := fun Γ s q r => wa Γ s (fun d s1 => d.asSeq fun l => q l s1) r
theorem mi_seq (ha : ME X ρ W e wa) : MI X ρ W tg e (wSeq wa) := by
  refine ⟨⟨fun pins st σ H R I h => (pi_seq (tg := tg) ha.pe).run pins st σ H R I ?_⟩⟩
  obtain ⟨H0, Hs, Γ, s, q, r, G, L, h, k, x⟩ := h
  refine ⟨H0, Hs, Γ, s, _, r, G, L, h, fun v d s1 Hs1 H1 R1 G1 I1 h1 => ?_, x⟩
  replace h1 := D.seq_of h1
  obtain ⟨l, hl, h1⟩ := h1
  rcases hl with rfl | rfl | ⟨z, rfl, hz, rfl⟩
  · cases I1 with
    | lst hq hv => exact Or.inl ⟨_, _, rfl, Or.inl (Or.inl (G1.ex _ _ hq)), fun z => k _ l s1 Hs1 H1 R1 G1 (yl_list hq hv) (by rw [← hv.length]; exact z) h1⟩
  · cases I1 with
    | tup hq hv => exact Or.inr (Or.inl ⟨_, _, rfl, ex_sqT G1.ex hq, fun z => k _ l s1 Hs1 H1 R1 G1 (yl_tup hq hv) (by rw [← hv.length]; exact z) h1⟩)
  · cases I1
    refine Or.inr (Or.inr ⟨z, rfl, k _ _ s1 Hs1 H1 R1 G1 yl_str (size_le ?_) h1⟩)
    rw [List.length_map, Array.length_toList]
    exact hz
/-- range(n), range(a, b) -/
def rgn (lo : Int) (n : Nat) : List D := (List.range n).map fun (i : Nat) => D.int (lo + (i : Int))
theorem rgn_len (lo : Int) (n : Nat) : (rgn lo n).length = n := by unfold rgn; rw [List.length_map, List.length_range]
theorem rgn_get {lo : Int} {n i : Nat} (h : i < n) : (rgn lo n)[i]? = some (.int (lo + (i : Int))) := by
  unfold rgn
  rw [List.getElem?_map, List.getElem?_range h]
  rfl
theorem yl_rng {H1 : Hp} {lo : Int} {n : Nat} : Yl K ρ (Itr lo n) H1 (rgn lo n) := by
  intro i Hs H e1 e2
  rw [rgn_len]
  refine ⟨fun hi => ⟨hi, fun x H' y => ?_⟩, fun hi => Nat.le_of_eq hi.symm⟩
  obtain ⟨rfl, rfl⟩ := y
  exact ⟨_, rgn_get hi, Or.inl ⟨rfl, .int _⟩⟩
@[simp] def wRng1 (w : WO S) : WO S := fun Γ s q r => w Γ s (fun l s1 => match l with | [.int n] => -1000000 ≤ n ∧ n ≤ 1000000 ∧ q (rgn 0 n.toNat) s1 | _ => False) r
@[simp] def wRng2 (w : WO S) : WO S := fun Γ s q r => w Γ s (fun l s1 => match l with | [.int a, .int b] => -500000 ≤ a ∧ a ≤ 500000 ∧ -500000 ≤ b ∧ b ≤ 500000 ∧ q (rgn a (b - a).toNat) s1 | _ => False) r
theorem mi_rng1 {w : WO S} {p : Pos} (hm : X.mg "range" = none) (ha : MA X ρ W [a] w) (hg : Gl X "range" := by rfl) (hs : starEach [a] X.env = [(false, eval a X.env)] := by rfl) :
    MI X ρ W tg (.Call (.Name "range" p) [a] [] pos) (wRng1 w) := by
  refine ⟨⟨fun pins st σ H R I q => (pi_range1 hg hm ha.pa hs).run pins st σ H R I ?_⟩⟩
  obtain ⟨H0, Hs, Γ, s, q, r, G, L, h, k, x⟩ := q
  refine ⟨H0, Hs, Γ, s, _, r, G, L, h, fun vs l s1 Hs1 H1 R1 G1 I1 h1 => ?_, x⟩
  split at h1
  case h_2 => exact h1.elim
  rename_i n
  obtain ⟨h0, hn, h1⟩ := h1
  cases I1 with
  | cons i1 i2 =>
    cases i2
    cases i1
    exact ⟨n, rfl, by omega, by omega, k _ _ s1 Hs1 H1 R1 G1 yl_rng (by rw [rgn_len]; exact size_le (by omega)) h1⟩
/-! ### targets -/
abbrev WG := D → Ctx → (Ctx → Prop) → Prop
/-- a target's reading follows its word -/
def SetsIn (js : List Nat) (σ σ' : St) : Prop := σ'.length = σ.length ∧ ∀ i, i ∉ js → σ'[i]? = σ[i]?
theorem SetsIn.refl (js : List Nat) (σ : St) : SetsIn js σ σ := ⟨rfl, fun _ _ => rfl⟩
theorem SetsIn.trans {j1 j2 : List Nat} {σ σ1 σ2 : St} (a : SetsIn j1 σ σ1) (b : SetsIn j2 σ1 σ2) : SetsIn (j1 ++ j2) σ σ2 :=
  ⟨b.1.trans a.1, fun i h => (b.2 i fun z => h (List.mem_append_right _ z)).trans (a.2 i fun z => h (List.mem_append_left _ z))⟩
theorem SetsIn.one (σ : St) (i : Nat) (x : Option V) : SetsIn [i] σ (σ.set i x) := ⟨List.length_set, fun j h => List.getElem?_set_ne fun z => h (by rw [z]; exact List.mem_singleton.mpr rfl)⟩
def tWg (K : PySem.W.Frag) (ρ : Rs S) (g : WG) (js : List Nat) : TG := fun v σ H Q => ∃ (H0 Hs : Hp) (Γ : Ctx) (s : S) (d : D) (q : Ctx → Prop), Gd ρ s Hs H ∧ Slots K ρ H0 σ Hs H Γ ∧ Is K Hs v d ∧ g d Γ q ∧ (∀ σ' Γ', SetsIn js σ σ' → Slots K ρ H0 σ' Hs H Γ' → q Γ' → Q σ' H)
structure MG (X : Cx) (ρ : Rs S) (tg : Expr) (g : WG) (js : List Nat) : Prop where
  pg : PG X tg (tWg X.K ρ g js)
theorem _root_.L2.PG.imp {X : Cx} {e : Expr} {t t' : TG} (h : PG X e t) (f : ∀ v σ H Q, t' v σ H Q → t v σ H Q) : PG X e t' := ⟨fun pins s σ H v u Q I r q => h.run pins s σ H v u Q I r (f _ _ _ _ q)⟩
@[simp] def gN (i : Nat) : WG := fun d Γ q => q (Γ.set i (.dat d))
theorem mg_name (i : Nat) {x : Str} (hN : X.N.Nodup) (hi : X.N[i]? = some x := by rfl) (hx : Loc X.env.scope x := by first | exact Or.inl rfl | exact Or.inr rfl)
    (hf : X.fn x = true ∨ X.env.scope.names.lookup x = some .local := by first | exact Or.inl rfl | exact Or.inr rfl) : MG X ρ (.Name x pos) (gN i) [i] :=
  ⟨(pg_name hN hi hx hf).imp fun v σ H Q ⟨H0, Hs, Γ, s, d, q, G, L, I, h, k⟩ => k _ _ (SetsIn.one _ _ _) (L.set I) h⟩
abbrev WGs := List D → Ctx → (Ctx → Prop) → Prop
def tWgs (K : PySem.W.Frag) (ρ : Rs S) (g : WGs) (js : List Nat) : TGs := fun vs σ H Q => ∃ (H0 Hs : Hp) (Γ : Ctx) (s : S) (l : List D) (q : Ctx → Prop), Gd ρ s Hs H ∧ Slots K ρ H0 σ Hs H Γ ∧ IsAll K Hs vs l ∧ g l Γ q ∧ (∀ σ' Γ', SetsIn js σ σ' → Slots K ρ H0 σ' Hs H Γ' → q Γ' → Q σ' H)
structure MGs (X : Cx) (ρ : Rs S) (tgs : List Expr) (g : WGs) (js : List Nat) : Prop where
  pgs : PGs X tgs (tWgs X.K ρ g js)
theorem _root_.L2.PGs.imp {X : Cx} {e : List Expr} {t t' : TGs} (h : PGs X e t) (f : ∀ v σ H Q, t' v σ H Q → t v σ H Q) : PGs X e t' := ⟨fun pins s σ H v u Q I r q => h.run pins s σ H v u Q I r (f _ _ _ _ q)⟩
@[simp] def gZ : WGs := fun l Γ q => l = [] ∧ q Γ
@[simp] def gC (g : WG) (gs : WGs) : WGs := fun l Γ q => match l with | d :: r => g d Γ fun Γ' => gs r Γ' q | [] => False
theorem mgs_nil : MGs X ρ [] gZ [] := ⟨pgs_nil.imp fun vs σ H Q ⟨H0, Hs, Γ, s, l, q, G, L, I, ⟨e, h⟩, k⟩ => by
  subst e
  cases I
  exact ⟨rfl, k _ _ (SetsIn.refl _ _) L h⟩⟩
theorem mgs_cons {es : List Expr} {g : WG} {gs : WGs} {j1 j2 : List Nat} (h1 : MG X ρ a g j1) (h2 : MGs X ρ es gs j2) (hs : (assignEach (a :: es) X.env).map (·.2) = assign a X.env :: (assignEach es X.env).map (·.2) := by rfl) : MGs X ρ (a :: es) (gC g gs) (j1 ++ j2) :=
  ⟨(pgs_cons h1.pg h2.pgs hs).imp fun vs σ H Q ⟨H0, Hs, Γ, s, l, q, G, L, I, h, k⟩ => by
    unfold gC at h
    split at h
    case h_2 => exact h.elim
    rename_i d r
    cases I with
    | cons i is => exact ⟨_, _, rfl, H0, Hs, Γ, s, d, _, G, L, i, h, fun σ' Γ' c1 L' h' => ⟨H0, Hs, Γ', s, r, q, G, L', is, h', fun σ2 Γ2 c2 => k σ2 Γ2 (c1.trans c2)⟩⟩⟩
@[simp] def gT (n : Nat) (gs : WGs) : WG := fun d Γ q => d.asTup fun l => l.length = n ∧ gs l Γ q
theorem mg_tup {es : List Expr} {k n : Nat} {gs : WGs} {js : List Nat} (hc : X.calm = true) (h : MGs X ρ es gs js) (hn : (assignEach es X.env).length = n := by rfl) (hst : (assignEach es X.env).findIdx? (·.1) = none := by rfl) : MG X ρ (.Tuple es k pos) (gT n gs) js :=
  ⟨(pg_tup hc h.pgs hn hst).imp fun v σ H Q ⟨H0, Hs, Γ, s, d, q, G, L, I, h, k⟩ => by
    replace h := D.tup_of h
    obtain ⟨l, e, hl, h⟩ := h
    subst e
    cases I with
    | tup hq hv => exact ⟨_, _, rfl, ex_sqT G.ex hq, by rw [hv.length]; exact hl, H0, Hs, Γ, s, l, q, G, L, hv, h, k⟩⟩
/-- a, b = a list -/
@[simp] def gL (n : Nat) (gs : WGs) : WG := fun d Γ q => d.asLst fun l => l.length = n ∧ gs l Γ q
/-! ### statements -/
structure En (S : Type) where
  nx : Ctx → S → Prop
  rt : Res → S → Prop
  bk : Ctx → S → Prop := fun _ _ => False
  ct : Ctx → S → Prop := fun _ _ => False
  ex : Exn → Ctx → S → Prop
abbrev WS (S : Type) := Ctx → S → En S → Prop
structure Abs (K : PySem.W.Frag) (ρ : Rs S) (W : WX) (H0 Hs0 : Hp) (E : En S) (D : Ends) : Prop where
  nx : ∀ σ Hs H Γ s, Rel ρ Hs0 H0 Hs H → Gd ρ s Hs H → Slots K ρ H0 σ Hs H Γ → E.nx Γ s → D.nx σ H
  bk : ∀ σ Hs H Γ s, Rel ρ Hs0 H0 Hs H → Gd ρ s Hs H → Slots K ρ H0 σ Hs H Γ → E.bk Γ s → D.bk σ H
  ct : ∀ σ Hs H Γ s, Rel ρ Hs0 H0 Hs H → Gd ρ s Hs H → Slots K ρ H0 σ Hs H Γ → E.ct Γ s → D.ct σ H
  rt : ∀ v y s Hs H, Rel ρ Hs0 H0 Hs H → Gd ρ s Hs H → ResOk K ρ H0 Hs H v y → E.rt y s → D.rt v H
  ex : ∀ x c p σ s Hs H Γ, Rel ρ Hs0 H0 Hs H → Gd ρ s Hs H → Slots K ρ H0 σ Hs H Γ → ExnOk K Hs x c p → E.ex x Γ s → W c p σ H
def tS (K : PySem.W.Frag) (ρ : Rs S) (W : WX) (w : WS S) : TS := fun D σ H => ∃ (H0 Hs0 Hs : Hp) (Γ : Ctx) (s : S) (E : En S),
  Rel ρ Hs0 H0 Hs H ∧ Gd ρ s Hs H ∧ Slots K ρ H0 σ Hs H Γ ∧ w Γ s E ∧ Abs K ρ W H0 Hs0 E D
structure MS (X : Cx) (ρ : Rs S) (W : WX) (st : Stmt) (w : WS S) : Prop where
  ps : PS X st (tS X.K ρ W w)
structure MB (X : Cx) (ρ : Rs S) (W : WX) (sts : List Stmt) (w : WS S) : Prop where
  pss : PSs X sts (tS X.K ρ W w)
theorem _root_.L2.PS.imp {X : Cx} {e : Stmt} {t t' : TS} (h : PS X e t) (f : ∀ D σ H, t' D σ H → t D σ H) : PS X e t' := ⟨fun pins s σ H D I q => h.run pins s σ H D I (f _ _ _ q)⟩
theorem _root_.L2.PSs.imp {X : Cx} {e : List Stmt} {t t' : TS} (h : PSs X e t) (f : ∀ D σ H, t' D σ H → t D σ H) : PSs X e t' := ⟨fun pins s σ H D I q => h.run pins s σ H D I (f _ _ _ q)⟩
/-- the errors of an expression of the statement -/
theorem Abs.xok {K : PySem.W.Frag} {H0 Hs0 Hs H : Hp} {E : En S} {D : Ends} {σ : St} {Γ : Ctx} (A : Abs K ρ W H0 Hs0 E D) (R : Rel ρ Hs0 H0 Hs H) (L : Slots K ρ H0 σ Hs H Γ) : XOk K ρ W σ Hs H (fun x s => E.ex x Γ s) :=
  fun x c p s' Hs' H' R1 G1 e h => A.ex x c p σ s' Hs' H' Γ (R.trans R1) G1 (L.step R1) e h
@[simp] def sNext : WS S := fun Γ s E => E.nx Γ s
@[simp] def sSeq (w1 w2 : WS S) : WS S := fun Γ s E => w1 Γ s { E with nx := fun Γ' s' => w2 Γ' s' E }
theorem mb_nil : MB X ρ W [] sNext := ⟨pss_nil.imp fun D σ H ⟨H0, Hs0, Hs, Γ, s, E, R, G, L, h, A⟩ => A.nx σ Hs H Γ s R G L h⟩
theorem mb_cons {st : Stmt} {sts : List Stmt} {w1 w2 : WS S} (h1 : MS X ρ W st w1) (h2 : MB X ρ W sts w2) : MB X ρ W (st :: sts) (sSeq w1 w2) :=
  ⟨(pss_cons h1.ps h2.pss).imp fun D σ H ⟨H0, Hs0, Hs, Γ, s, E, R, G, L, h, A⟩ => ⟨H0, Hs0, Hs, Γ, s, _, R, G, L, h,
    ⟨fun σ' Hs' H' Γ' s' R' G' L' h' => ⟨H0, Hs0, Hs', Γ', s', E, R', G', L', h', A⟩, A.bk, A.ct, A.rt, A.ex⟩⟩⟩
theorem mb_one {st : Stmt} {w : WS S} (h : MS X ρ W st w) : MB X ρ W [st] w := ⟨pss_one h.ps⟩
/-- x = e -/
@[simp] def sAsg (wa : WE S) (g : WG) : WS S := fun Γ s E => wa Γ s (fun d s1 => g d Γ fun Γ' => E.nx Γ' s1) (fun x s1 => E.ex x Γ s1)
theorem asg_of {g : TG} {wg : WG} {js : List Nat} {D : Ends} {σ : St} {H : Hp} (hg : ∀ v σ H Q, tWg X.K ρ wg js v σ H Q → g v σ H Q) (h : tS X.K ρ W (sAsg wa wg) D σ H) : tAsg (tW X.K ρ W wa) g D σ H := by
  obtain ⟨H0, Hs0, Hs, Γ, s, E, R, G, L, h, A⟩ := h
  exact ⟨H0, Hs, Γ, s, _, _, G, L, h, fun v d s1 Hs1 H1 R1 G1 I1 h1 => hg _ _ _ _ ⟨H0, Hs1, Γ, s1, d, _, G1, L.step R1, I1, h1, fun σ' Γ' _ L' h' => A.nx σ' Hs1 H1 Γ' s1 (R.trans R1) G1 L' h'⟩, A.xok R L⟩
theorem ms_set (i : Nat) {x : Str} {pos' : Pos} (hN : X.N.Nodup) (ha : ME X ρ W e wa) (hi : X.N[i]? = some x := by rfl) (hx : Loc X.env.scope x := by first | exact Or.inl rfl | exact Or.inr rfl)
    (hs : swapsWith e (some (.Name x pos')) pos.line X.env = pure false := by rfl) (hf : X.fn x = true ∨ X.env.scope.names.lookup x = some .local := by first | exact Or.inl rfl | exact Or.inr rfl) : MS X ρ W (.Assign [.Name x pos'] e pos) (sAsg wa (gN i)) :=
  ⟨(ps_set hN hi hx ha.pe hs hf).imp fun D σ H h => asg_of (js := [i]) (fun v σ H Q ⟨H0, Hs, Γ, s, d, q, G, L, I, h, k⟩ => k _ _ (SetsIn.one _ _ _) (L.set I) h) h⟩
/-- x = a fresh list, kept as one's own -/
@[simp] def sSetO (w : WO S) (i : Nat) : WS S := fun Γ s E => w Γ s (fun l s1 => E.nx (Γ.set i (.own l)) s1) (fun x s1 => E.ex x Γ s1)
theorem seto_of {w : WO S} {i : Nat} {D : Ends} {σ : St} {H : Hp} (h : tS X.K ρ W (sSetO w i) D σ H) : tAsg (tWo X.K ρ W w) (gName i) D σ H := by
  obtain ⟨H0, Hs0, Hs, Γ, s, E, R, G, L, h, A⟩ := h
  refine ⟨H0, Hs, Γ, s, _, _, G, L, h, fun a vs l s1 Hs1 H1 R1 G1 ha hv hn h0 h1 => ?_, A.xok R L⟩
  have h00 : H0 a = none := back_none R h0
  have L1 := L.step R1
  refine A.nx _ Hs1 H1 _ s1 (R.trans R1) G1 (L1.setOwn (k := .lst) ha hv hn h00 (G.notOwn h0) fun j k' l' _ e1 e2 => ?_) h1
  obtain ⟨b, ws, e, hb, _⟩ := L.getOwn e1
  rw [e] at e2
  cases e2
  rw [h0] at hb
  cases hb
theorem ms_setO (i : Nat) {x : Str} {pos' : Pos} {w : WO S} (hN : X.N.Nodup) (ha : MO X ρ W e w) (hi : X.N[i]? = some x := by rfl) (hx : Loc X.env.scope x := by first | exact Or.inl rfl | exact Or.inr rfl)
    (hs : swapsWith e (some (.Name x pos')) pos.line X.env = pure false := by rfl) (hf : X.fn x = true ∨ X.env.scope.names.lookup x = some .local := by first | exact Or.inl rfl | exact Or.inr rfl) : MS X ρ W (.Assign [.Name x pos'] e pos) (sSetO w i) :=
  ⟨(ps_set hN hi hx ha.pe hs hf).imp fun D σ H h => seto_of h⟩
@[simp] def sDrop (wa : WE S) : WS S := fun Γ s E => wa Γ s (fun _ s1 => E.nx Γ s1) (fun x s1 => E.ex x Γ s1)
@[simp] def sRet (wa : WE S) : WS S := fun Γ s E => wa Γ s (fun d s1 => E.rt (.dat d) s1) (fun x s1 => E.ex x Γ s1)
theorem ms_ret (ha : ME X ρ W e wa) : MS X ρ W (.Return (some e) pos) (sRet wa) :=
  ⟨(ps_ret ha.pe).imp fun D σ H ⟨H0, Hs0, Hs, Γ, s, E, R, G, L, h, A⟩ => ⟨H0, Hs, Γ, s, _, _, G, L, h, fun v d s1 Hs1 H1 R1 G1 I1 h1 => A.rt v (.dat d) s1 Hs1 H1 (R.trans R1) G1 I1 h1, A.xok R L⟩⟩
@[simp] def sRetO (w : WO S) : WS S := fun Γ s E => w Γ s (fun l s1 => E.rt (.own l) s1) (fun x s1 => E.ex x Γ s1)
/-- return x, x a list of one's own -/
@[simp] def sRetV (i : Nat) : WS S := fun Γ s E => Γ.asOwn i fun l => E.rt (.own l) s
@[simp] def sIf (t : WT S) (w1 w2 : WS S) : WS S := fun Γ s E => t Γ s (fun k s1 => if k = true then w1 Γ s1 E else w2 Γ s1 E) (fun x s1 => E.ex x Γ s1)
theorem ms_if {t : WT S} {sa sb : List Stmt} {w1 w2 : WS S} (hc : MT X ρ W c t) (h1 : MB X ρ W sa w1) (h2 : MB X ρ W sb w2) : MS X ρ W (.If c sa sb pos) (sIf t w1 w2) :=
  ⟨(ps_if hc.pt h1.pss h2.pss).imp fun D σ H ⟨H0, Hs0, Hs, Γ, s, E, R, G, L, h, A⟩ => ⟨H0, Hs, Γ, s, _, _, G, L, h, fun k s1 Hs1 H1 R1 G1 h1 => by
    cases k with
    | true => exact ⟨H0, Hs0, Hs1, Γ, s1, E, R.trans R1, G1, L.step R1, h1, A⟩
    | false => exact ⟨H0, Hs0, Hs1, Γ, s1, E, R.trans R1, G1, L.step R1, h1, A⟩, A.xok R L⟩⟩
/-- a for, by an invariant -/
def sFor (wi : WO S) (g : WG) (wb : WS S) : WS S := fun Γ s E => wi Γ s (fun ds s1 => ∃ Iv : Nat → Ctx → S → Prop, Iv 0 Γ s1 ∧
    (∀ i d Γ' s', ds[i]? = some d → Iv i Γ' s' → g d Γ' fun Γ2 => wb Γ2 s' { E with nx := Iv (i + 1), ct := Iv (i + 1), bk := E.nx }) ∧ (∀ Γ' s', Iv ds.length Γ' s' → E.nx Γ' s')) (fun x s1 => E.ex x Γ s1)
theorem ms_for {wi : WO S} {g : WG} {js : List Nat} {wb : WS S} {body : List Stmt} {it : Expr} (hp : PassesOwn (model X.prog X.w) X.A X.env X.xe) (hc : X.calm = true) (hi : MI X ρ W tg it wi) (hg : MG X ρ tg g js) (hb : MB X ρ W body wb)
    (hs : ∀ x, foldedSetIterable it X.env x = pure x := by intro _; rfl) : MS X ρ W (.For tg it body [] pos) (sFor wi g wb) := by
  refine ⟨(ps_for hp hc hi.pi hg.pg hb.pss hs).imp fun D σ H h => ?_⟩
  obtain ⟨H0, Hs0, Hs, Γ, s, E, R, G, L, h, A⟩ := h
  refine ⟨H0, Hs, Γ, s, _, _, G, L, h, fun J ds s1 Hs1 H1 R1 G1 Y hz h1 => ?_, A.xok R L⟩
  obtain ⟨Iv, i0, step, fin⟩ := h1
  refine ⟨fun i m σ' H' => m + i = ds.length ∧ ∃ Hs' Γ' s', Ex Hs1 Hs' ∧ Rel ρ Hs0 H0 Hs' H' ∧ Gd ρ s' Hs' H' ∧ Slots X.K ρ H0 σ' Hs' H' Γ' ∧ Iv i Γ' s', ⟨ds.length, by omega, Hs1, Γ, s1, Ex.refl _, R.trans R1, G1, L.step R1, i0⟩, ?_⟩
  rintro i m σ' H' ⟨hm, Hs', Γ', s', e', R', G', L', iv⟩
  have y := Y i Hs' H' e' G'.ex
  by_cases hi : i < ds.length
  · obtain ⟨go, yld⟩ := y.1 hi
    refine Or.inr ⟨go, fun σ2 H2 => ∃ Hs2 Γ2 s2, Ex Hs1 Hs2 ∧ Rel ρ Hs0 H0 Hs2 H2 ∧ Gd ρ s2 Hs2 H2 ∧ Slots X.K ρ H0 σ2 Hs2 H2 Γ2 ∧ Iv (i + 1) Γ2 s2, fun σ2 H2 n => ⟨m - 1, by omega, by omega, n⟩, fun x H2 hx => ?_⟩
    have key : ∀ (Hs2 : Hp) (d : Mb.D), ds[i]? = some d → Rel ρ Hs' H' Hs2 H2 → Gd ρ s' Hs2 H2 → Is X.K Hs2 x d → tWg X.K ρ g js x σ' H2 fun σ2 H2 => tS X.K ρ W wb { D with nx := fun σ2 H2 => ∃ Hs2 Γ2 s2, Ex Hs1 Hs2 ∧ Rel ρ Hs0 H0 Hs2 H2 ∧ Gd ρ s2 Hs2 H2 ∧ Slots X.K ρ H0 σ2 Hs2 H2 Γ2 ∧ Iv (i + 1) Γ2 s2, ct := fun σ2 H2 => ∃ Hs2 Γ2 s2, Ex Hs1 Hs2 ∧ Rel ρ Hs0 H0 Hs2 H2 ∧ Gd ρ s2 Hs2 H2 ∧ Slots X.K ρ H0 σ2 Hs2 H2 Γ2 ∧ Iv (i + 1) Γ2 s2, bk := D.nx } σ2 H2 := fun Hs2 d hd R2 G2 I2 =>
      ⟨H0, Hs2, Γ', s', d, _, G2, L'.step R2, I2, step i d Γ' s' hd iv, fun σ3 Γ3 _ L3 h3 => ⟨H0, Hs2, Hs2, Γ3, s', _, ⟨Ex.refl _, (R'.trans R2).h, fun b o q n => n, (R'.trans R2).k⟩, G2, L3, h3,
        ⟨fun σ4 Hs4 H4 Γ4 s4 R4 G4 L4 h4 => ⟨Hs4, Γ4, s4, (e'.trans R2.s).trans R4.s, ⟨(R'.trans R2).s.trans R4.s, R4.h, fun b o q n => R4.n b o q ((R'.trans R2).n b o q n), R4.k⟩, G4, L4, h4⟩,
         fun σ4 Hs4 H4 Γ4 s4 R4 G4 L4 h4 => A.nx σ4 Hs4 H4 Γ4 s4 ⟨(R'.trans R2).s.trans R4.s, R4.h, fun b o q n => R4.n b o q ((R'.trans R2).n b o q n), R4.k⟩ G4 L4 h4,
         fun σ4 Hs4 H4 Γ4 s4 R4 G4 L4 h4 => ⟨Hs4, Γ4, s4, (e'.trans R2.s).trans R4.s, ⟨(R'.trans R2).s.trans R4.s, R4.h, fun b o q n => R4.n b o q ((R'.trans R2).n b o q n), R4.k⟩, G4, L4, h4⟩,
         fun v y s4 Hs4 H4 R4 G4 y4 h4 => A.rt v y s4 Hs4 H4 ⟨(R'.trans R2).s.trans R4.s, R4.h, fun b o q n => R4.n b o q ((R'.trans R2).n b o q n), R4.k⟩ G4 y4 h4,
         fun x c p σ4 s4 Hs4 H4 Γ4 R4 G4 L4 e4 h4 => A.ex x c p σ4 s4 Hs4 H4 Γ4 ⟨(R'.trans R2).s.trans R4.s, R4.h, fun b o q n => R4.n b o q ((R'.trans R2).n b o q n), R4.k⟩ G4 L4 e4 h4⟩⟩⟩
    obtain ⟨d, hd, z⟩ := yld x H2 hx
    rcases z with ⟨rfl, ix⟩ | ⟨p, o, hp, rfl, ix⟩
    · exact key Hs' d hd (Rel.refl _ _) G' ix
    · have n := G'.new (o := o) hp
      exact key _ d hd n.2 n.1 ix
  · have e : i = ds.length := by omega
    subst e
    exact Or.inl ⟨y.2 rfl, A.nx σ' Hs' H' Γ' s' R' G' L' (fin Γ' s' iv)⟩
/-- a while, by an invariant and a measure -/
def sWhile (t : WT S) (wb : WS S) : WS S := fun Γ s E => ∃ Iv : Nat → Ctx → S → Prop, (∃ m, Iv m Γ s) ∧ ∀ m Γ' s', Iv m Γ' s' → t Γ' s' (fun k s1 => if k = true then wb Γ' s1 { E with nx := fun Γ2 s2 => ∃ m', m' < m ∧ Iv m' Γ2 s2, ct := fun Γ2 s2 => ∃ m', m' < m ∧ Iv m' Γ2 s2, bk := E.nx } else E.nx Γ' s1) (fun x s1 => E.ex x Γ' s1)
theorem ms_while {t : WT S} {wb : WS S} {body : List Stmt} (hp : PassesOwn (model X.prog X.w) X.A X.env X.xe) (hc : MT X ρ W c t) (hb : MB X ρ W body wb) : MS X ρ W (.While c body [] pos) (sWhile t wb) := by
  refine ⟨(ps_while hp hc.pt hb.pss).imp fun D σ H h => ?_⟩
  obtain ⟨H0, Hs0, Hs, Γ, s, E, R, G, L, ⟨Iv, ⟨m, i0⟩, step⟩, A⟩ := h
  refine ⟨fun m σ' H' => ∃ Hs' Γ' s', Rel ρ Hs0 H0 Hs' H' ∧ Gd ρ s' Hs' H' ∧ Slots X.K ρ H0 σ' Hs' H' Γ' ∧ Iv m Γ' s', ⟨m, Hs, Γ, s, R, G, L, i0⟩, ?_⟩
  rintro m σ' H' ⟨Hs', Γ', s', R', G', L', iv⟩
  refine ⟨H0, Hs', Γ', s', _, _, G', L', step m Γ' s' iv, fun k s1 Hs1 H1 R1 G1 h1 => ?_, A.xok R' L'⟩
  cases k with
  | true =>
    rw [if_pos rfl] at h1 ⊢
    exact ⟨fun σ2 H2 => ∃ m', m' < m ∧ ∃ Hs2 Γ2 s2, Rel ρ Hs0 H0 Hs2 H2 ∧ Gd ρ s2 Hs2 H2 ∧ Slots X.K ρ H0 σ2 Hs2 H2 Γ2 ∧ Iv m' Γ2 s2, fun σ2 H2 h => h, H0, Hs0, Hs1, Γ', s1, _, R'.trans R1, G1, L'.step R1, h1,
      ⟨fun σ4 Hs4 H4 Γ4 s4 R4 G4 L4 ⟨m', hm, h4⟩ => ⟨m', hm, Hs4, Γ4, s4, R4, G4, L4, h4⟩, fun σ4 Hs4 H4 Γ4 s4 R4 G4 L4 h4 => A.nx σ4 Hs4 H4 Γ4 s4 R4 G4 L4 h4, fun σ4 Hs4 H4 Γ4 s4 R4 G4 L4 ⟨m', hm, h4⟩ => ⟨m', hm, Hs4, Γ4, s4, R4, G4, L4, h4⟩, A.rt, A.ex⟩⟩
  | false =>
    rw [if_neg Bool.false_ne_true] at h1 ⊢
    exact A.nx σ' Hs1 H1 Γ' s1 (R'.trans R1) G1 (L'.step R1) h1
/-- between two statements: less may be known, a list of one's own may be frozen -/
theorem Slots.frzAt {K : PySem.W.Frag} {H0 Hs H : Hp} {σ : St} {Γ : Ctx} (L : Slots K ρ H0 σ Hs H Γ) {i : Nat} {k : Ok} {l : List D} {a : Addr} {vs : List V} (hl : Γ[i]? = some (.ow k l)) (e : σ[i]? = some (some (.ref a))) (hvs : IsAll K Hs vs l) (hn : Hs a = none) :
    Slots K ρ H0 σ (upd Hs a (k.obj vs)) H (Γ.set i (.dat (k.fz l))) := by
  have ex : Ex Hs (upd Hs a (k.obj vs)) := Ex.new hn
  refine ⟨by rw [List.length_set, L.len], fun j sl x e1 e2 => ?_, fun j k' m1 m2 l1 l2 b e1 e2 e3 e4 => ?_⟩
  · by_cases z : i = j
    · subst z
      rw [List.getElem?_set] at e1
      simp only [if_true] at e1
      rw [e] at e2
      cases e2
      split at e1
      · cases e1
        exact ⟨_, rfl, Ok.is upd_same (hvs.mono ex)⟩
      · cases e1
    · rw [List.getElem?_set_ne z] at e1
      have r := L.ok j sl x e1 e2
      cases sl with
      | emp => exact True.intro
      | dat d =>
        obtain ⟨v, q, r⟩ := r
        exact ⟨v, q, r.mono ex⟩
      | ow k1 l1 =>
        obtain ⟨b, ws, q, hb, hw, n1, n2, n3⟩ := r
        have nb : b ≠ a := fun y => by
          subst y
          exact z (L.sep i j k k1 l l1 b hl e1 e (by rw [e2, q]))
        exact ⟨b, ws, q, hb, hw.mono ex, by rw [upd_ne nb]; exact n1, n2, n3⟩
  · have nj : i ≠ j := fun z => by
      subst z
      rw [List.getElem?_set] at e1
      simp only [if_true] at e1
      split at e1 <;> cases e1
    have nk : i ≠ k' := fun z => by
      subst z
      rw [List.getElem?_set] at e2
      simp only [if_true] at e2
      split at e2 <;> cases e2
    rw [List.getElem?_set_ne nj] at e1
    rw [List.getElem?_set_ne nk] at e2
    exact L.sep j k' m1 m2 l1 l2 b e1 e2 e3 e4
theorem Slots.freeze {K : PySem.W.Frag} {H0 Hs0 Hs H : Hp} {σ : St} {Γ : Ctx} {s : S} (R : Rel ρ Hs0 H0 Hs H) (G : Gd ρ s Hs H) (L : Slots K ρ H0 σ Hs H Γ) {i : Nat} {k : Ok} {l : List D} (hl : Γ[i]? = some (.ow k l)) :
    ∃ Hs', Rel ρ Hs0 H0 Hs' H ∧ Gd ρ s Hs' H ∧ Slots K ρ H0 σ Hs' H (Γ.set i (.dat (k.fz l))) := by
  obtain ⟨a, vs, e, ha, hvs, hn, h0, ho⟩ := L.getOwn hl
  have ex : Ex Hs (upd Hs a (k.obj vs)) := Ex.new hn
  refine ⟨upd Hs a (k.obj vs), ⟨R.s.trans ex, R.h, fun b o q n => ?_, R.k⟩, G.freeze ha hn ho, L.frzAt hl e hvs hn⟩
  rw [upd_ne (ne_of_none q h0)]
  exact R.n b o q n
/-- the word ahead of a statement, made stronger: any step that the state bears -/
def Ctx.to (Γ Γ' : Ctx) : Prop := ∀ (K : PySem.W.Frag) (H0 Hs0 Hs H : Hp) (σ : St) (s : S) (ρ : Rs S), Rel ρ Hs0 H0 Hs H → Gd ρ s Hs H → Slots K ρ H0 σ Hs H Γ → ∃ Hs', Rel ρ Hs0 H0 Hs' H ∧ Gd ρ s Hs' H ∧ Slots K ρ H0 σ Hs' H Γ'
def sTo (w : WS S) : WS S := fun Γ s E => ∃ Γ', Ctx.to (S := S) Γ Γ' ∧ w Γ' s E
theorem ms_to {st : Stmt} {w : WS S} (h : MS X ρ W st w) : MS X ρ W st (sTo w) := ⟨h.ps.imp fun D σ H ⟨H0, Hs0, Hs, Γ, s, E, R, G, L, ⟨Γ', t, h⟩, A⟩ => by
  obtain ⟨Hs', R', G', L'⟩ := t X.K H0 Hs0 Hs H σ s ρ R G L
  exact ⟨H0, Hs0, Hs', Γ', s, E, R', G', L', h, A⟩⟩
theorem Ctx.to_frz {Γ : Ctx} (i : Nat) {k : Ok} {l : List D} (h : Γ[i]? = some (.ow k l)) : Ctx.to (S := S) Γ (Γ.set i (.dat (k.fz l))) := fun K H0 Hs0 Hs H σ s ρ R G L => L.freeze R G h
/-- xs.append(e), xs of one's own -/
@[simp] def sApp (i : Nat) (wa : WE S) : WS S := fun Γ s E => Γ.asOwn i fun l => wa Γ s (fun d s1 => l.length < 1000000 ∧ E.nx (Γ.set i (.own (l ++ [d]))) s1) (fun x s1 => E.ex x Γ s1)
theorem ms_app (i : Nat) {x : Str} {p p2 p3 p4 : Pos} (ha : ME X ρ W e wa) (hN : X.N[i]? = some x := by rfl) (hv : Vis X.env.scope x := by first | exact Or.inl rfl | exact Or.inr (Or.inl rfl) | exact Or.inr (Or.inr rfl)) (hd : (x == ("__debug__" : Str)) = false := by decide)
    (hcd : (x == ("__classdict__" : Str)) = false := by decide) (he : starEach (e :: []) X.env = (false, eval e X.env) :: starEach [] X.env := by rfl)
    (hpe : ∀ t : TA, PA X [e] t → PE X (.Call (.Attribute (.Name x p) "append" p2) [e] [] p3) (tBM X.K "list" rAppend (tVar i) t))
    (hs : swapsWith (.Call (.Attribute (.Name x p) "append" p2) [e] [] p3) none p4.line X.env = pure false := by rfl) : MS X ρ W (.Expr (.Call (.Attribute (.Name x p) "append" p2) [e] [] p3) p4) (sApp i wa) :=
  ⟨(ps_expr (hpe _ (pa_cons ha.pe pa_nil he)) hs).imp fun D σ H ⟨H0, Hs0, Hs, Γ, s, E, R, G, L, h, A⟩ => by
    replace h := Ctx.own_of h
    obtain ⟨l, hl, h⟩ := h
    obtain ⟨a, vs, e0, hav, hvs, hn, h0, ho⟩ := L.getOwn hl
    refine ⟨_, e0, Or.inl ⟨rfl, _, SqL.of hav⟩, H0, Hs, Γ, s, _, _, G, L, h, fun v d s1 Hs1 H1 R1 G1 I1 ⟨hz, h1⟩ => ?_, A.xok R L⟩
    have ha1 := R1.h a _ ho hav
    refine ⟨a, vs, v, rfl, rfl, ha1, by rw [hvs.length]; exact Nat.lt_of_lt_of_le hz (size_le (Nat.le_refl _)), ?_⟩
    have L1 := (L.step R1).mut (k := .lst) (vs := vs ++ [v]) hl e0 ((hvs.mono R1.s).app (.cons I1 .nil))
    have RR := R.trans R1
    refine A.nx σ Hs1 _ _ s1 ⟨RR.s, fun b o n q => ?_, RR.n, fun b o q => ?_⟩ ⟨fun b o q => ?_, ρ.loc s1 Hs1 H1 _ (fun b hb => upd_ne fun z => ho (by rw [← z]; exact hb)) G1.inv, G1.off⟩ L1 h1
    · rw [upd_ne (ne_of_none q h0)]
      exact RR.h b o n q
    · rw [upd_ne (ne_of_none q h0)]
      exact RR.k b o q
    · rw [upd_ne (ne_of_none q (R1.n a _ hav hn))]
      exact G1.ex b o q⟩
end
end Mb
namespace Mb
open PySem L2
open Evl (Ex)
section
variable {S : Type}
variable {X : Cx} {ρ : Rs S} {W : WX} {e a b c tg : Expr} {wa wb wc : WE S} {pos : Pos} {K : PySem.W.Frag}
/-! ### list comprehensions -/
@[simp] def wipeC (Γ : Ctx) : List Nat → Ctx
  | [] => Γ
  | v :: vs => (wipeC Γ vs).set v .emp
theorem Slots.wipe {H0 Hs H : Hp} {σ : St} {Γ : Ctx} (L : Slots K ρ H0 σ Hs H Γ) : ∀ vs : List Nat, Slots K ρ H0 (wipe σ vs) Hs H (wipeC Γ vs)
  | [] => L
  | v :: vs => (L.wipe vs).wipe1 v none
theorem wipe_get (σ : St) : ∀ (vs : List Nat) (i : Nat), i < σ.length → (wipe σ vs)[i]? = if i ∈ vs then some none else σ[i]?
  | [], i, h => by simp [L2.wipe]
  | v :: vs, i, h => by
    have ih := wipe_get σ vs i h
    have hl : (wipe σ vs).length = σ.length := wipe_length σ vs
    unfold L2.wipe
    by_cases z : v = i
    · subst z
      rw [List.getElem?_set]
      simp only [if_true, List.mem_cons, true_or]
      rw [if_pos (by rw [hl]; exact h)]
    · rw [List.getElem?_set_ne z, ih]
      have q : ¬ i = v := fun w => z w.symm
      simp only [List.mem_cons, q, false_or]
theorem wipe_sets {σ σ' : St} {vs js : List Nat} (h : SetsIn js (wipe σ vs) σ') (hj : ∀ j ∈ js, j ∈ vs) : wipe σ' vs = wipe σ vs := by
  apply List.ext_getElem?
  intro i
  have hl : σ'.length = σ.length := h.1.trans (wipe_length σ vs)
  by_cases hi : i < σ.length
  · rw [wipe_get σ' vs i (by rw [hl]; exact hi), wipe_get σ vs i hi]
    by_cases z : i ∈ vs
    · rw [if_pos z, if_pos z]
    · rw [if_neg z, if_neg z, h.2 i fun y => z (hj i y), wipe_get σ vs i hi, if_neg z]
  · rw [List.getElem?_eq_none (by rw [wipe_length, hl]; omega), List.getElem?_eq_none (by rw [wipe_length]; omega)]
structure MTs (X : Cx) (ρ : Rs S) (W : WX) (ifs : List Expr) (w : WT S) : Prop where
  pts : PTs X ifs (tWt X.K ρ W w)
@[simp] def wYes : WT S := fun _ s q _ => q true s
theorem mts_nil : MTs X ρ W [] wYes := ⟨⟨fun pins s σ H Q I ⟨H0, Hs, Γ, st, q, r, G, L, h, k, x⟩ => pts_nil.run pins s σ H Q I (k true st Hs H (Rel.refl _ _) G h)⟩⟩
theorem mts_one {t : WT S} (h : MT X ρ W c t) : MTs X ρ W [c] t := ⟨pts_one h.pt⟩
abbrev WF : WX := fun _ _ _ _ => False
def noX : Exn → S → Prop := fun _ _ => False
def wLc (wi : WO S) (g : WG) (wt : WT S) (we : WE S) (vs : List Nat) : WO S := fun Γ s q r => wi Γ s (fun ds s1 => ∃ Iv : Nat → List D → S → Prop, Iv 0 [] s1 ∧
    (∀ i d acc s', ds[i]? = some d → acc.length ≤ i → Iv i acc s' → g d (wipeC Γ vs) fun Γ' => wt Γ' s' (fun k s2 => if k = true then we Γ' s2 (fun d' s3 => Iv (i + 1) (acc ++ [d']) s3) noX else Iv (i + 1) acc s2) noX) ∧
    (∀ acc s', Iv ds.length acc s' → q acc s')) r
theorem xok_no {σ : St} {Hs H : Hp} : XOk K ρ WF σ Hs H noX := fun _ _ _ _ _ _ _ _ _ h => h.elim
theorem lc_imp {wi : WO S} {g : WG} {wt : WT S} {we : WE S} {vs js : List Nat} (hj : ∀ j ∈ js, j ∈ vs) {σ : St} {H : Hp} {Q : VK} (h : tWo K ρ W (wLc wi g wt we vs) σ H Q) :
    tLc (tWi K ρ W wi) (tWg K ρ g js) (tWt K ρ WF wt) (tW K ρ WF we) vs σ H Q := by
  obtain ⟨H0, Hs, Γ, s, q, r, G, L, h, k, x⟩ := h
  refine ⟨H0, Hs, Γ, s, _, r, G, L, h, fun J ds s1 Hs1 H1 R1 G1 Y hz h1 => ?_, x⟩
  obtain ⟨Iv, i0, step, fin⟩ := h1
  intro Dl hD
  have n0 := G1.put (o := .lst []) hD
  refine ⟨fun i m H' => m + i = ds.length ∧ ∃ Hs' acc vsl s', Ex Hs1 Hs' ∧ Rel ρ Hs1 H1 Hs' H' ∧ Gd ρ s' Hs' H' ∧ H' Dl = some (.lst vsl) ∧ IsAll K Hs' vsl acc ∧ Hs' Dl = none ∧ acc.length ≤ i ∧ Iv i acc s',
    ⟨ds.length, by omega, Hs1, [], [], s1, Ex.refl _, n0.2, n0.1, upd_same, .nil, G1.freeS hD, Nat.le_refl _, i0⟩, ?_⟩
  rintro i m H' ⟨hm, Hs', acc, vsl, s', e', R', G', hl, hv, hn, hacc, iv⟩
  have y := Y i Hs' H' e' G'.ex
  by_cases hi : i < ds.length
  · obtain ⟨go, yld⟩ := y.1 hi
    refine Or.inr ⟨go, fun H2 => ∃ Hs2 acc2 vs2 s2, Ex Hs1 Hs2 ∧ Rel ρ Hs1 H1 Hs2 H2 ∧ Gd ρ s2 Hs2 H2 ∧ H2 Dl = some (.lst vs2) ∧ IsAll K Hs2 vs2 acc2 ∧ Hs2 Dl = none ∧ acc2.length ≤ i + 1 ∧ Iv (i + 1) acc2 s2, fun H2 n => ⟨m - 1, by omega, by omega, n⟩, fun v H2 hx => ?_⟩
    obtain ⟨d, hd, z⟩ := yld v H2 hx
    have hno : ¬ ρ.own Dl := G1.notOwn hD
    have key : ∀ (Hs2 : Hp), Rel ρ Hs' H' Hs2 H2 → Gd ρ s' Hs2 H2 → Is K Hs2 v d → tWg K ρ g js v (wipe σ vs) H2 fun σ2 H3 => wipe σ2 vs = wipe σ vs ∧ tWt K ρ WF wt σ2 H3 fun b H4 =>
        if b = true then tW K ρ WF we σ2 H4 fun y H5 => ∃ ac, H5 Dl = some (.lst ac) ∧ ac.length < sizeLine ∧ ∃ Hs2 acc2 vs2 s2, Ex Hs1 Hs2 ∧ Rel ρ Hs1 H1 Hs2 (upd H5 Dl (.lst (ac ++ [y]))) ∧ Gd ρ s2 Hs2 (upd H5 Dl (.lst (ac ++ [y]))) ∧ (upd H5 Dl (.lst (ac ++ [y]))) Dl = some (.lst vs2) ∧ IsAll K Hs2 vs2 acc2 ∧ Hs2 Dl = none ∧ acc2.length ≤ i + 1 ∧ Iv (i + 1) acc2 s2
        else ∃ Hs2 acc2 vs2 s2, Ex Hs1 Hs2 ∧ Rel ρ Hs1 H1 Hs2 H4 ∧ Gd ρ s2 Hs2 H4 ∧ H4 Dl = some (.lst vs2) ∧ IsAll K Hs2 vs2 acc2 ∧ Hs2 Dl = none ∧ acc2.length ≤ i + 1 ∧ Iv (i + 1) acc2 s2 := fun Hs2 R2 G2 I2 => by
      have L2 : Slots K ρ H0 (wipe σ vs) Hs2 H2 (wipeC Γ vs) := (((L.step R1).step R').step R2).wipe vs
      refine ⟨H0, Hs2, _, s', d, _, G2, L2, I2, step i d acc s' hd hacc iv, fun σ3 Γ3 c3 L3 h3 => ⟨wipe_sets c3 hj, ?_⟩⟩
      refine ⟨H0, Hs2, Γ3, s', _, _, G2, L3, h3, fun kk s4 Hs4 H4 R4 G4 h4 => ?_, xok_no⟩
      have R24 := R2.trans R4
      cases kk with
      | true =>
        rw [if_pos rfl] at h4
        show tW K ρ WF we σ3 H4 _
        refine ⟨H0, Hs4, Γ3, s4, _, _, G4, L3.step R4, h4, fun u d5 s5 Hs5 H5 R5 G5 I5 h5 => ?_, xok_no⟩
        have R25 := R24.trans R5
        have hl5 := R25.h Dl _ hno hl
        have hn5 := R25.n Dl _ hl hn
        have RR := R'.trans R25
        refine ⟨vsl, hl5, by rw [hv.length]; omega, Hs5, acc ++ [d5], vsl ++ [u], s5, e'.trans R25.s, ⟨RR.s, fun b o n q => ?_, RR.n, fun b o q => ?_⟩, ⟨fun b o q => ?_, ρ.loc s5 Hs5 H5 _ (fun b hb => upd_ne fun z => hno (by rw [← z]; exact hb)) G5.inv, G5.off⟩, upd_same, (hv.mono R25.s).app (.cons I5 .nil), hn5, by rw [List.length_append, List.length_singleton]; omega, h5⟩
        · rw [upd_ne (ne_of_none q hD)]
          exact RR.h b o n q
        · rw [upd_ne (ne_of_none q hD)]
          exact RR.k b o q
        · rw [upd_ne (ne_of_none q hn5)]
          exact G5.ex b o q
      | false =>
        rw [if_neg Bool.false_ne_true] at h4
        exact ⟨Hs4, acc, vsl, s4, e'.trans R24.s, R'.trans R24, G4, R24.h Dl _ hno hl, hv.mono R24.s, R24.n Dl _ hl hn, by omega, h4⟩
    rcases z with ⟨rfl, ix⟩ | ⟨p, o, hp, rfl, ix⟩
    · exact key Hs' (Rel.refl _ _) G' ix
    · have n := G'.new (o := o) hp
      exact key _ n.2 n.1 ix
  · have ei : i = ds.length := by omega
    subst ei
    exact Or.inl ⟨y.2 rfl, k Dl vsl acc s' Hs' H' (R1.trans R') G' hl hv hn (back_none R1 hD) (fin acc s' iv)⟩
/-- the parts of a comprehension's block -/
structure Blk (X : Cx) (ρ : Rs S) (scope : Scope) (tg : Expr) (g : WG) (js : List Nat) (ifs : List Expr) (wt : WT S) (elt : Expr) (we : WE S) : Prop where
  hg : ∀ (s : Shared) (H : Hp) (C : Addr) (cl : List (Str × Addr)) (fp : List Addr), MG (X.blk s H scope (compEnvC scope cl C X.env) fp) ρ tg g js
  ht : ∀ (s : Shared) (H : Hp) (C : Addr) (cl : List (Str × Addr)) (fp : List Addr), MTs (X.blk s H scope (compEnvC scope cl C X.env) fp) ρ WF ifs wt
  he : ∀ (s : Shared) (H : Hp) (C : Addr) (cl : List (Str × Addr)) (fp : List Addr), ME (X.blk s H scope (compEnvC scope cl C X.env) fp) ρ WF elt we
theorem mo_lc {elt iter : Expr} {ifs : List Expr} {scope : Scope} (own : List (Str × Nat)) {wi : WO S} {g : WG} {js : List Nat} {wt : WT S} {we : WE S} (hc : X.calm = true) (hN : X.N.Nodup) (hi : MI X ρ W tg iter wi) (ok : BlkOk X.N X.env.scope scope own)
    (B : Blk X ρ scope tg g js ifs wt elt we) (hj : ∀ j ∈ js, j ∈ own.map (·.2) := by decide) (hs : ∀ x, foldedSetIterable iter X.env x = pure x := by intro _; rfl) : MO X ρ W (.ListComp elt [⟨tg, iter, ifs, 0⟩] scope pos) (wLc wi g wt we (own.map (·.2))) :=
  ⟨(pe_lc hc hN hi.pi ok (fun s H C cl fp => (B.hg s H C cl fp).pg) (fun s H C cl fp => (B.ht s H C cl fp).pts) (fun s H C cl fp => (B.he s H C cl fp).pe) hs).imp fun σ H Q h => lc_imp hj h⟩
theorem ms_setLcO {elt iter : Expr} {ifs : List Expr} {scope : Scope} (i : Nat) {y : Str} {py spos : Pos} (own : List (Str × Nat)) {wi : WO S} {g : WG} {js : List Nat} {wt : WT S} {we : WE S} (hc : X.calm = true) (hN : X.N.Nodup) (hi : MI X ρ W tg iter wi) (ok : BlkOk X.N X.env.scope scope own)
    (B : Blk X ρ scope tg g js ifs wt elt we) (hsw : swapsWith (.ListComp elt [⟨tg, iter, ifs, 0⟩] scope pos) (some (.Name y py)) spos.line X.env = pure true) (hy : X.N[i]? = some y := by rfl) (hyl : X.env.scope.names.lookup y = some .local := by rfl) (hj : ∀ j ∈ js, j ∈ own.map (·.2) := by decide)
    (hs : ∀ x, foldedSetIterable iter X.env x = pure x := by intro _; rfl) : MS X ρ W (.Assign [.Name y py] (.ListComp elt [⟨tg, iter, ifs, 0⟩] scope pos) spos) (sSetO (wLc wi g wt we (own.map (·.2))) i) :=
  ⟨(ps_setLc hc hN hy hyl hsw hi.pi ok (fun s H C cl fp => (B.hg s H C cl fp).pg) (fun s H C cl fp => (B.ht s H C cl fp).pts) (fun s H C cl fp => (B.he s H C cl fp).pe) hs).imp fun D σ H h => lc_imp hj (seto_of h)⟩
/-! ### promises of defs -/
abbrev FW (S : Type) := List D → S → (Res → S → Prop) → (Exn → S → Prop) → Prop
def spW (K : PySem.W.Frag) (ρ : Rs S) (F : FW S) : Sp := fun vs H Q E => ∃ (Hs : Hp) (s : S) (ds : List D) (q : Res → S → Prop) (r : Exn → S → Prop), Gd ρ s Hs H ∧ IsAll K Hs vs ds ∧ F ds s q r ∧
  (∀ v y s' Hs' H', Rel ρ Hs H Hs' H' → Gd ρ s' Hs' H' → ResOk K ρ H Hs' H' v y → q y s' → Q v H') ∧ (∀ x c p s' Hs' H', Rel ρ Hs H Hs' H' → Gd ρ s' Hs' H' → ExnOk K Hs' x c p → r x s' → E c p H')
/-- of a def that shares nothing -/
abbrev FP := List D → (Res → Prop) → (Exn → Prop) → Prop
def spP (K : PySem.W.Frag) (F : FP) : Sp := spW K Rs.none fun ds _ q r => F ds (fun y => q y ()) fun x => r x ()
@[simp] def FP.up (F : FP) : FW S := fun ds s q r => F ds (fun y => q y s) fun x => r x s
theorem spP_up {F : FP} {vs : List V} {H : Hp} {Q : VK} {E : XK} (h : spW K ρ F.up vs H Q E) : spP K F vs H Q E := by
  obtain ⟨Hs, s, ds, q, r, G, I, h, k, x⟩ := h
  have gd : ∀ {Hs' H' : Hp}, Rel Rs.none Hs H Hs' H' → Gd Rs.none () Hs' H' → Gd ρ s Hs' H' := fun {Hs' H'} R G' => ⟨G'.ex, ρ.mono s Hs _ _ R.s (ρ.loc s Hs H _ (fun b hb => by
      obtain ⟨o, e⟩ := ρ.dom s Hs H b G.inv hb
      rw [e, R.h b o (fun z => z.elim) e]) G.inv), fun b hb => by
      obtain ⟨o, e⟩ := ρ.dom s Hs H b G.inv hb
      exact R.n b o e (G.off b hb)⟩
  have rl : ∀ {Hs' H' : Hp}, Rel Rs.none Hs H Hs' H' → Rel ρ Hs H Hs' H' := fun R => ⟨R.s, fun b o _ e => R.h b o (fun z => z.elim) e, R.n, R.k⟩
  refine ⟨Hs, (), ds, fun y _ => q y s, fun x _ => r x s, ⟨G.ex, True.intro, fun _ h => h.elim⟩, I, h, fun v y s' Hs' H' R' G' i' h' => k v y s Hs' H' (rl R') (gd R' G') ?_ h', fun y c p s' Hs' H' R' G' e' h' => x y c p s Hs' H' (rl R') (gd R' G') e' h'⟩
  cases y with
  | dat d => exact i'
  | ow k l =>
    obtain ⟨a, vs, e, h1, h2, h3, h4, _⟩ := i'
    exact ⟨a, vs, e, h1, h2, h3, h4, G.notOwn h4⟩
theorem _root_.L2.FnOk.up {P : Program} {w : World} {mg : Str → Option Value} {base : Heap} {CX : CXT} {k : Nat} {f : Addr} {fd : FuncData} {ps : List Str} {F : FP} (h : FnOk P w K mg base CX k f fd ps (spP K F)) : FnOk P w K mg base CX k f fd ps (spW K ρ F.up) :=
  h.imp fun _ _ _ _ q => spP_up q
/-- what came back, frozen -/
theorem ResOk.frz {Hs H Hs' H' : Hp} {s' : S} {v : V} {y : Res} (R : Rel ρ Hs H Hs' H') (G' : Gd ρ s' Hs' H') (h : ResOk K ρ H Hs' H' v y) : ∃ Hs2, Rel ρ Hs H Hs2 H' ∧ Gd ρ s' Hs2 H' ∧ Is K Hs2 v y.d := by
  cases y with
  | dat d => exact ⟨Hs', R, G', h⟩
  | ow k l =>
    obtain ⟨a, vs, e, h1, h2, h3, h4, h5⟩ := h
    subst e
    have ex : Ex Hs' (upd Hs' a (k.obj vs)) := Ex.new h3
    refine ⟨upd Hs' a (k.obj vs), ⟨R.s.trans ex, R.h, fun b o q n => ?_, R.k⟩, G'.freeze h1 h3 h5, Ok.is upd_same (h2.mono ex)⟩
    rw [upd_ne (ne_of_none q h4)]
    exact R.n b o q n
@[simp] def wFn (F : FW S) (dds : List D) (w : WO S) : WE S := fun Γ s q r => w Γ s (fun l s1 => F (l ++ dds) s1 (fun y s2 => q y.d s2) r) r
@[simp] def wFnO (F : FW S) (dds : List D) (w : WO S) : WO S := fun Γ s q r => w Γ s (fun l s1 => F (l ++ dds) s1 (fun y s2 => y.asOwn fun l' => q l' s2) r) r
section
variable {CX : CXT} {k : Nat} {f : Addr} {fd : FuncData} {ps : List Str} {F : FW S} {x : Str} {p : Pos} {es : List Expr} {w : WO S} {ds : List Value} {dvs : List V} {dds : List D}
theorem fn_imp {E : XK} {vs : List V} {l : List D} {s1 : S} {Hs Hs1 H H1 : Hp} {Q : VK} {q : D → S → Prop} {r : Exn → S → Prop} {σ : St} (R1 : Rel ρ Hs H Hs1 H1) (G1 : Gd ρ s1 Hs1 H1) (I1 : IsAll K Hs1 vs l) (h1 : F l s1 (fun y s2 => q y.d s2) r)
    (kq : ∀ v d s' Hs' H', Rel ρ Hs H Hs' H' → Gd ρ s' Hs' H' → Is K Hs' v d → q d s' → Q v H') (x : XOk K ρ W σ Hs H r) (hE : ∀ c p H, W c p σ H → E c p H) : spW K ρ F vs H1 Q E :=
  ⟨Hs1, s1, l, _, r, G1, I1, h1, fun v y s2 Hs2 H2 R2 G2 i2 h2 => by
    obtain ⟨Hs3, R3, G3, i3⟩ := i2.frz R2 G2
    exact kq v y.d s2 Hs3 H2 (R1.trans R3) G3 i3 h2, fun y c p s2 Hs2 H2 R2 G2 e2 h2 => hE _ _ _ (x y c p s2 Hs2 H2 (R1.trans R2) G2 e2 h2)⟩
theorem me_call (Fk : FnOk X.prog X.w X.K X.mg X.base CX k f fd ps (spW X.K ρ F)) (hr : Room k X.A) (hm : X.mg x = some (.ref f)) (hk : PySem.W.keepIn X.K (.ref f) = true) (hb : Binds X.K fd ps ds) (hd : Vals dvs ds) (hdd : ∀ H, IsAll X.K H dvs dds) (hx : ∀ σ, PassesAt CX X σ (L2.WE W σ))
    (ha : MA X ρ W (e :: es) w) (hg : Gl X x := by rfl) (hdb : (x == ("__debug__" : Str)) = false := by decide) (he : starEach (e :: es) X.env = (false, eval e X.env) :: starEach es X.env := by rfl) (hpl : (backTo pos (starEach es X.env)).any (·.1) = false := by rfl) :
    ME X ρ W (.Call (.Name x p) (e :: es) [] pos) (wFn F dds w) :=
  ⟨(pe_callSD Fk hr hg hm hk hb hd hx ha.pa hdb he hpl).imp fun σ H Q ⟨H0, Hs, Γ, s, q, rx, G, L, h, kq, x⟩ => ⟨H0, Hs, Γ, s, _, rx, G, L, h, fun vs l s1 Hs1 H1 R1 G1 I1 h1 =>
    fn_imp R1 G1 (I1.app (hdd _)) h1 kq x (fun _ _ _ z => z), x⟩⟩
end
/-- the slots at a def's entry -/
@[simp] def startC (n : Nat) (ds : List D) : Ctx := ds.map .dat ++ List.replicate (n - ds.length) .emp
theorem slots_start {N : List Str} {vs : List V} {ds : List D} {H0 Hs H : Hp} (I : IsAll K Hs vs ds) : Slots K ρ H0 (L2.start N vs) Hs H (startC N.length ds) := by
  refine ⟨?_, fun i sl x e1 e2 => ?_, fun i j k k' l l' a e1 _ _ _ => ?_⟩
  · unfold L2.start startC
    rw [List.length_append, List.length_append, List.length_map, List.length_map, List.length_replicate, List.length_replicate, I.length]
  · unfold L2.start at e2
    unfold startC at e1
    by_cases hi : i < ds.length
    · rw [List.getElem?_append_left (by rw [List.length_map]; exact hi), List.getElem?_map] at e1
      rw [List.getElem?_append_left (by rw [List.length_map, I.length]; exact hi), List.getElem?_map] at e2
      rw [List.getElem?_eq_getElem hi] at e1
      cases e1
      obtain ⟨v, hv, iv⟩ := I.at (List.getElem?_eq_getElem hi)
      rw [hv] at e2
      cases e2
      exact ⟨v, rfl, iv⟩
    · rw [List.getElem?_append_right (by rw [List.length_map]; omega)] at e1
      rw [List.getElem?_replicate] at e1
      split at e1
      · cases e1
        exact True.intro
      · cases e1
  · exfalso
    unfold startC at e1
    by_cases hi : i < ds.length
    · rw [List.getElem?_append_left (by rw [List.length_map]; exact hi), List.getElem?_map, List.getElem?_eq_getElem hi] at e1
      cases e1
    · rw [List.getElem?_append_right (by rw [List.length_map]; omega), List.getElem?_replicate] at e1
      split at e1 <;> cases e1
@[simp] def endOf (q : Res → S → Prop) (r : Exn → S → Prop) : En S := { nx := fun _ s => q (.dat .non) s, rt := q, ex := fun x _ s => r x s }
/-! ### fields of an object that stands still -/
def FldOf (K : PySem.W.Frag) (d : D) (f : Str) (d' : D) : Prop := ∀ Hs v, Is K Hs v d → ∃ a C dx fs u, v = .ref a ∧ Hs a = some (.ins C dx fs) ∧ Cls K C ∧ NoAttr K C f ∧ fs.lookup f = some u ∧ Is K Hs u d'
@[simp] def wFld (K : PySem.W.Frag) (f : Str) (wa : WE S) : WE S := fun Γ s q r => wa Γ s (fun d s1 => ∃ d', FldOf K d f d' ∧ q d' s1) r
/-- methods: the object's class and that no attribute of it hides the method -/
def InsOf (K : PySem.W.Frag) (d : D) (C : Addr) (m : Str) : Prop := ∀ Hs v, Is K Hs v d → ∃ a dx fs, v = .ref a ∧ Hs a = some (.ins C dx fs) ∧ fs.lookup m = none
@[simp] def wMe (K : PySem.W.Frag) (C : Addr) (m : Str) (F : FW S) (dds : List D) (wa : WE S) (w : WO S) : WE S := fun Γ s q r => wa Γ s (fun d s1 => InsOf K d C m ∧ w Γ s1 (fun l s2 => F (d :: (l ++ dds)) s2 (fun y s3 => q y.d s3) noX) r) r
section
variable {CX : CXT} {k : Nat} {f C : Addr} {fd : FuncData} {ps : List Str} {F : FW S} {m : Str} {p : Pos} {es : List Expr} {w : WO S} {ds : List Value} {dvs : List V} {dds : List D}
end

/-! ### a list of one's own, lent for the length of an expression whose value is flat -/
def D.flat : D → Bool
  | .non | .bl _ | .int _ | .str _ => true
  | _ => false
@[simp] theorem flat_non : D.flat .non = true := rfl
@[simp] theorem flat_bl {b : Bool} : D.flat (.bl b) = true := rfl
@[simp] theorem flat_int {b : Int} : D.flat (.int b) = true := rfl
@[simp] theorem flat_str {b : Str} : D.flat (.str b) = true := rfl
theorem Is.flat {H H' : Hp} {v : V} {d : D} (h : Is K H v d) (f : d.flat = true) : Is K H' v d := by
  cases h with
  | non => exact .non
  | bl b => exact .bl b
  | int i => exact .int i
  | str x => exact .str x
  | ty _ => cases f
  | lst _ _ => cases f
  | tup _ _ => cases f
  | adr _ => cases f
  | dic _ _ => cases f
  | dif _ _ => cases f
  | err _ _ _ _ => cases f
  | ins _ _ => cases f
@[simp] def wLend (i : Nat) (w : WE S) : WE S := fun Γ s q r => Γ.asOwn i fun l => w (Γ.set i (.dat (.lst l))) s (fun d s1 => d.flat = true ∧ q d s1) noX
theorem xok_of {σ : St} {Hs H : Hp} : XOk K ρ W σ Hs H noX := fun _ _ _ _ _ _ _ _ _ h => h.elim
@[simp] def wLendT (i : Nat) (w : WT S) : WT S := fun Γ s q r => Γ.asOwn i fun l => w (Γ.set i (.dat (.lst l))) s q noX
/-! ### a value or a fresh list; two names at once -/
abbrev WR (S : Type) := Ctx → S → (Res → S → Prop) → (Exn → S → Prop) → Prop
def tWr (K : PySem.W.Frag) (ρ : Rs S) (W : WX) (w : WR S) : TE := fun σ H Q => ∃ (H0 Hs : Hp) (Γ : Ctx) (s : S) (q : Res → S → Prop) (r : Exn → S → Prop),
  Gd ρ s Hs H ∧ Slots K ρ H0 σ Hs H Γ ∧ w Γ s q r ∧ (∀ v y s' Hs' H', Rel ρ Hs H Hs' H' → Gd ρ s' Hs' H' → ResOk K ρ H Hs' H' v y → q y s' → Q v H') ∧ XOk K ρ W σ Hs H r
structure MR (X : Cx) (ρ : Rs S) (W : WX) (e : Expr) (w : WR S) : Prop where
  pe : PE X e (tWr X.K ρ W w)
@[simp] def wDat (w : WE S) : WR S := fun Γ s q r => w Γ s (fun d s1 => q (.dat d) s1) r
@[simp] def wOwn (w : WO S) : WR S := fun Γ s q r => w Γ s (fun d s1 => q (.own d) s1) r
theorem ResOk.step {H0 Hs H Hs' H' : Hp} {v : V} {y : Res} (h : ResOk K ρ H0 Hs H v y) (R : Rel ρ Hs H Hs' H') : ResOk K ρ H0 Hs' H' v y := by
  cases y with
  | dat d => exact h.mono R.s
  | ow ko l =>
    obtain ⟨a, vs, e, h1, h2, h3, h4, h5⟩ := h
    exact ⟨a, vs, e, R.h _ _ h5 h1, h2.mono R.s, R.n _ _ h1 h3, h4, h5⟩
@[simp] def sPar (i j : Nat) (w1 w2 : WR S) : WS S := fun Γ s E => w1 Γ s (fun y1 s1 => w2 Γ s1 (fun y2 s2 => E.nx ((Γ.set i y1.sl).set j y2.sl) s2) (fun x s1 => E.ex x Γ s1)) (fun x s1 => E.ex x Γ s1)
end
end Mb
namespace Mb
open PySem L2
open Evl (Ex)
variable {K : PySem.W.Frag} {X : Cx}
/-! ### plain data, its equality -/
mutual
def D.py : D → PyData
  | .non => .none
  | .bl b => .bool b
  | .int i => .int i
  | .str x => .str x
  | .tup l => .tuple (D.pys l)
  | .lst l => .list (D.pys l)
  | .ty _ => .none
  | .adr _ => .none
  | .dic _ _ => .none
  | .dif _ _ => .none
  | .err _ _ _ => .none
  | .ins _ _ _ => .none
def D.pys : List D → List PyData
  | [] => []
  | d :: ds => D.py d :: D.pys ds
end
/-- no object, no class within; at most n deep -/
inductive Pl : Nat → D → Prop
  | non {n} : Pl n .non
  | bl {n} (b : Bool) : Pl n (.bl b)
  | int {n} (i : Int) : Pl n (.int i)
  | str {n} (x : Str) : (PyData.strOk x = true ∧ x.length ≤ 1000000) → Pl n (.str x)
  | tup {n} {l : List D} : (∀ d ∈ l, Pl n d) → Pl (n + 1) (.tup l)
  | lst {n} {l : List D} : (∀ d ∈ l, Pl n d) → Pl (n + 1) (.lst l)
theorem Pl.mono {n m : Nat} {d : D} (h : Pl n d) : n ≤ m → Pl m d := by
  induction h generalizing m with
  | non => exact fun _ => .non
  | bl b => exact fun _ => .bl b
  | int i => exact fun _ => .int i
  | str x h => exact fun _ => .str x h
  | tup _ ih => exact fun q => match m, q with | m + 1, q => .tup fun d hd => ih d hd (Nat.le_of_succ_le_succ q)
  | lst _ ih => exact fun q => match m, q with | m + 1, q => .lst fun d hd => ih d hd (Nat.le_of_succ_le_succ q)
mutual
theorem Is.dp {H : Hp} : ∀ {n : Nat} {v : V} {d : D}, Is K H v d → Pl n d → Dp K H v d.py
  | _, _, _, .non, _ => .non
  | _, _, _, .bl b, _ => .bl b
  | _, _, _, .int i, _ => .int i
  | _, _, _, .str x, .str _ _ => .str x
  | _, _, _, .ty n, p => nomatch p
  | _, _, _, .lst h hs, .lst p => .lst (Or.inl (Or.inl h)) (IsAll.dp hs p)
  | _, _, _, .tup h hs, .tup p => .tup h (IsAll.dp hs p)
  | _, _, _, .adr _, p => nomatch p
  | _, _, _, .dic _ _, p => nomatch p
  | _, _, _, .dif _ _, p => nomatch p
  | _, _, _, .err _ _ _ _, p => nomatch p
  | _, _, _, .ins _ _, p => nomatch p
theorem IsAll.dp {H : Hp} : ∀ {n : Nat} {vs : List V} {ds : List D}, IsAll K H vs ds → (∀ d ∈ ds, Pl n d) → DpAll K H vs (D.pys ds)
  | _, _, _, .nil, _ => .nil
  | _, _, _, .cons h hs, p => .cons (Is.dp h (p _ List.mem_cons_self)) (IsAll.dp hs fun d hd => p d (List.mem_cons_of_mem _ hd))
end
theorem canAll : ∀ (l : List D), (∀ d ∈ l, d.py.canLay0 = true) → PyData.canLayAll0 (D.pys l) = true
  | [], _ => rfl
  | d :: l, h => by
    show (d.py.canLay0 && PyData.canLayAll0 (D.pys l)) = true
    rw [h d List.mem_cons_self, canAll l fun e he => h e (List.mem_cons_of_mem _ he)]
    rfl
theorem depAll {n : Nat} : ∀ (l : List D), (∀ d ∈ l, d.py.depth ≤ n) → PyData.depthAll (D.pys l) ≤ n
  | [], _ => Nat.zero_le _
  | d :: l, h => by
    show max d.py.depth (PyData.depthAll (D.pys l)) ≤ n
    exact Nat.max_le.mpr ⟨h d List.mem_cons_self, depAll l fun e he => h e (List.mem_cons_of_mem _ he)⟩
theorem Pl.can {n : Nat} {d : D} (h : Pl n d) : d.py.canLay0 = true ∧ d.py.depth ≤ n := by
  induction h with
  | non => exact ⟨rfl, Nat.zero_le _⟩
  | bl b => exact ⟨rfl, Nat.zero_le _⟩
  | int i => exact ⟨rfl, Nat.zero_le _⟩
  | str x h => exact ⟨h.1, Nat.zero_le _⟩
  | tup _ ih => exact ⟨canAll _ fun d hd => (ih d hd).1, Nat.succ_le_succ (depAll _ fun d hd => (ih d hd).2)⟩
  | lst _ ih => exact ⟨canAll _ fun d hd => (ih d hd).1, Nat.succ_le_succ (depAll _ fun d hd => (ih d hd).2)⟩
theorem Pl.shaped {n : Nat} {d : D} (h : Pl n d) (hn : n ≤ 64) : SeqAt.shaped d.py = true := by
  unfold SeqAt.shaped
  rw [h.can.1, decide_eq_true (Nat.le_trans h.can.2 hn)]
  rfl
def eqD (d e : D) : Bool := PyData.eqv d.py e.py

/-! ### comparisons -/
@[simp] def gEq : G2 := fun d e q => Pl 60 d ∧ Pl 60 e ∧ q (.bl (eqD d e))
@[simp] def gNe : G2 := fun d e q => Pl 60 d ∧ Pl 60 e ∧ q (.bl (!eqD d e))
theorem snd_eq : SndB K (rEqD K) gEq := fun Hs H x y d e q Q ex i1 i2 ⟨p1, p2, h⟩ k _ => ⟨d.py, e.py, (i1.mono ex).dp p1, (i2.mono ex).dp p2, p1.shaped (by decide), p2.shaped (by decide), k _ _ h (.bl _)⟩
theorem snd_ne : SndB K (rNeD K) gNe := fun Hs H x y d e q Q ex i1 i2 ⟨p1, p2, h⟩ k _ => ⟨d.py, e.py, (i1.mono ex).dp p1, (i2.mono ex).dp p2, p1.shaped (by decide), p2.shaped (by decide), k _ _ h (.bl _)⟩
def gI (g : Int → Int → D) : G2 := fun d e q => ∃ i j, d = .int i ∧ e = .int j ∧ q (g i j)
theorem snd_I0 {g : Int → Int → V} {g' : Int → Int → D} (hg : ∀ H i j, Is K H (g i j) (g' i j)) : SndB K (rI0 g) (gI g') := fun Hs H x y d e q Q ex i1 i2 ⟨i, j, e1, e2, h⟩ k _ => by
  subst e1 e2
  cases i1
  cases i2
  exact ⟨i, j, rfl, rfl, k _ _ h (hg _ _ _)⟩
def gIC (C : Int → Int → Prop) (g : Int → Int → D) : G2 := fun d e q => ∃ i j, d = .int i ∧ e = .int j ∧ C i j ∧ q (g i j)
theorem snd_I {C : Int → Int → Prop} {g : Int → Int → V} {g' : Int → Int → D} (hg : ∀ H i j, Is K H (g i j) (g' i j)) : SndB K (rI C g) (gIC C g') := fun Hs H x y d e q Q ex i1 i2 ⟨i, j, e1, e2, hc, h⟩ k _ => by
  subst e1 e2
  cases i1
  cases i2
  exact ⟨i, j, rfl, rfl, hc, k _ _ h (hg _ _ _)⟩
theorem SndB.or {r r' : R2} {g g' : G2} (h : SndB K r g) (h' : SndB K r' g') : SndB K (fun x y H Q => r x y H Q ∨ r' x y H Q) (fun d e q => g d e q ∨ g' d e q) := fun Hs H x y d e q Q ex i1 i2 hq k k2 =>
  hq.elim (fun z => Or.inl (h Hs H x y d e q Q ex i1 i2 z k k2)) fun z => Or.inr (h' Hs H x y d e q Q ex i1 i2 z k k2)
/-- <, <=, >, >= of ints or of texts -/
def gLt : G2 := fun d e q => (∃ i j, d = .int i ∧ e = .int j ∧ q (.bl (decide (i < j)))) ∨ (∃ x y : Str, d = .str x ∧ e = .str y ∧ q (.bl (decide (x.cps.toList < y.cps.toList))))
def gGt : G2 := fun d e q => (∃ i j, d = .int i ∧ e = .int j ∧ q (.bl (decide (j < i)))) ∨ (∃ x y : Str, d = .str x ∧ e = .str y ∧ q (.bl (decide (y.cps.toList < x.cps.toList))))
def gGe : G2 := fun d e q => (∃ i j, d = .int i ∧ e = .int j ∧ q (.bl (decide (j ≤ i)))) ∨ (∃ x y : Str, d = .str x ∧ e = .str y ∧ q (.bl (!decide (x.cps.toList < y.cps.toList))))
theorem snd_S {g : Str → Str → Bool} : SndB K (fun x y H Q => ∃ i j, x = V.str i ∧ y = V.str j ∧ Q (.bl (g i j)) H) (fun d e q => ∃ x y : Str, d = .str x ∧ e = .str y ∧ q (.bl (g x y))) := fun Hs H x y d e q Q ex i1 i2 ⟨i, j, e1, e2, h⟩ k _ => by
  subst e1 e2
  cases i1
  cases i2
  exact ⟨i, j, rfl, rfl, k _ _ h (.bl _)⟩
theorem snd_lt : SndB K (fun x y H Q => rI0 (fun i j => .bl (decide (i < j))) x y H Q ∨ ∃ i j, x = V.str i ∧ y = V.str j ∧ Q (.bl (decide (i.cps.toList < j.cps.toList))) H) gLt := (snd_I0 fun _ _ _ => .bl _).or snd_S
theorem snd_gt : SndB K (fun x y H Q => rI0 (fun i j => .bl (decide (j < i))) x y H Q ∨ ∃ i j, x = V.str i ∧ y = V.str j ∧ Q (.bl (decide (j.cps.toList < i.cps.toList))) H) gGt := (snd_I0 fun _ _ _ => .bl _).or snd_S
theorem snd_ge : SndB K (fun x y H Q => rI0 (fun i j => .bl (decide (j ≤ i))) x y H Q ∨ ∃ i j, x = V.str i ∧ y = V.str j ∧ Q (.bl (!decide (i.cps.toList < j.cps.toList))) H) gGe := (snd_I0 fun _ _ _ => .bl _).or snd_S
theorem or_lt : OpR X (compareOp .Lt) (fun x y H Q => rI0 (fun i j => .bl (decide (i < j))) x y H Q ∨ ∃ i j, x = V.str i ∧ y = V.str j ∧ Q (.bl (decide (i.cps.toList < j.cps.toList))) H) := OpR.or op_lt op_lt_str
theorem or_gt : OpR X (compareOp .Gt) (fun x y H Q => rI0 (fun i j => .bl (decide (j < i))) x y H Q ∨ ∃ i j, x = V.str i ∧ y = V.str j ∧ Q (.bl (decide (j.cps.toList < i.cps.toList))) H) := OpR.or op_gt op_gt_str
theorem or_ge : OpR X (compareOp .GtE) (fun x y H Q => rI0 (fun i j => .bl (decide (j ≤ i))) x y H Q ∨ ∃ i j, x = V.str i ∧ y = V.str j ∧ Q (.bl (!decide (i.cps.toList < j.cps.toList))) H) := OpR.or op_ge op_ge_str
/-! ### in, not in: a list of plain data; a tuple of flat data; a sign in a text -/
def inD (d : D) (l : List D) : Bool := l.any fun z => eqD z d
def inK (k : Key) (ks : List Key) : Bool := ks.any fun x => decide (x = k)
/-- what may be a key -/
def keyOf : D → Option Key
  | .int i => some (.inl i)
  | .str x => some (.inr x)
  | _ => none
/-! ### + - * // % -/
theorem snd_sub : SndB K (rI0 fun i j => .int (i - j)) (gI fun i j => .int (i - j)) := snd_I0 fun _ _ _ => .int _
theorem snd_mulW : SndB K (rI CMulW fun i j => .int (i * j)) (gIC CMulW fun i j => .int (i * j)) := snd_I fun _ _ _ => .int _
theorem snd_fdivW : SndB K (rI CDivW fun i j => .int (i / j)) (gIC CDivW fun i j => .int (i / j)) := snd_I fun _ _ _ => .int _
theorem snd_mod : SndB K (rI (fun _ j => 0 < j) fun i j => .int (i % j)) (gIC (fun _ j => 0 < j) fun i j => .int (i % j)) := snd_I fun _ _ _ => .int _
theorem snd_pow : SndB K (rI CPow fun i j => .int (i ^ j.toNat)) (gIC CPow fun i j => .int (i ^ j.toNat)) := snd_I fun _ _ _ => .int _
def rAddA (K : PySem.W.Frag) : R2 := fun x y H Q => rI0 (fun i j => .int (i + j)) x y H Q ∨ ((∃ i j, x = V.str i ∧ y = V.str j ∧ i.length + j.length ≤ sizeLine ∧ Q (.str (i ++ j)) H) ∨ rCatA K x y H Q)
theorem or_add : OpR X (binaryOp .Add) (rAddA X.K) := OpR.or op_add (OpR.or op_add_str op_catA)
def gAdd : G2 := fun d e q => (∃ i j, d = .int i ∧ e = .int j ∧ q (.int (i + j))) ∨ (∃ x y : Str, d = .str x ∧ e = .str y ∧ x.length + y.length ≤ 1000000 ∧ q (.str (x ++ y))) ∨
  (∃ l l', d = .tup l ∧ e = .tup l' ∧ l.length + l'.length ≤ 1000000 ∧ q (.tup (l ++ l')))
theorem snd_add : SndB K (rAddA K) gAdd := fun Hs H x y d e q Q ex i1 i2 h k k2 => by
  rcases h with ⟨i, j, rfl, rfl, h⟩ | ⟨z, w, rfl, rfl, hl, h⟩ | ⟨l, l', rfl, rfl, hl, h⟩
  · cases i1
    cases i2
    exact Or.inl ⟨i, j, rfl, rfl, k _ _ h (.int _)⟩
  · cases i1
    cases i2
    exact Or.inr (Or.inl ⟨z, w, rfl, rfl, size_le hl, k _ _ h (.str _)⟩)
  · cases i1 with
    | tup hq hv =>
      cases i2 with
      | tup hq' hv' =>
        refine Or.inr (Or.inr ⟨_, _, _, _, rfl, rfl, Evl.ex_t ex hq, Evl.ex_t ex hq', by rw [hv.length, hv'.length]; exact size_le hl, fun e => ?_, fun _ e => ?_, fun n n' p hp => k2 p _ _ h hp ?_⟩)
        · subst e
          cases hv
          exact k _ _ h (.tup hq' hv')
        · subst e
          cases hv'
          rw [List.append_nil] at h
          exact k _ _ h (.tup hq hv)
        · have hs : Hs p = none := by
            cases z : Hs p with
            | none => rfl
            | some o =>
              rw [ex _ _ z] at hp
              cases hp
          exact .tup (Or.inl (Or.inl upd_same)) ((hv.app hv').mono (Ex.new hs))
def gRep : D → D → (List D → Prop) → Prop := fun d e q => ∃ l n, d = .lst l ∧ e = .int n ∧ -1000000 ≤ n ∧ n ≤ 1000000 ∧ l.length * n.toNat ≤ 1000000 ∧ q (List.replicate n.toNat l).flatten
theorem IsAll.rep {H : Hp} {vs : List V} {ds : List D} (h : IsAll K H vs ds) : ∀ n : Nat, IsAll K H (List.replicate n vs).flatten (List.replicate n ds).flatten
  | 0 => .nil
  | n + 1 => by
    rw [List.replicate_succ, List.replicate_succ, List.flatten_cons, List.flatten_cons]
    exact h.app (IsAll.rep h n)
/-! ### subscripts, slices -/
def gIx : G2 := fun d e q => ∃ n : Int, e = .int n ∧ ((∃ l d', (d = .lst l ∨ d = .tup l) ∧ atI l n = some d' ∧ q d') ∨ (∃ (z : Str) (c : Nat), d = .str z ∧ z.length ≤ 1000000 ∧ atI z.cps.toList n = some c ∧ q (.str ⟨#[c]⟩)))
theorem IsAll.atI {H : Hp} {vs : List V} {ds : List D} {n : Int} {d : D} (h : IsAll K H vs ds) (e : L2.atI ds n = some d) : ∃ v, L2.atI vs n = some v ∧ Is K H v d := by
  unfold L2.atI at e ⊢
  rw [h.length]
  cases q : ixN ds.length n with
  | none =>
    rw [q] at e
    cases e
  | some j =>
    rw [q] at e
    exact h.at e
theorem snd_ix : SndB K (rIx K) gIx := fun Hs H x y d e q Q ex i1 i2 ⟨n, e2, h⟩ k _ => by
  subst e2
  cases i2
  rcases h with ⟨l, d', e1, ha, h⟩ | ⟨z, c, e1, hz, ha, h⟩
  · rcases e1 with rfl | rfl
    · cases i1 with
      | lst hq hv =>
        obtain ⟨v, hv1, iv⟩ := hv.atI ha
        exact Or.inl ⟨_, _, n, v, rfl, rfl, Or.inl (Or.inl (ex _ _ hq)), hv1, k _ _ h iv⟩
    · cases i1 with
      | tup hq hv =>
        obtain ⟨v, hv1, iv⟩ := hv.atI ha
        exact Or.inr (Or.inl ⟨_, _, n, v, rfl, rfl, Evl.ex_t ex hq, hv1, k _ _ h iv⟩)
  · subst e1
    cases i1
    exact Or.inr (Or.inr ⟨z, n, c, rfl, rfl, size_le hz, ha, k _ _ h (.str _)⟩)
end Mb
namespace Mb
open PySem L2
open Evl (Ex)
variable {K : PySem.W.Frag}
theorem one_arg {H : Hp} {xs : List V} {d : D} (h : IsAll K H xs [d]) : ∃ x, xs = [x] ∧ Is K H x d := by
  cases h with
  | cons h t =>
    cases t
    exact ⟨_, rfl, h⟩
theorem exFree {Hs H : Hp} (ex : Ex Hs H) {p : Addr} (h : H p = none) : Hs p = none := by
  cases e : Hs p with
  | none => rfl
  | some o =>
    rw [ex _ _ e] at h
    cases h
/-! ### len -/
def gLen : G1 := fun ds q => ∃ d, ds = [d] ∧ ((∃ l, (d = .lst l ∨ d = .tup l) ∧ q (.int l.length)) ∨ ∃ z : Str, d = .str z ∧ z.length ≤ 1000000 ∧ q (.int z.length))
theorem snd_len : SndC K (fun xs H Q => ∃ x n, xs = [x] ∧ LenV K x H n ∧ Q (.int n) H) gLen := fun Hs H xs ds q Q ex ia ⟨d, e, h⟩ k _ => by
  subst e
  obtain ⟨x, rfl, i1⟩ := one_arg ia
  rcases h with ⟨l, rfl | rfl, h⟩ | ⟨z, rfl, hz, h⟩
  · cases i1 with
    | lst hq hv => exact ⟨_, l.length, rfl, Or.inl ⟨_, Or.inl (Or.inl (ex _ _ hq)), hv.length.symm⟩, k _ _ h (.int _)⟩
  · cases i1 with
    | tup hq hv => exact ⟨_, l.length, rfl, Or.inr ⟨_, Evl.ex_t ex hq, hv.length.symm⟩, k _ _ h (.int _)⟩
  · cases i1
    exact ⟨_, z.length, rfl, ⟨size_le hz, rfl⟩, k _ _ h (.int _)⟩
/-! ### isinstance(x, T), T one built-in class or a written tuple of such; x plain data -/
def D.tyN : D → Option String
  | .non => some "NoneType"
  | .bl _ => some "bool"
  | .int _ => some "int"
  | .str _ => some "str"
  | .lst _ => some "list"
  | .tup _ => some "tuple"
  | .dic _ _ => some "dict"
  | .dif _ _ => some "dict"
  | _ => none
section
variable {S : Type} {X : Cx} {ρ : Rs S} {W : WX} {e a b c tg : Expr} {wa wb wc : WE S} {pos : Pos}
/-- isinstance(x, (A, B)) -/
@[simp] def wIsi2 (S1 S2 : String) (wa : WE S) : WE S := fun Γ s q r => wa Γ s (fun d s1 => ∃ T b1 b2, d.tyN = some T ∧ kitB T S1 = some b1 ∧ kitB T S2 = some b2 ∧ q (.bl (b1 || b2)) s1) r
end
/-! ### int(x), min(a, b), max(a, b), abs(x) -/
def gInt : G1 := fun ds q => (∃ i, ds = [.int i] ∧ q (.int i)) ∨ ∃ b, ds = [.bl b] ∧ q (.int (if b then 1 else 0))
theorem snd_int : SndC K (fun xs H Q => (∃ i, xs = [.int i] ∧ Q (.int i) H) ∨ ∃ k, xs = [.bl k] ∧ Q (.int (if k then 1 else 0)) H) gInt := fun Hs H xs ds q Q ex ia h k _ => by
  rcases h with ⟨i, rfl, h⟩ | ⟨i, rfl, h⟩
  · obtain ⟨x, rfl, i1⟩ := one_arg ia
    cases i1
    exact Or.inl ⟨i, rfl, k _ _ h (.int _)⟩
  · obtain ⟨x, rfl, i1⟩ := one_arg ia
    cases i1
    exact Or.inr ⟨i, rfl, k _ _ h (.int _)⟩
/-! ### tuple(x), list(x) -/
/-! ### all, any of a list of bools -/
def bools : List Bool → List D := List.map D.bl
theorem IsAll.bools {H : Hp} : ∀ {xs : List V} {bs : List Bool}, IsAll K H xs (Mb.bools bs) → xs = bs.map V.bl
  | _, [], h => by cases h; rfl
  | _, b :: bs, h => by
    cases h with
    | cons i t =>
      cases i
      rw [IsAll.bools t]
      rfl
/-! ### sorted of ints, of texts -/
def strsD : List Str → List D := List.map D.str
def intsD : List Int → List D := List.map D.int
theorem IsAll.strsD {H : Hp} : ∀ {xs : List V} {bs : List Str}, IsAll K H xs (Mb.strsD bs) → xs = bs.map V.str
  | _, [], h => by cases h; rfl
  | _, b :: bs, h => by
    cases h with
    | cons i t =>
      cases i
      rw [IsAll.strsD t]
      rfl
theorem IsAll.intsD {H : Hp} : ∀ {xs : List V} {bs : List Int}, IsAll K H xs (Mb.intsD bs) → xs = bs.map V.int
  | _, [], h => by cases h; rfl
  | _, b :: bs, h => by
    cases h with
    | cons i t =>
      cases i
      rw [IsAll.intsD t]
      rfl
/-! ### slices -/
section
variable {S : Type} {X : Cx} {ρ : Rs S} {W : WX} {e a b c tg : Expr} {wa wb wc : WE S} {pos p2 : Pos}
abbrev WP (S : Type) := Ctx → S → (Option Int → S → Prop) → (Exn → S → Prop) → Prop
def tWp (K : PySem.W.Frag) (ρ : Rs S) (W : WX) (w : WP S) : TO := fun σ H Q => ∃ (H0 Hs : Hp) (Γ : Ctx) (s : S) (q : Option Int → S → Prop) (r : Exn → S → Prop),
  Gd ρ s Hs H ∧ Slots K ρ H0 σ Hs H Γ ∧ w Γ s q r ∧ (∀ b s' Hs' H', Rel ρ Hs H Hs' H' → Gd ρ s' Hs' H' → q b s' → Q b H') ∧ XOk K ρ W σ Hs H r
structure MP (X : Cx) (ρ : Rs S) (W : WX) (e : Option Expr) (w : WP S) : Prop where
  po : PO X e (tWp X.K ρ W w)
theorem _root_.L2.PO.imp {X : Cx} {e : Option Expr} {t t' : TO} (h : PO X e t) (f : ∀ σ H Q, t' σ H Q → t σ H Q) : PO X e t' := ⟨fun pins s σ H Q I q => h.run pins s σ H Q I (f _ _ _ q)⟩
@[simp] def wP0 : WP S := fun _ s q _ => q none s
@[simp] def wP1 (wa : WE S) : WP S := fun Γ s q r => wa Γ s (fun d s1 => d.asInt fun i => q (some i) s1) r
def cutD (xs : List D) (lo hi : Option Int) : List D := (xs.drop (HT.sIx xs.length 0 lo)).take (HT.sIx xs.length xs.length hi - HT.sIx xs.length 0 lo)
theorem IsAll.cut {H : Hp} {vs : List V} {ds : List D} (h : IsAll K H vs ds) (lo hi : Option Int) : IsAll K H (cutV vs lo hi) (cutD ds lo hi) := by
  unfold cutV cutD
  rw [h.length]
  exact (h.drop _).take _
@[simp] def wSl (g : D → Option Int → Option Int → (D → Prop) → Prop) (wa : WE S) (w1 w2 : WP S) : WE S := fun Γ s q r => wa Γ s (fun d s1 => w1 Γ s1 (fun lo s2 => w2 Γ s2 (fun hi s3 => g d lo hi fun d' => q d' s3) r) r) r
@[simp] def wSlO (g : D → Option Int → Option Int → (List D → Prop) → Prop) (wa : WE S) (w1 w2 : WP S) : WO S := fun Γ s q r => wa Γ s (fun d s1 => w1 Γ s1 (fun lo s2 => w2 Γ s2 (fun hi s3 => g d lo hi fun d' => q d' s3) r) r) r
/-- sep.join(xs) -/
@[simp] def wJoin (wa wb : WE S) : WE S := fun Γ s q r => wa Γ s (fun d s1 => d.asStr fun z => wb Γ s1 (fun d2 s2 => ∃ ys : List Str, (d2 = .lst (strsD ys) ∨ d2 = .tup (strsD ys)) ∧ (ys.map (·.length)).sum + ys.length * z.length ≤ 1000000 ∧ q (.str (Txt.join z ys)) s2) r) r
end
end Mb
namespace Mb
open PySem PySem.Spec PyProof.Rows L2
open Evl (Ex)
/-! ### operators of several kinds at once -/
section
variable {K : PySem.W.Frag} {X : Cx}
def gAddA : G2 := fun d e q => gAdd d e q ∨ ∃ l l', d = .lst l ∧ e = .lst l' ∧ l.length + l'.length ≤ 1000000 ∧ q (.lst (l ++ l'))
def rAddL (K : PySem.W.Frag) : R2 := fun x y H Q => rAddA K x y H Q ∨ rCat x y H Q
theorem or_addA : OpR X (binaryOp .Add) (rAddL X.K) := OpR.or or_add op_cat
theorem snd_addA : SndB K (rAddL K) gAddA := fun Hs H x y d e q Q ex i1 i2 h k k2 => by
  rcases h with h | ⟨l, l', rfl, rfl, hl, h⟩
  · exact Or.inl (snd_add Hs H x y d e q Q ex i1 i2 h k k2)
  · cases i1 with
    | lst hq hv =>
      cases i2 with
      | lst hq' hv' => exact Or.inr ⟨_, _, _, _, rfl, rfl, ex _ _ hq, ex _ _ hq', by rw [hv.length, hv'.length]; exact size_le hl, fun p hp => k2 p _ _ h hp (.lst upd_same ((hv.app hv').mono (Ex.new (exFree ex hp))))⟩
def gMulA : G2 := fun d e q => gIC CMulW (fun i j => .int (i * j)) d e q ∨ gRep d e fun l => q (.lst l)
def rMulL : R2 := fun x y H Q => rI CMulW (fun i j => .int (i * j)) x y H Q ∨ rRep x y H Q
theorem or_mulA : OpR X (binaryOp .Mult) rMulL := OpR.or op_mulW op_rep
theorem snd_mulA : SndB K rMulL gMulA := fun Hs H x y d e q Q ex i1 i2 h k k2 => by
  rcases h with h | ⟨l, n, rfl, rfl, h1, h2, hl, h⟩
  · exact Or.inl (snd_mulW Hs H x y d e q Q ex i1 i2 h k k2)
  · cases i2
    cases i1 with
    | lst hq hv => exact Or.inr ⟨_, n, _, rfl, rfl, ex _ _ hq, by omega, by omega, by rw [hv.length]; exact size_le hl, fun p hp => k2 p _ _ h hp (.lst upd_same ((hv.rep _).mono (Ex.new (exFree ex hp))))⟩
end
section
variable {S : Type} {X : Cx} {ρ : Rs S} {W : WX} {e a b c tg : Expr} {wa wb wc : WE S} {pos p2 : Pos}
/-! ### a def as callers see it -/
structure Cal (P : Program) (wd : World) (K : PySem.W.Frag) (mg : Str → Option Value) (base : Heap) (x : Str) (ps : List Str) (k : Nat) (sp : Sp) : Prop where
  it : ∃ f fd, FnOk P wd K mg base CX0 k f fd ps sp ∧ mg x = some (.ref f) ∧ PySem.W.keepIn K (.ref f) = true ∧ Binds K fd ps []
theorem pass0A {X : Cx} {E : L2.St → XK} : ∀ σ, PassesAt CX0 X σ (E σ) := fun _ _ _ _ _ _ _ h => h.elim
theorem me_fn {x : Str} {ps : List Str} {k : Nat} {F : FW S} {p : Pos} {es : List Expr} {w : WO S} (C : Cal X.prog X.w X.K X.mg X.base x ps k (spW X.K ρ F)) (hr : Room k X.A) (ha : MA X ρ W (e :: es) w) (hg : Gl X x := by rfl) (hdb : (x == ("__debug__" : Str)) = false := by decide)
    (he : starEach (e :: es) X.env = (false, eval e X.env) :: starEach es X.env := by rfl) (hpl : (backTo pos (starEach es X.env)).any (·.1) = false := by rfl) : ME X ρ W (.Call (.Name x p) (e :: es) [] pos) (wFn F [] w) := by
  obtain ⟨f, fd, Fk, hm, hk, hb⟩ := C.it
  exact me_call Fk hr hm hk hb .nil (fun _ => .nil) pass0A ha hg hdb he hpl
/-- of a def that shares nothing -/
theorem Cal.up {P : Program} {wd : World} {K : PySem.W.Frag} {mg : Str → Option Value} {base : Heap} {x : Str} {ps : List Str} {k : Nat} {F : FP} (C : Cal P wd K mg base x ps k (spP K F)) : Cal P wd K mg base x ps k (spW K ρ F.up) := by
  obtain ⟨f, fd, Fk, h⟩ := C.it
  exact ⟨f, fd, Fk.up, h⟩
/-- the short way to a def's promise -/
theorem fn_of' {P : Program} {wd : World} {K : PySem.W.Frag} {mg : Str → Option Value} {base : Heap} {x qual : Str} {st : Stmt} {f : Addr} {fd : FuncData} {N ps : List Str} {k : Nat} {F : FW S} {w : WS S} (Fk : Fun K x qual st f fd) (Sc : FnScope N ps (defScope st))
    (hF : ∀ ds s q r, F ds s q r → ds.length = ps.length ∧ w (startC N.length ds) s (endOf q noX))
    (hbody : ∀ (cdv : Value) (A : Around) (outer : List Env) (s : Shared) (H : Hp) (E : XK), Room k (A.deeper (envOfC qual (defScope st) s.heap.objs.size f cdv)) → MB (cxOf CX0 P wd K mg base N qual (defScope st) f cdv A outer s H E).nox ρ WF (defBody st) w) :
    FnOk P wd K mg base CX0 (k + 1) f fd ps (spW K ρ F) := by
  refine Fk.ok Sc (fun vs H Q E h => ?_) (fun cdv A outer s H vs Q E hr h => ?_)
  · obtain ⟨Hs, s, ds, q, r, G, I, h, _⟩ := h
    rw [I.length]
    exact (hF ds s q r h).1
  · obtain ⟨Hs, s', ds, q, r, G, I, h, kq, _⟩ := h
    refine ⟨_, (hbody cdv A outer s H E hr).pss, H, Hs, Hs, _, s', _, Rel.refl _ _, G, slots_start I, (hF ds s' q r h).2, ⟨fun σ' Hs' H' Γ s2 R' G' L' h' => kq _ (.dat .non) s2 Hs' H' R' G' (Is.non (K := K)) h', fun _ _ _ _ _ _ _ _ z => z.elim, fun _ _ _ _ _ _ _ _ z => z.elim, fun v y s2 Hs' H' R' G' i' h' => kq v y s2 Hs' H' R' G' i' h', fun _ _ _ _ _ _ _ _ _ _ _ _ z => z.elim⟩⟩
/-- [*xs, ..] -/
@[simp] def wStar (wa : WE S) (w : WO S) : WO S := fun Γ s q r => wa Γ s (fun d s1 => ∃ l, (d = .lst l ∨ d = .tup l) ∧ w Γ s1 (fun l2 s2 => q (l ++ l2) s2) r) r
end
end Mb
namespace Mb
open PySem PySem.Spec PyProof.Rows L2
open Evl (Ex)
/-! ### the same words, by matching: a simp set runs them -/
section
variable {K : PySem.W.Frag}
theorem SndB.mono {r : R2} {g g' : G2} (h : SndB K r g') (f : ∀ d e q, g d e q → g' d e q) : SndB K r g := fun Hs H x y d e q Q ex i1 i2 hq k k2 => h Hs H x y d e q Q ex i1 i2 (f _ _ _ hq) k k2
theorem SndC.mono {r : List V → Hp → VK → Prop} {g g' : G1} (h : SndC K r g') (f : ∀ d q, g d q → g' d q) : SndC K r g := fun Hs H x d q Q ex i1 hq k k2 => h Hs H x d q Q ex i1 (f _ _ hq) k k2
theorem SndCO.mono {r : List V → Hp → VK → Prop} {g g' : List D → (List D → Prop) → Prop} (h : SndCO K r g') (f : ∀ d q, g d q → g' d q) : SndCO K r g := fun Hs H x d q Q ex i1 hq k => h Hs H x d q Q ex i1 (f _ _ hq) k
theorem SndBO.mono {r : R2} {g g' : D → D → (List D → Prop) → Prop} (h : SndBO K r g') (f : ∀ d e q, g d e q → g' d e q) : SndBO K r g := fun Hs H x y d e q Q ex i1 i2 hq k => h Hs H x y d e q Q ex i1 i2 (f _ _ _ hq) k
@[simp] def mInt2 (g : Int → Int → D) : G2 := fun d e q => match d, e with | .int i, .int j => q (g i j) | _, _ => False
theorem mInt2_imp {g : Int → Int → D} {d e : D} {q : D → Prop} (h : mInt2 g d e q) : gI g d e q := by
  unfold mInt2 at h
  split at h
  · exact ⟨_, _, rfl, rfl, h⟩
  · exact h.elim
@[simp] def mSub : G2 := mInt2 fun i j => .int (i - j)
theorem ms_sub : SndB K (rI0 fun i j => .int (i - j)) mSub := snd_sub.mono fun _ _ _ h => mInt2_imp h
@[simp] def mInt2C (C : Int → Int → Prop) (g : Int → Int → D) : G2 := fun d e q => match d, e with | .int i, .int j => C i j ∧ q (g i j) | _, _ => False
theorem mInt2C_imp {C : Int → Int → Prop} {g : Int → Int → D} {d e : D} {q : D → Prop} (h : mInt2C C g d e q) : gIC C g d e q := by
  unfold mInt2C at h
  split at h
  · exact ⟨_, _, rfl, rfl, h.1, h.2⟩
  · exact h.elim
@[simp] def mFdiv : G2 := mInt2C CDivW fun i j => .int (i / j)
@[simp] def mMod : G2 := mInt2C (fun _ j => 0 < j) fun i j => .int (i % j)
@[simp] def mPow : G2 := mInt2C CPow fun i j => .int (i ^ j.toNat)
theorem ms_fdiv : SndB K (rI CDivW fun i j => .int (i / j)) mFdiv := snd_fdivW.mono fun _ _ _ h => mInt2C_imp h
theorem ms_mod : SndB K (rI (fun _ j => 0 < j) fun i j => .int (i % j)) mMod := snd_mod.mono fun _ _ _ h => mInt2C_imp h
theorem ms_pow : SndB K (rI CPow fun i j => .int (i ^ j.toNat)) mPow := snd_pow.mono fun _ _ _ h => mInt2C_imp h
def ltS (x y : Str) : Bool := decide (x.cps.toList < y.cps.toList)
@[simp] def mOrd (f : Int → Int → Bool) (g : Str → Str → Bool) : G2 := fun d e q => match d, e with | .int i, .int j => q (.bl (f i j)) | .str x, .str y => q (.bl (g x y)) | _, _ => False
theorem mOrd_imp {f : Int → Int → Bool} {g : Str → Str → Bool} {d e : D} {q : D → Prop} (h : mOrd f g d e q) : (∃ i j, d = .int i ∧ e = .int j ∧ q (.bl (f i j))) ∨ ∃ x y : Str, d = .str x ∧ e = .str y ∧ q (.bl (g x y)) := by
  unfold mOrd at h
  split at h
  · exact Or.inl ⟨_, _, rfl, rfl, h⟩
  · exact Or.inr ⟨_, _, rfl, rfl, h⟩
  · exact h.elim
@[simp] def mLt : G2 := mOrd (fun i j => decide (i < j)) (fun x y => ltS x y)
@[simp] def mLe : G2 := mOrd (fun i j => decide (i ≤ j)) (fun x y => !ltS y x)
@[simp] def mGt : G2 := mOrd (fun i j => decide (j < i)) (fun x y => ltS y x)
@[simp] def mGe : G2 := mOrd (fun i j => decide (j ≤ i)) (fun x y => !ltS x y)
theorem ms_lt : SndB K (fun x y H Q => rI0 (fun i j => .bl (decide (i < j))) x y H Q ∨ ∃ i j, x = V.str i ∧ y = V.str j ∧ Q (.bl (decide (i.cps.toList < j.cps.toList))) H) mLt := snd_lt.mono fun _ _ _ h => mOrd_imp h
theorem ms_gt : SndB K (fun x y H Q => rI0 (fun i j => .bl (decide (j < i))) x y H Q ∨ ∃ i j, x = V.str i ∧ y = V.str j ∧ Q (.bl (decide (j.cps.toList < i.cps.toList))) H) mGt := snd_gt.mono fun _ _ _ h => mOrd_imp h
theorem ms_ge : SndB K (fun x y H Q => rI0 (fun i j => .bl (decide (j ≤ i))) x y H Q ∨ ∃ i j, x = V.str i ∧ y = V.str j ∧ Q (.bl (!decide (i.cps.toList < j.cps.toList))) H) mGe := snd_ge.mono fun _ _ _ h => mOrd_imp h
@[simp] def mIsN (neg : Bool) : G2 := fun d e q => match e with | .non => (match d with | .non => q (.bl (!neg)) | _ => q (.bl neg)) | _ => False
/-- one sign -/
def one? (x : Str) : Option Nat := match x.cps.toList with | [c] => some c | _ => none
@[simp] theorem one_mk (c : Nat) : one? ⟨#[c]⟩ = some c := rfl
@[simp] def mIn (neg : Bool) : G2 := fun d e q => match e with
  | .lst l => Pl 59 d ∧ (∀ z ∈ l, Pl 59 z) ∧ q (.bl (neg.xor (inD d l)))
  | .tup l => ((d.flat = true ∧ l.all D.flat = true) ∨ (Pl 59 d ∧ ∀ z ∈ l, Pl 59 z)) ∧ q (.bl (neg.xor (inD d l)))
  | .dic ks l => ks.length = l.length ∧ ∃ k, keyOf d = some k ∧ q (.bl (neg.xor (inK k ks)))
  | .dif ks l => ks.length = l.length ∧ ∃ k, keyOf d = some k ∧ q (.bl (neg.xor (inK k ks)))
  | .str z => d.asStr fun x => ∃ c, one? x = some c ∧ q (.bl (neg.xor (decide (c ∈ z.cps.toList))))
  | _ => False
@[simp] def mAdd : G2 := fun d e q => match d, e with
  | .int i, .int j => q (.int (i + j))
  | .str x, .str y => x.length + y.length ≤ 1000000 ∧ q (.str (x ++ y))
  | .tup l, .tup l' => l.length + l'.length ≤ 1000000 ∧ q (.tup (l ++ l'))
  | .lst l, .lst l' => l.length + l'.length ≤ 1000000 ∧ q (.lst (l ++ l'))
  | _, _ => False
theorem ms_add : SndB K (rAddL K) mAdd := snd_addA.mono fun d e q h => by
  unfold mAdd at h
  split at h
  · exact Or.inl (Or.inl ⟨_, _, rfl, rfl, h⟩)
  · exact Or.inl (Or.inr (Or.inl ⟨_, _, rfl, rfl, h.1, h.2⟩))
  · exact Or.inl (Or.inr (Or.inr ⟨_, _, rfl, rfl, h.1, h.2⟩))
  · exact Or.inr ⟨_, _, rfl, rfl, h.1, h.2⟩
  · exact h.elim
@[simp] def mMul : G2 := fun d e q => match d, e with
  | .int i, .int j => CMulW i j ∧ q (.int (i * j))
  | .lst l, .int n => -1000000 ≤ n ∧ n ≤ 1000000 ∧ l.length * n.toNat ≤ 1000000 ∧ q (.lst (List.replicate n.toNat l).flatten)
  | _, _ => False
theorem ms_mul : SndB K rMulL mMul := snd_mulA.mono fun d e q h => by
  unfold mMul at h
  split at h
  · exact Or.inl ⟨_, _, rfl, rfl, h.1, h.2⟩
  · exact Or.inr ⟨_, _, rfl, rfl, h⟩
  · exact h.elim
@[simp] def mCat : D → D → (List D → Prop) → Prop := fun d e q => match d, e with
  | .lst l, .lst l' => l.length + l'.length ≤ 1000000 ∧ q (l ++ l')
  | _, _ => False
def someD {α : Type} (o : Option α) (q : α → Prop) : Prop := match o with | some d => q d | none => False
@[simp] def mIx : G2 := fun d e q => e.asInt fun n => match d with
  | .lst l => someD (atI l n) q
  | .tup l => someD (atI l n) q
  | .str z => z.length ≤ 1000000 ∧ someD (atI z.cps.toList n) fun c => q (.str ⟨#[c]⟩)
  | _ => False
@[simp] theorem someD_some {α : Type} {x : α} {q : α → Prop} : someD (some x) q = q x := rfl
@[simp] theorem someD_none {α : Type} {q : α → Prop} : someD none q = False := rfl
theorem some_of {α : Type} {o : Option α} {q : α → Prop} (h : someD o q) : ∃ d, o = some d ∧ q d := by
  cases o with
  | none => exact h.elim
  | some d => exact ⟨d, rfl, h⟩
theorem ms_ix : SndB K (rIx K) mIx := snd_ix.mono fun d e q h => by
  obtain ⟨n, rfl, h⟩ := D.int_of h
  refine ⟨n, rfl, ?_⟩
  cases d with
  | lst l =>
    obtain ⟨x, e, h⟩ := some_of h
    exact Or.inl ⟨l, x, Or.inl rfl, e, h⟩
  | tup l =>
    obtain ⟨x, e, h⟩ := some_of h
    exact Or.inl ⟨l, x, Or.inr rfl, e, h⟩
  | str z =>
    obtain ⟨x, e, h2⟩ := some_of h.2
    exact Or.inr ⟨z, x, rfl, h.1, e, h2⟩
  | _ => exact h.elim
@[simp] def mLen : G1 := fun ds q => match ds with
  | [.lst l] => q (.int l.length)
  | [.tup l] => q (.int l.length)
  | [.str z] => z.length ≤ 1000000 ∧ q (.int z.length)
  | _ => False
theorem ms_len : SndC K (fun xs H Q => ∃ x n, xs = [x] ∧ LenV K x H n ∧ Q (.int n) H) mLen := snd_len.mono fun d q h => by
  unfold mLen at h
  split at h
  · exact ⟨_, rfl, Or.inl ⟨_, Or.inl rfl, h⟩⟩
  · exact ⟨_, rfl, Or.inl ⟨_, Or.inr rfl, h⟩⟩
  · exact ⟨_, rfl, Or.inr ⟨_, rfl, h.1, h.2⟩⟩
  · exact h.elim
/-- isinstance(d, S) of a built-in class S -/
def isiD (d : D) (S : String) : Option Bool := d.tyN.bind fun T => kitB T S
@[simp] def mIsi : G1 := fun ds q => match ds with
  | [d, .ty S] => someD (isiD d S) fun b => q (.bl b)
  | _ => False
@[simp] def mIntC : G1 := fun ds q => match ds with
  | [.int i] => q (.int i)
  | [.bl b] => q (.int (if b = true then 1 else 0))
  | _ => False
theorem ms_int : SndC K (fun xs H Q => (∃ i, xs = [.int i] ∧ Q (.int i) H) ∨ ∃ k, xs = [.bl k] ∧ Q (.int (if k then 1 else 0)) H) mIntC := snd_int.mono fun ds q h => by
  unfold mIntC at h
  split at h
  · exact Or.inl ⟨_, rfl, h⟩
  · exact Or.inr ⟨_, rfl, h⟩
  · exact h.elim
@[simp] def mMax : G1 := fun ds q => match ds with | [.int i, .int j] => q (.int (if j > i then j else i)) | _ => False
@[simp] def mMin : G1 := fun ds q => match ds with | [.int i, .int j] => q (.int (if j < i then j else i)) | _ => False
@[simp] def mTuple : G1 := fun ds q => match ds with | [.lst l] => q (.tup l) | [.tup l] => q (.tup l) | _ => False
@[simp] def mList : List D → (List D → Prop) → Prop := fun ds q => match ds with | [.lst l] => q l | [.tup l] => q l | _ => False
def D.tr : D → Bool
  | .bl b => b
  | _ => false
def D.isBl : D → Bool
  | .bl _ => true
  | _ => false
@[simp] theorem isBl_bl {b : Bool} : D.isBl (.bl b) = true := rfl
@[simp] theorem tr_bl {b : Bool} : D.tr (.bl b) = b := rfl
@[simp] def mAll : G1 := fun ds q => match ds with | [.lst l] => l.all D.isBl = true ∧ q (.bl (l.all D.tr)) | _ => False
@[simp] def mAny : G1 := fun ds q => match ds with | [.lst l] => l.all D.isBl = true ∧ q (.bl (l.any D.tr)) | _ => False
end
section
variable {S : Type} {X : Cx} {ρ : Rs S} {W : WX} {e a b c tg : Expr} {wa wb wc : WE S} {pos p2 : Pos}
theorem me_ix (ha : ME X ρ W a wa) (hb : ME X ρ W b wb) (hs : PlainIx b := by exact fun _ _ => rfl) : ME X ρ W (.Subscript a b pos) (wBin mIx wa wb) :=
  me_bin2 (f := fun _ t => t) (fun _ _ p q => pe_ix ix_seq p q hs) ms_ix ha hb
theorem hu64 {A : Around} {k : Nat} (hr : Room k A) : A.units + 64 < cLine := by have := hr.un; omega
theorem hu65 {A : Around} {k : Nat} (hr : Room k A) : A.units + 65 < cLine := by have := hr.un; omega
end
/-! ### comprehensions whose elements are computed -/
section
variable {S : Type} {wi : WO S} {g : WG} {wt : WT S} {we : WE S} {vs : List Nat} {Γ : Ctx} {s : S} {q : List D → S → Prop} {r : Exn → S → Prop}
end
/-! ### plain words that a simp set runs -/
@[simp] theorem pl_non {n : Nat} : Pl n .non ↔ True := ⟨fun _ => trivial, fun _ => .non⟩
@[simp] theorem pl_int {n : Nat} {i : Int} : Pl n (.int i) ↔ True := ⟨fun _ => trivial, fun _ => .int i⟩
@[simp] theorem pl_bl {n : Nat} {i : Bool} : Pl n (.bl i) ↔ True := ⟨fun _ => trivial, fun _ => .bl i⟩
@[simp] theorem eqD_int {i j : Int} : eqD (.int i) (.int j) = decide (i = j) := by
  show (i == j) = _
  by_cases h : i = j
  · simp [h]
  · simp [h]
@[simp] theorem eqD_str {i j : Str} : eqD (.str i) (.str j) = decide (i = j) := by
  show (i == j) = _
  by_cases h : i = j
  · simp [h]
  · simp [h]
@[simp] theorem eqD_bl {i j : Bool} : eqD (.bl i) (.bl j) = decide (i = j) := by
  show (i == j) = _
  by_cases h : i = j
  · simp [h]
  · simp [h]
@[simp] theorem eqD_non : eqD .non .non = true := rfl
@[simp] theorem eqD_non_str {j : Str} : eqD .non (.str j) = false := rfl
@[simp] theorem eqD_str_non {j : Str} : eqD (.str j) .non = false := rfl
@[simp] theorem eqD_int_str {i : Int} {j : Str} : eqD (.int i) (.str j) = false := rfl
@[simp] theorem eqD_str_int {i : Int} {j : Str} : eqD (.str j) (.int i) = false := rfl
@[simp] theorem inD_nil {d : D} : inD d [] = false := rfl
@[simp] theorem inD_cons {d a : D} {l : List D} : inD d (a :: l) = (eqD a d || inD d l) := rfl
@[simp] theorem atI_0 {α : Type} {a : α} {l : List α} : atI (a :: l) 0 = some a := by
  unfold atI ixN
  simp
theorem atI_nat {α : Type} {l : List α} {i : Nat} (h : i < l.length) : atI l (i : Int) = some l[i] := by
  unfold atI ixN
  rw [if_pos (by omega), if_pos (by omega)]
  simp [h]
@[simp] theorem atI_1 {α : Type} {a b : α} {l : List α} : atI (a :: b :: l) 1 = some b := by
  have h := atI_nat (l := a :: b :: l) (i := 1) (by simp)
  simpa using h
theorem kb_NoneType_int : kitB "NoneType" "int" = some false := by decide +kernel
@[simp] theorem isi_NoneType_int : isiD .non "int" = some false := kb_NoneType_int
theorem kb_NoneType_str : kitB "NoneType" "str" = some false := by decide +kernel
@[simp] theorem isi_NoneType_str : isiD .non "str" = some false := kb_NoneType_str
theorem kb_NoneType_bool : kitB "NoneType" "bool" = some false := by decide +kernel
@[simp] theorem isi_NoneType_bool : isiD .non "bool" = some false := kb_NoneType_bool
theorem kb_NoneType_tuple : kitB "NoneType" "tuple" = some false := by decide +kernel
@[simp] theorem isi_NoneType_tuple : isiD .non "tuple" = some false := kb_NoneType_tuple
theorem kb_NoneType_list : kitB "NoneType" "list" = some false := by decide +kernel
@[simp] theorem isi_NoneType_list : isiD .non "list" = some false := kb_NoneType_list
theorem kb_NoneType_dict : kitB "NoneType" "dict" = some false := by decide +kernel
@[simp] theorem isi_NoneType_dict : isiD .non "dict" = some false := kb_NoneType_dict
theorem kb_bool_int : kitB "bool" "int" = some true := by decide +kernel
@[simp] theorem isi_bool_int (b : Bool) : isiD (.bl b) "int" = some true := kb_bool_int
theorem kb_bool_str : kitB "bool" "str" = some false := by decide +kernel
@[simp] theorem isi_bool_str (b : Bool) : isiD (.bl b) "str" = some false := kb_bool_str
theorem kb_bool_bool : kitB "bool" "bool" = some true := by decide +kernel
@[simp] theorem isi_bool_bool (b : Bool) : isiD (.bl b) "bool" = some true := kb_bool_bool
theorem kb_bool_tuple : kitB "bool" "tuple" = some false := by decide +kernel
@[simp] theorem isi_bool_tuple (b : Bool) : isiD (.bl b) "tuple" = some false := kb_bool_tuple
theorem kb_bool_list : kitB "bool" "list" = some false := by decide +kernel
@[simp] theorem isi_bool_list (b : Bool) : isiD (.bl b) "list" = some false := kb_bool_list
theorem kb_bool_dict : kitB "bool" "dict" = some false := by decide +kernel
@[simp] theorem isi_bool_dict (b : Bool) : isiD (.bl b) "dict" = some false := kb_bool_dict
theorem kb_int_int : kitB "int" "int" = some true := by decide +kernel
@[simp] theorem isi_int_int (b : Int) : isiD (.int b) "int" = some true := kb_int_int
theorem kb_int_str : kitB "int" "str" = some false := by decide +kernel
@[simp] theorem isi_int_str (b : Int) : isiD (.int b) "str" = some false := kb_int_str
theorem kb_int_bool : kitB "int" "bool" = some false := by decide +kernel
@[simp] theorem isi_int_bool (b : Int) : isiD (.int b) "bool" = some false := kb_int_bool
theorem kb_int_tuple : kitB "int" "tuple" = some false := by decide +kernel
@[simp] theorem isi_int_tuple (b : Int) : isiD (.int b) "tuple" = some false := kb_int_tuple
theorem kb_int_list : kitB "int" "list" = some false := by decide +kernel
@[simp] theorem isi_int_list (b : Int) : isiD (.int b) "list" = some false := kb_int_list
theorem kb_int_dict : kitB "int" "dict" = some false := by decide +kernel
@[simp] theorem isi_int_dict (b : Int) : isiD (.int b) "dict" = some false := kb_int_dict
theorem kb_str_int : kitB "str" "int" = some false := by decide +kernel
@[simp] theorem isi_str_int (b : Str) : isiD (.str b) "int" = some false := kb_str_int
theorem kb_str_str : kitB "str" "str" = some true := by decide +kernel
@[simp] theorem isi_str_str (b : Str) : isiD (.str b) "str" = some true := kb_str_str
theorem kb_str_bool : kitB "str" "bool" = some false := by decide +kernel
@[simp] theorem isi_str_bool (b : Str) : isiD (.str b) "bool" = some false := kb_str_bool
theorem kb_str_tuple : kitB "str" "tuple" = some false := by decide +kernel
@[simp] theorem isi_str_tuple (b : Str) : isiD (.str b) "tuple" = some false := kb_str_tuple
theorem kb_str_list : kitB "str" "list" = some false := by decide +kernel
@[simp] theorem isi_str_list (b : Str) : isiD (.str b) "list" = some false := kb_str_list
theorem kb_str_dict : kitB "str" "dict" = some false := by decide +kernel
@[simp] theorem isi_str_dict (b : Str) : isiD (.str b) "dict" = some false := kb_str_dict
theorem kb_list_int : kitB "list" "int" = some false := by decide +kernel
@[simp] theorem isi_list_int (b : List D) : isiD (.lst b) "int" = some false := kb_list_int
theorem kb_list_str : kitB "list" "str" = some false := by decide +kernel
@[simp] theorem isi_list_str (b : List D) : isiD (.lst b) "str" = some false := kb_list_str
theorem kb_list_bool : kitB "list" "bool" = some false := by decide +kernel
@[simp] theorem isi_list_bool (b : List D) : isiD (.lst b) "bool" = some false := kb_list_bool
theorem kb_list_tuple : kitB "list" "tuple" = some false := by decide +kernel
@[simp] theorem isi_list_tuple (b : List D) : isiD (.lst b) "tuple" = some false := kb_list_tuple
theorem kb_list_list : kitB "list" "list" = some true := by decide +kernel
@[simp] theorem isi_list_list (b : List D) : isiD (.lst b) "list" = some true := kb_list_list
theorem kb_list_dict : kitB "list" "dict" = some false := by decide +kernel
@[simp] theorem isi_list_dict (b : List D) : isiD (.lst b) "dict" = some false := kb_list_dict
theorem kb_tuple_int : kitB "tuple" "int" = some false := by decide +kernel
@[simp] theorem isi_tuple_int (b : List D) : isiD (.tup b) "int" = some false := kb_tuple_int
theorem kb_tuple_str : kitB "tuple" "str" = some false := by decide +kernel
@[simp] theorem isi_tuple_str (b : List D) : isiD (.tup b) "str" = some false := kb_tuple_str
theorem kb_tuple_bool : kitB "tuple" "bool" = some false := by decide +kernel
@[simp] theorem isi_tuple_bool (b : List D) : isiD (.tup b) "bool" = some false := kb_tuple_bool
theorem kb_tuple_tuple : kitB "tuple" "tuple" = some true := by decide +kernel
@[simp] theorem isi_tuple_tuple (b : List D) : isiD (.tup b) "tuple" = some true := kb_tuple_tuple
theorem kb_tuple_list : kitB "tuple" "list" = some false := by decide +kernel
@[simp] theorem isi_tuple_list (b : List D) : isiD (.tup b) "list" = some false := kb_tuple_list
theorem kb_tuple_dict : kitB "tuple" "dict" = some false := by decide +kernel
@[simp] theorem isi_tuple_dict (b : List D) : isiD (.tup b) "dict" = some false := kb_tuple_dict
theorem kb_dict_int : kitB "dict" "int" = some false := by decide +kernel
@[simp] theorem isi_dict_int (ks : List Key) (b : List D) : isiD (.dic ks b) "int" = some false := kb_dict_int
theorem kb_dict_str : kitB "dict" "str" = some false := by decide +kernel
@[simp] theorem isi_dict_str (ks : List Key) (b : List D) : isiD (.dic ks b) "str" = some false := kb_dict_str
theorem kb_dict_bool : kitB "dict" "bool" = some false := by decide +kernel
@[simp] theorem isi_dict_bool (ks : List Key) (b : List D) : isiD (.dic ks b) "bool" = some false := kb_dict_bool
theorem kb_dict_tuple : kitB "dict" "tuple" = some false := by decide +kernel
@[simp] theorem isi_dict_tuple (ks : List Key) (b : List D) : isiD (.dic ks b) "tuple" = some false := kb_dict_tuple
theorem kb_dict_list : kitB "dict" "list" = some false := by decide +kernel
@[simp] theorem isi_dict_list (ks : List Key) (b : List D) : isiD (.dic ks b) "list" = some false := kb_dict_list
theorem kb_dict_dict : kitB "dict" "dict" = some true := by decide +kernel
@[simp] theorem isi_dict_dict (ks : List Key) (b : List D) : isiD (.dic ks b) "dict" = some true := kb_dict_dict
end Mb
namespace Mb
open PySem PySem.Spec PyProof.Rows L2
open Evl (Ex)
/-! ### the source of draws -/
structure Dr where
  d : Addr
  g : Addr
  l : Addr
  ls : List Int
  ne : d ≠ g
structure DS where
  dg : Int
  gr : List Int
  tn : Int
abbrev intsV (l : List Int) : List V := l.map V.int
abbrev intsD' (l : List Int) : List D := l.map D.int
def drK (dr : Dr) (s : DS) : List (Key × V) := [(Sum.inr ("digits" : Str), V.int s.dg), (Sum.inr ("great" : Str), V.ref dr.g), (Sum.inr ("lumps" : Str), V.ref dr.l), (Sum.inr ("turn" : Str), V.int s.tn)]
def drI (dr : Dr) (s : DS) (Hs H : Hp) : Prop := H dr.d = some (.dK (drK dr s)) ∧ H dr.g = some (.lst (intsV s.gr)) ∧ Hs dr.l = some (.lst (intsV dr.ls))
def drOwn (dr : Dr) (b : Addr) : Prop := b = dr.d ∨ b = dr.g
def dsR (dr : Dr) : Rs DS where
  own := drOwn dr
  inv := fun s Hs H => drI dr s Hs H
  loc := fun s _ H H' h ⟨h1, h2, h3⟩ => ⟨(h _ (Or.inl rfl)).trans h1, (h _ (Or.inr rfl)).trans h2, h3⟩
  mono := fun _ _ _ _ e ⟨h1, h2, h3⟩ => ⟨h1, h2, e _ _ h3⟩
  dom := fun s _ H b ⟨h1, h2, _⟩ o => by
    rcases o with rfl | rfl
    · exact ⟨_, h1⟩
    · exact ⟨_, h2⟩
instance (dr : Dr) : Rs.Flat (dsR dr) := ⟨fun _ _ _ _ _ _ _ ⟨_, _, h⟩ n _ e ⟨h1, h2, _⟩ => ⟨h1, h2, off_ex e n _ _ h⟩⟩
/-- the dict, the list of the lumps behind it -/
abbrev drD (dr : Dr) : D := .adr dr.d
theorem is_drD {K : PySem.W.Frag} {H : Hp} {v : V} {dr : Dr} (h : Is K H v (drD dr)) : v = .ref dr.d := by
  cases h with
  | adr => rfl
theorem is_ints {K : PySem.W.Frag} {H : Hp} : ∀ l : List Int, IsAll K H (intsV l) (intsD' l)
  | [] => .nil
  | i :: l => .cons (.int i) (is_ints l)
theorem valV_dg (dr : Dr) (s : DS) : valV (drK dr s) (Sum.inr ("digits" : Str)) = some (V.int s.dg) := by
  unfold drK
  rw [valV_pos rfl]
theorem nk {a b : Str} (h : ¬ a = b) : ¬ (Sum.inr a : Key) = Sum.inr b := fun z => h (Sum.inr.inj z)
theorem valV_gr (dr : Dr) (s : DS) : valV (drK dr s) (Sum.inr ("great" : Str)) = some (V.ref dr.g) := by
  unfold drK
  rw [valV_neg (nk (by decide)), valV_pos rfl]
theorem valV_ls (dr : Dr) (s : DS) : valV (drK dr s) (Sum.inr ("lumps" : Str)) = some (V.ref dr.l) := by
  unfold drK
  rw [valV_neg (nk (by decide)), valV_neg (nk (by decide)), valV_pos rfl]
theorem valV_tn (dr : Dr) (s : DS) : valV (drK dr s) (Sum.inr ("turn" : Str)) = some (V.int s.tn) := by
  unfold drK
  rw [valV_neg (nk (by decide)), valV_neg (nk (by decide)), valV_neg (nk (by decide)), valV_pos rfl]
theorem putK_dg (dr : Dr) (s : DS) (i : Int) : putK (drK dr s) (Sum.inr ("digits" : Str)) (V.int i) = drK dr { s with dg := i } := by
  unfold putK
  rw [if_pos (by rw [valV_any, valV_dg]; rfl)]
  rfl
theorem putK_tn (dr : Dr) (s : DS) (i : Int) : putK (drK dr s) (Sum.inr ("turn" : Str)) (V.int i) = drK dr { s with tn := i } := by
  unfold putK
  rw [if_pos (by rw [valV_any, valV_tn]; rfl)]
  rfl
section
variable {X : Cx} {dr : Dr} {W : WX} {e o : Expr} {wa : WE DS} {pos p p2 p3 p4 : Pos} {j : Nat} {i : Nat}
/-- draw["digits"], draw["turn"], draw["lumps"] -/
@[simp] def wDg (dr : Dr) (i : Nat) (f : DS → D) : WE DS := fun Γ s q _ => Γ.asDat i fun d => d = drD dr ∧ q (f s) s
theorem me_dgK {k : Str} {f : DS → D} {v : DS → V} (hu : X.A.units + 64 < cLine) (hk : ∀ s, valV (drK dr s) (Sum.inr k) = some (v s)) (hv : ∀ s H, H dr.l = some (.lst (intsV dr.ls)) → Is X.K H (v s) (f s)) (ho : PE X o (tVar i)) : ME X (dsR dr) W (.Subscript o (.Constant (.str k) j p) pos) (wDg dr i f) :=
  ⟨(pe_dget (by omega) ho pe_str (fun _ _ => rfl)).imp fun σ H Q ⟨H0, Hs, Γ, s, q, r, G, L, h, kq, _⟩ => by
    obtain ⟨d, e, rfl, h⟩ := Ctx.dat_of h
    obtain ⟨u, e1, i1⟩ := L.get e
    obtain rfl := is_drD i1
    have hl := G.inv.2.2
    exact ⟨_, e1, dr.d, v s, rfl, .inl ⟨_, Sum.inr k, .inl G.inv.1, rfl, (hk s).symm⟩, kq _ (f s) s Hs H (Rel.refl _ _) G (hv s Hs hl) h⟩⟩
theorem me_dgD (hu : X.A.units + 64 < cLine) (ho : PE X o (tVar i)) : ME X (dsR dr) W (.Subscript o (.Constant (.str "digits") j p) pos) (wDg dr i fun s => .int s.dg) := me_dgK hu (fun s => valV_dg dr s) (fun s _ _ => .int _) ho
theorem me_dgT (hu : X.A.units + 64 < cLine) (ho : PE X o (tVar i)) : ME X (dsR dr) W (.Subscript o (.Constant (.str "turn") j p) pos) (wDg dr i fun s => .int s.tn) := me_dgK hu (fun s => valV_tn dr s) (fun s _ _ => .int _) ho
theorem me_dgL (hu : X.A.units + 64 < cLine) (ho : PE X o (tVar i)) : ME X (dsR dr) W (.Subscript o (.Constant (.str "lumps") j p) pos) (wDg dr i fun _ => .lst (intsD' dr.ls)) := me_dgK hu (fun s => valV_ls dr s) (fun s _ h => .lst h (is_ints _)) ho
theorem dp_ints {K : PySem.W.Frag} {H : Hp} : ∀ l : List Int, DpAll K H (intsV l) (D.pys (intsD' l))
  | [] => .nil
  | i :: l => .cons (.int i) (dp_ints l)
/-- draw["great"] != [] -/
@[simp] def wGr (dr : Dr) (i : Nat) : WE DS := fun Γ s q _ => Γ.asDat i fun d => d = drD dr ∧ q (.bl (decide (s.gr ≠ []))) s
theorem pl_ints (l : List Int) : Pl 60 (.lst (intsD' l)) := .lst fun d hd => by
  obtain ⟨i, _, rfl⟩ := List.mem_map.mp hd
  exact .int i
theorem gr_core {K : PySem.W.Frag} {σ : L2.St} {H : Hp} {Q : VK} (h : tW K (dsR dr) W (wGr dr i) σ H Q) : tOp (rNeD K) (tDGet (tVar i) (tC (.str "great"))) (tLst tNil) σ H Q := by
  obtain ⟨H0, Hs, Γ, s, q, r, G, L, h, kq, _⟩ := h
  obtain ⟨d, e, rfl, h⟩ := Ctx.dat_of h
  obtain ⟨u, e1, i1⟩ := L.get e
  obtain rfl := is_drD i1
  refine ⟨_, e1, dr.d, .ref dr.g, rfl, .inl ⟨_, Sum.inr "great", .inl G.inv.1, rfl, (valV_gr dr s).symm⟩, Nat.zero_le _, fun a ha => ?_⟩
  have n := G.put (o := .lst []) ha
  refine ⟨.list (D.pys (intsD' s.gr)), .list [], .lst (SqL.of (n.1.inv.2.1)) (dp_ints _), .lst (SqL.of upd_same) .nil, (pl_ints s.gr).shaped (by decide), rfl, ?_⟩
  have b : (!PyData.eqv (.list (D.pys (intsD' s.gr))) (.list [])) = decide (s.gr ≠ []) := by
    cases hh : s.gr with
    | nil => rfl
    | cons x t => rfl
  rw [b]
  exact kq _ _ s Hs _ n.2 n.1 (.bl _) h
theorem mt_gr (hu : X.A.units + 64 < cLine) (ho : PE X o (tVar i)) : MT X (dsR dr) W (.Compare (.Subscript o (.Constant (.str "great") j p) p2) [.NotEq] [.List [] p3] pos) (wTest (wGr dr i)) :=
  ⟨(pt_cmpR (op_neD hu) (pe_dget (by omega) ho pe_str (fun _ _ => rfl)) (pe_lst pa_nil) (nomark _)).imp fun σ H Q h => gr_core (tW_test h)⟩
/-- draw["great"].pop(0) -/
@[simp] def wPop (dr : Dr) (i : Nat) : WE DS := fun Γ s q _ => Γ.asDat i fun d => d = drD dr ∧ match s.gr with | x :: t => q (.int x) { s with gr := t } | [] => False
theorem me_pop (hu : X.A.units + 64 < cLine) (ho : PE X o (tVar i)) (hpe : ∀ (t : TA) (to : TE), PE X (.Subscript o (.Constant (.str "great") j p) p2) to → PA X [e] t → PE X (.Call (.Attribute (.Subscript o (.Constant (.str "great") j p) p2) "pop" p3) [e] [] pos) (tBM X.K "list" rPopAt to t))
    (he : PE X e (tC (.int 0))) (hs : starEach (e :: []) X.env = (false, eval e X.env) :: starEach [] X.env := by rfl) :
    ME X (dsR dr) W (.Call (.Attribute (.Subscript o (.Constant (.str "great") j p) p2) "pop" p3) [e] [] pos) (wPop dr i) :=
  ⟨(hpe _ _ (pe_dget (by omega) ho pe_str (fun _ _ => rfl)) (pa_cons he pa_nil hs)).imp fun σ H Q ⟨H0, Hs, Γ, s, q, r, G, L, h, kq, _⟩ => by
    obtain ⟨d, e, rfl, h⟩ := Ctx.dat_of h
    obtain ⟨u, e1, i1⟩ := L.get e
    obtain rfl := is_drD i1
    cases hg : s.gr with
    | nil =>
      rw [hg] at h
      exact h.elim
    | cons x t =>
      rw [hg] at h
      have h2 := G.inv.2.1
      rw [hg] at h2
      refine ⟨_, e1, dr.d, .ref dr.g, rfl, .inl ⟨_, Sum.inr "great", .inl G.inv.1, rfl, (valV_gr dr s).symm⟩, Or.inl ⟨rfl, _, SqL.of h2⟩, dr.g, intsV (x :: t), 0, 0, .int x, rfl, rfl, h2, by omega, by omega, ?_, rfl, ?_⟩
      · show seqIndex? 0 (intsV (x :: t)).length = some 0
        unfold seqIndex?
        simp
      · have ex : ∀ b o, ¬ (dsR dr).own b → H b = some o → (upd H dr.g (.lst (intsV t))) b = some o := fun b o n q => by
          rw [upd_ne fun z => n (Or.inr z)]
          exact q
        refine kq (.int x) (.int x) { s with gr := t } Hs _ ⟨Ex.refl _, ex, fun _ _ _ n => n, fun b o q => ?_⟩ ⟨fun b o q => ?_, ⟨?_, upd_same, G.inv.2.2⟩, G.off⟩ (.int x) h
        · by_cases z : b = dr.g
          · subst z
            exact ⟨_, upd_same⟩
          · exact ⟨o, by rw [upd_ne z]; exact q⟩
        · refine ex b o (fun z => ?_) (G.ex b o q)
          rw [G.off b z] at q
          cases q
        · rw [upd_ne dr.ne]
          exact G.inv.1⟩
theorem put_d {K : PySem.W.Frag} {s s' : DS} {Hs H : Hp} (G : Gd (dsR dr) s Hs H) (hg : s'.gr = s.gr) : Rel (dsR dr) Hs H Hs (upd H dr.d (.dK (drK dr s'))) ∧ Gd (dsR dr) s' Hs (upd H dr.d (.dK (drK dr s'))) := by
  have ex : ∀ b o, ¬ (dsR dr).own b → H b = some o → (upd H dr.d (.dK (drK dr s'))) b = some o := fun b o n q => by
    rw [upd_ne fun z => n (Or.inl z)]
    exact q
  refine ⟨⟨Ex.refl _, ex, fun _ _ _ n => n, fun b o q => ?_⟩, ⟨fun b o q => ?_, ⟨upd_same, ?_, G.inv.2.2⟩, G.off⟩⟩
  · by_cases z : b = dr.d
    · subst z
      exact ⟨_, upd_same⟩
    · exact ⟨o, by rw [upd_ne z]; exact q⟩
  · refine ex b o (fun z => ?_) (G.ex b o q)
    rw [G.off b z] at q
    cases q
  · rw [upd_ne dr.ne.symm, hg]
    exact G.inv.2.1
/-- draw["digits"] = e -/
@[simp] def sDg (dr : Dr) (i : Nat) (wa : WE DS) : WS DS := fun Γ s E => wa Γ s (fun d s1 => d.asInt fun n => Γ.asDat i fun d => d = drD dr ∧ E.nx Γ { s1 with dg := n }) noX
theorem noxok {K : PySem.W.Frag} {σ : L2.St} {Hs H : Hp} : XOk K (dsR dr) W σ Hs H noX := fun _ _ _ _ _ _ _ _ _ h => h.elim
theorem ms_dg (hu : X.A.units + 64 < cLine) (ho : PE X o (tVar i)) (ha : ME X (dsR dr) W e wa) (hs : swapsWith e (some (.Subscript o (.Constant (.str "digits") j p) p2)) pos.line X.env = pure false := by rfl) :
    MS X (dsR dr) W (.Assign [.Subscript o (.Constant (.str "digits") j p) p2] e pos) (sDg dr i wa) :=
  ⟨(ps_dput (by omega) ho pe_str ha.pe hs).imp fun D σ H ⟨H0, Hs0, Hs, Γ, s, E, R, G, L, h, A⟩ => ⟨H0, Hs, Γ, s, _, noX, G, L, h, fun v d s1 Hs1 H1 R1 G1 I1 h1 => by
    replace h1 := Mb.D.int_of h1
    obtain ⟨n, rfl, h1⟩ := h1
    cases I1
    obtain ⟨d, e, rfl, h1⟩ := Ctx.dat_of h1
    have L1 := L.step R1
    obtain ⟨u, e1, i1⟩ := L1.get e
    obtain rfl := is_drD i1
    have g := put_d (K := X.K) (s' := { s1 with dg := n }) G1 rfl
    refine ⟨_, e1, dr.d, _, rfl, .inl ⟨_, Sum.inr "digits", G1.inv.1, rfl, by show 4 < sizeLine; decide, rfl⟩, ?_⟩
    rw [putK_dg]
    exact A.nx σ Hs1 _ Γ _ ((R.trans R1).trans g.1) g.2 (L1.step g.1) h1, noxok⟩⟩
/-- draw["turn"] += 1 -/
@[simp] def sTn (dr : Dr) (i : Nat) (n : Int) : WS DS := fun Γ s E => Γ.asDat i fun d => d = drD dr ∧ E.nx Γ { s with tn := s.tn + n }
theorem ms_tn {n : Int} (hu : X.A.units + 64 < cLine) (ho : PE X o (tVar i)) (he : PE X e (tC (.int n))) : MS X (dsR dr) W (.AugAssign (.Subscript o (.Constant (.str "turn") j p) p2) .Add e pos) (sTn dr i n) :=
  ⟨(ps_daug (by omega) ho pe_str he in_add (fun _ _ _ => rfl)).imp fun D σ H ⟨H0, Hs0, Hs, Γ, s, E, R, G, L, h, A⟩ => by
    obtain ⟨d, e, rfl, h1⟩ := Ctx.dat_of h
    obtain ⟨u, e1, i1⟩ := L.get e
    obtain rfl := is_drD i1
    have g := put_d (K := X.K) (s' := { s with tn := s.tn + n }) G rfl
    refine ⟨_, e1, dr.d, _, rfl, .inl ⟨_, Sum.inr "turn", .inl G.inv.1, rfl, (valV_tn dr s).symm⟩, s.tn, n, rfl, rfl, _, .inl ⟨_, Sum.inr "turn", G.inv.1, rfl, by show 4 < sizeLine; decide, rfl⟩, ?_⟩
    rw [putK_tn]
    exact A.nx σ Hs _ Γ _ (R.trans g.1) g.2 (L.step g.1) h1⟩
end
end Mb
namespace Mb
open PySem PySem.Spec PyProof.Rows L2
open Evl (Ex)
/-! ### d.update(o) -/
section
variable {X : Cx}
end
/-! ### dicts by data -/
def putG {β : Type} (kvs : List (Key × β)) (k : Key) (v : β) : List (Key × β) :=
  if (kvs.any fun kv => decide (kv.1 = k)) = true then kvs.map (fun kv => if kv.1 = k then (kv.1, v) else kv) else kvs ++ [(k, v)]
def mergeG {β : Type} (kvs more : List (Key × β)) : List (Key × β) := more.foldl (fun acc kv => putG acc kv.1 kv.2) kvs
inductive KD (K : PySem.W.Frag) (H : Hp) : List (Key × V) → List (Key × D) → Prop
  | nil : KD K H [] []
  | cons {k : Key} {v : V} {d : D} {r : List (Key × V)} {t : List (Key × D)} : Is K H v d → KD K H r t → KD K H ((k, v) :: r) ((k, d) :: t)
section
variable {K : PySem.W.Frag} {H H' : Hp}
theorem KD.mono (e : Ex H H') {r : List (Key × V)} {t : List (Key × D)} (h : KD K H r t) : KD K H' r t := by
  induction h with
  | nil => exact .nil
  | cons i _ ih => exact .cons (i.mono e) ih
theorem KD.length {r : List (Key × V)} {t : List (Key × D)} (h : KD K H r t) : r.length = t.length := by
  induction h with
  | nil => rfl
  | cons i _ ih => rw [List.length_cons, List.length_cons, ih]
theorem KD.zip {r : List (Key × V)} {t : List (Key × D)} (h : KD K H r t) : ∃ vs, r = (t.map (·.1)).zip vs ∧ IsAll K H vs (t.map (·.2)) := by
  induction h with
  | nil => exact ⟨[], rfl, .nil⟩
  | @cons k v d r t i _ ih =>
    obtain ⟨vs, e, q⟩ := ih
    exact ⟨v :: vs, by rw [e]; rfl, .cons i q⟩
theorem KD.of : ∀ {ks : List Key} {vs : List V} {ds : List D}, ks.length = ds.length → IsAll K H vs ds → KD K H (ks.zip vs) (ks.zip ds)
  | [], _, [], _, .nil => .nil
  | k :: ks, _, _ :: _, e, .cons i q => .cons i (KD.of (Nat.succ.inj e) q)
  | [], _, _ :: _, e, _ => nomatch e
  | _ :: _, _, [], e, _ => nomatch e
theorem KD.any {r : List (Key × V)} {t : List (Key × D)} (h : KD K H r t) (k : Key) : (r.any fun kv => decide (kv.1 = k)) = t.any fun kv => decide (kv.1 = k) := by
  induction h with
  | nil => rfl
  | cons i _ ih => rw [List.any_cons, List.any_cons, ih]
theorem KD.snoc {r : List (Key × V)} {t : List (Key × D)} {k : Key} {v : V} {d : D} (h : KD K H r t) (i : Is K H v d) : KD K H (r ++ [(k, v)]) (t ++ [(k, d)]) := by
  induction h with
  | nil => exact .cons i .nil
  | cons j _ ih => exact .cons j ih
theorem KD.repl {r : List (Key × V)} {t : List (Key × D)} {k : Key} {v : V} {d : D} (h : KD K H r t) (i : Is K H v d) : KD K H (r.map fun kv => if kv.1 = k then (kv.1, v) else kv) (t.map fun kv => if kv.1 = k then (kv.1, d) else kv) := by
  induction h with
  | nil => exact .nil
  | @cons k' v' d' r t j _ ih =>
    rw [List.map_cons, List.map_cons]
    by_cases e : k' = k
    · rw [if_pos e, if_pos e]
      exact .cons i ih
    · rw [if_neg e, if_neg e]
      exact .cons j ih
theorem KD.put {r : List (Key × V)} {t : List (Key × D)} {k : Key} {v : V} {d : D} (h : KD K H r t) (i : Is K H v d) : KD K H (putG r k v) (putG t k d) := by
  unfold putG
  rw [h.any k]
  split
  · exact h.repl i
  · exact h.snoc i
end
/-! ### dict comprehensions, sorted dicts, updates -/
section
variable {S : Type} {X : Cx} {ρ : Rs S} {W : WX} {e a b c tg : Expr} {wa wb wc : WE S} {pos : Pos} {K : PySem.W.Frag}
/-- the parts of its block -/
structure BlkD (X : Cx) (ρ : Rs S) (scope : Scope) (tg : Expr) (g : WG) (js : List Nat) (ifs : List Expr) (wt : WT S) (kx : Expr) (wk : WE S) (vx : Expr) (wv : WE S) : Prop where
  hg : ∀ (s : Shared) (H : Hp) (C : Addr) (cl : List (Str × Addr)) (fp : List Addr), MG (X.blk s H scope (compEnvC scope cl C X.env) fp) ρ tg g js
  ht : ∀ (s : Shared) (H : Hp) (C : Addr) (cl : List (Str × Addr)) (fp : List Addr), MTs (X.blk s H scope (compEnvC scope cl C X.env) fp) ρ WF ifs wt
  hk : ∀ (s : Shared) (H : Hp) (C : Addr) (cl : List (Str × Addr)) (fp : List Addr), ME (X.blk s H scope (compEnvC scope cl C X.env) fp) ρ WF kx wk
  hv : ∀ (s : Shared) (H : Hp) (C : Addr) (cl : List (Str × Addr)) (fp : List Addr), ME (X.blk s H scope (compEnvC scope cl C X.env) fp) ρ WF vx wv
/-- x = a value or a fresh object -/
@[simp] def sSetR (w : WR S) (i : Nat) : WS S := fun Γ s E => w Γ s (fun y s1 => E.nx (Γ.set i y.sl) s1) (fun x s1 => E.ex x Γ s1)
/-- a fresh object as a value -/
@[simp] def wFrzR (w : WR S) : WE S := fun Γ s q r => w Γ s (fun y s1 => q y.d s1) r
theorem MR.me {w : WR S} (h : MR X ρ W e w) : ME X ρ W e (wFrzR w) :=
  ⟨h.pe.imp fun σ H Q ⟨H0, Hs, Γ, s, q, rx, G, L, h, k, x⟩ => ⟨H0, Hs, Γ, s, _, rx, G, L, h, fun v y s1 Hs1 H1 R1 G1 i1 h1 => by
    obtain ⟨Hs2, R2, G2, i2⟩ := i1.frz R1 G1
    exact k v y.d s1 Hs2 H1 R2 G2 i2 h1, x⟩⟩
/-- x.update(e), x a dict of one's own, e a dict -/
@[simp] def sUpd (i : Nat) (wa : WE S) : WS S := fun Γ s E => match Γ[i]? with
  | some (.ow (.dk ks) l) => wa Γ s (fun d s1 => match d with
    | .dic ks2 l2 => ks.length = l.length ∧ ks2.length = l2.length ∧ l.length + l2.length ≤ 1000000 ∧ E.nx (Γ.set i (.ow (.dk ((mergeG (ks.zip l) (ks2.zip l2)).map (·.1))) ((mergeG (ks.zip l) (ks2.zip l2)).map (·.2)))) s1
    | _ => False) (fun x s1 => E.ex x Γ s1)
  | _ => False
end
end Mb
namespace Mb
open PySem PySem.Spec PyProof.Rows L2
open Evl (Ex)
section
variable {S : Type} {X : Cx} {ρ : Rs S} {W : WX} {e a b c tg : Expr} {wa wb wc : WE S} {pos : Pos} {K : PySem.W.Frag}
/-- a method as callers see it -/
structure CalM (P : Program) (wd : World) (K : PySem.W.Frag) (mg : Str → Option Value) (base : Heap) (C : Addr) (m : Str) (ps : List Str) (k : Nat) (sp : Sp) : Prop where
  it : ∃ f fd, FnOk P wd K mg base CX0 k f fd ps sp ∧ Meth K C m f ∧ Binds K fd ps []
  cl : Cls K C
theorem CalM.up {P : Program} {wd : World} {mg : Str → Option Value} {base : Heap} {C : Addr} {m : Str} {ps : List Str} {k : Nat} {F : FP} (h : CalM P wd K mg base C m ps k (spP K F)) : CalM P wd K mg base C m ps k (spW K ρ F.up) := by
  obtain ⟨f, fd, Fk, x⟩ := h.it
  exact ⟨⟨f, fd, Fk.up, x⟩, h.cl⟩
end
end Mb
namespace Mb
open PySem PySem.Spec PyProof.Rows L2
open Evl (Ex)
/-! ### what a piece of the program computes, as a function of data -/
inductive Out (S α : Type) where
  | ok (a : α) (s : S) | ex (x : Exn) (s : S) | no
abbrev M (S α : Type) := S → Out S α
section
variable {S α β γ : Type}
def Out.post (o : Out S α) (q : α → S → Prop) (r : Exn → S → Prop) : Prop := match o with
  | .ok a s => q a s
  | .ex x s => r x s
  | .no => False
@[simp] theorem post_ok {a : α} {s : S} {q : α → S → Prop} {r : Exn → S → Prop} : (Out.ok a s).post q r = q a s := rfl
@[simp] theorem post_ex {x : Exn} {s : S} {q : α → S → Prop} {r : Exn → S → Prop} : (Out.ex x s : Out S α).post q r = r x s := rfl
@[simp] theorem post_no {q : α → S → Prop} {r : Exn → S → Prop} : (Out.no : Out S α).post q r = False := rfl
theorem post_mono {o : Out S α} {q q' : α → S → Prop} {r r' : Exn → S → Prop} (h : o.post q r) (f : ∀ a s, q a s → q' a s) (g : ∀ x s, r x s → r' x s) : o.post q' r' := by
  cases o with
  | ok a s => exact f a s h
  | ex x s => exact g x s h
  | no => exact h.elim
def ret (a : α) : M S α := fun s => .ok a s
@[simp] theorem ret_app {a : α} {s : S} : ret a s = Out.ok a s := rfl
@[simp] theorem post_ret {a : α} {s : S} {q : α → S → Prop} {r : Exn → S → Prop} : (ret a s).post q r = q a s := rfl
def mno : M S α := fun _ => .no
def mex (x : Exn) : M S α := fun s => .ex x s
def bnd (m : M S α) (f : α → M S β) : M S β := fun s => match m s with
  | .ok a s' => f a s'
  | .ex x s' => .ex x s'
  | .no => .no
def opt (o : Option α) : M S α := match o with
  | some a => ret a
  | none => mno
/-- errors are not looked for -/
def nox (m : M S α) : M S α := fun s => match m s with
  | .ok a s' => .ok a s'
  | _ => .no
def lift (m : M Unit α) : M S α := fun s => match m () with
  | .ok a _ => .ok a s
  | .ex x _ => .ex x s
  | .no => .no
def chk (p : Prop) [Decidable p] (m : M S α) : M S α := if p then m else mno
@[simp] theorem bnd_ret (a : α) (f : α → M S β) : bnd (ret a) f = f a := rfl
@[simp] theorem bnd_mno (f : α → M S β) : bnd mno f = mno := rfl
@[simp] theorem bnd_mex (x : Exn) (f : α → M S β) : bnd (mex x) f = mex x := rfl
@[simp] theorem opt_some (a : α) : (opt (some a) : M S α) = ret a := rfl
@[simp] theorem opt_none : (opt none : M S α) = mno := rfl
@[simp] theorem nox_ret (a : α) : nox (ret a : M S α) = ret a := rfl
@[simp] theorem lift_ret (a : α) : (lift (ret a) : M S α) = ret a := rfl
@[simp] theorem lift_mex (x : Exn) : (lift (mex x : M Unit α) : M S α) = mex x := rfl
@[simp] theorem lift_self (m : M Unit α) : (lift m : M Unit α) = m := by
  funext s
  unfold lift
  cases m () <;> rfl
theorem post_bnd {m : M S α} {f : α → M S β} {s : S} {q : β → S → Prop} {r : Exn → S → Prop} : (bnd m f s).post q r = (m s).post (fun a s' => (f a s').post q r) r := by
  unfold bnd
  cases m s <;> rfl
theorem post_opt {o : Option α} {s : S} {q : α → S → Prop} {r : Exn → S → Prop} (h : (opt o s).post q r) : ∃ a, o = some a ∧ q a s := by
  cases o with
  | none => exact h.elim
  | some a => exact ⟨a, rfl, h⟩
theorem post_nox {m : M S α} {s : S} {q : α → S → Prop} {r r' : Exn → S → Prop} (h : (nox m s).post q r) : (m s).post q r' := by
  unfold nox at h
  cases e : m s <;> rw [e] at h
  · exact h
  · exact h.elim
  · exact h.elim
theorem post_chk {p : Prop} [Decidable p] {m : M S α} {s : S} {q : α → S → Prop} {r : Exn → S → Prop} (h : (chk p m s).post q r) : p ∧ (m s).post q r := by
  unfold chk at h
  split at h
  · exact ⟨by assumption, h⟩
  · exact h.elim
/-! applied to a state -/
def Out.thn (o : Out S α) (f : α → M S β) : Out S β := match o with
  | .ok a s => f a s
  | .ex x s => .ex x s
  | .no => .no
def Out.noX (o : Out S α) : Out S α := match o with
  | .ok a s => .ok a s
  | _ => .no
@[simp] theorem bnd_app {m : M S α} {f : α → M S β} {s : S} : bnd m f s = (m s).thn f := by
  unfold bnd Out.thn
  cases m s <;> rfl
@[simp] theorem nox_app {m : M S α} {s : S} : nox m s = (m s).noX := by
  unfold nox Out.noX
  cases m s <;> rfl
@[simp] theorem othn_ok {a : α} {s : S} {f : α → M S β} : (Out.ok a s).thn f = f a s := rfl
@[simp] theorem othn_ex {x : Exn} {s : S} {f : α → M S β} : (Out.ex x s).thn f = .ex x s := rfl
@[simp] theorem onoX_ok {a : α} {s : S} : (Out.ok a s).noX = .ok a s := rfl
@[simp] theorem chk_true (m : M S α) : chk True m = m := if_pos trivial
/-- as a word -/
@[reducible] def wF (f : Ctx → M S α) : Ctx → S → (α → S → Prop) → (Exn → S → Prop) → Prop := fun Γ s q r => (f Γ s).post q r
abbrev F (S α : Type) := Ctx → M S α
end
section
variable {S : Type} {X : Cx} {ρ : Rs S} {W : WX} {e a b c tg : Expr} {pos p2 : Pos} {K : PySem.W.Frag}
theorem ME.imp {w w' : WE S} (h : ME X ρ W e w) (f : ∀ Γ s q r, w' Γ s q r → w Γ s q r) : ME X ρ W e w' := ⟨h.pe.imp fun σ H Q ⟨H0, Hs, Γ, s, q, r, G, L, h, k, x⟩ => ⟨H0, Hs, Γ, s, q, r, G, L, f _ _ _ _ h, k, x⟩⟩
theorem MO.imp {w w' : WO S} (h : MO X ρ W e w) (f : ∀ Γ s q r, w' Γ s q r → w Γ s q r) : MO X ρ W e w' := ⟨h.pe.imp fun σ H Q ⟨H0, Hs, Γ, s, q, r, G, L, h, k, x⟩ => ⟨H0, Hs, Γ, s, q, r, G, L, f _ _ _ _ h, k, x⟩⟩
theorem MR.imp {w w' : WR S} (h : MR X ρ W e w) (f : ∀ Γ s q r, w' Γ s q r → w Γ s q r) : MR X ρ W e w' := ⟨h.pe.imp fun σ H Q ⟨H0, Hs, Γ, s, q, r, G, L, h, k, x⟩ => ⟨H0, Hs, Γ, s, q, r, G, L, f _ _ _ _ h, k, x⟩⟩
theorem MA.imp {es : List Expr} {w w' : WO S} (h : MA X ρ W es w) (f : ∀ Γ s q r, w' Γ s q r → w Γ s q r) : MA X ρ W es w' := ⟨h.pa.imp fun σ H Q ⟨H0, Hs, Γ, s, q, r, G, L, h, k, x⟩ => ⟨H0, Hs, Γ, s, q, r, G, L, f _ _ _ _ h, k, x⟩⟩
theorem MT.imp {w w' : WT S} (h : MT X ρ W e w) (f : ∀ Γ s q r, w' Γ s q r → w Γ s q r) : MT X ρ W e w' := ⟨h.pt.imp fun σ H Q ⟨H0, Hs, Γ, s, q, r, G, L, h, k, x⟩ => ⟨H0, Hs, Γ, s, q, r, G, L, f _ _ _ _ h, k, x⟩⟩
theorem MW.imp {w w' : WT S} (h : MW X ρ W e w) (f : ∀ Γ s q r, w' Γ s q r → w Γ s q r) : MW X ρ W e w' := ⟨h.pw.imp fun σ H Q ⟨H0, Hs, Γ, s, q, r, G, L, h, k, x⟩ => ⟨H0, Hs, Γ, s, q, r, G, L, f _ _ _ _ h, k, x⟩⟩
theorem MP.imp {e : Option Expr} {w w' : WP S} (h : MP X ρ W e w) (f : ∀ Γ s q r, w' Γ s q r → w Γ s q r) : MP X ρ W e w' := ⟨h.po.imp fun σ H Q ⟨H0, Hs, Γ, s, q, r, G, L, h, k, x⟩ => ⟨H0, Hs, Γ, s, q, r, G, L, f _ _ _ _ h, k, x⟩⟩
theorem MI.imp {w w' : WO S} (h : MI X ρ W tg e w) (f : ∀ Γ s q r, w' Γ s q r → w Γ s q r) : MI X ρ W tg e w' := ⟨⟨fun pins st σ H R I ⟨H0, Hs, Γ, s, q, r, G, L, z, k, x⟩ => h.pi.run pins st σ H R I ⟨H0, Hs, Γ, s, q, r, G, L, f _ _ _ _ z, k, x⟩⟩⟩
theorem MTs.imp {es : List Expr} {w w' : WT S} (h : MTs X ρ W es w) (f : ∀ Γ s q r, w' Γ s q r → w Γ s q r) : MTs X ρ W es w' := ⟨⟨fun pins st σ H R I ⟨H0, Hs, Γ, s, q, r, G, L, z, k, x⟩ => h.pts.run pins st σ H R I ⟨H0, Hs, Γ, s, q, r, G, L, f _ _ _ _ z, k, x⟩⟩⟩
theorem MG.imp {g g' : WG} {js : List Nat} (h : MG X ρ tg g js) (f : ∀ d Γ q, g' d Γ q → g d Γ q) : MG X ρ tg g' js := ⟨h.pg.imp fun v σ H Q ⟨H0, Hs, Γ, s, d, q, G, L, i, h, k⟩ => ⟨H0, Hs, Γ, s, d, q, G, L, i, f _ _ _ h, k⟩⟩
theorem MGs.imp {tgs : List Expr} {g g' : WGs} {js : List Nat} (h : MGs X ρ tgs g js) (f : ∀ d Γ q, g' d Γ q → g d Γ q) : MGs X ρ tgs g' js := ⟨h.pgs.imp fun v σ H Q ⟨H0, Hs, Γ, s, d, q, G, L, i, h, k⟩ => ⟨H0, Hs, Γ, s, d, q, G, L, i, f _ _ _ h, k⟩⟩
theorem MS.imp {st : Stmt} {w w' : WS S} (h : MS X ρ W st w) (f : ∀ Γ s E, w' Γ s E → w Γ s E) : MS X ρ W st w' := ⟨h.ps.imp fun D σ H ⟨H0, Hs0, Hs, Γ, s, E, R, G, L, h, A⟩ => ⟨H0, Hs0, Hs, Γ, s, E, R, G, L, f _ _ _ h, A⟩⟩
theorem MB.imp {st : List Stmt} {w w' : WS S} (h : MB X ρ W st w) (f : ∀ Γ s E, w' Γ s E → w Γ s E) : MB X ρ W st w' := ⟨h.pss.imp fun D σ H ⟨H0, Hs0, Hs, Γ, s, E, R, G, L, h, A⟩ => ⟨H0, Hs0, Hs, Γ, s, E, R, G, L, f _ _ _ h, A⟩⟩
/-! ### expressions -/
@[simp] def fVar (i : Nat) : F S D := fun Γ => match Γ[i]? with
  | some (.dat d) => ret d
  | _ => mno
@[simp] def fC (d : D) : F S D := fun _ => ret d
@[simp] def fBin (g : D → D → Option D) (fa fb : F S D) : F S D := fun Γ => bnd (fa Γ) fun a => bnd (fb Γ) fun b => opt (g a b)
@[simp] def fChain (g g' : D → D → Option D) (fa fb fc : F S D) : F S D := fun Γ => bnd (fa Γ) fun a => bnd (fb Γ) fun b => bnd (opt (g a b)) fun k => match k with
  | .bl true => bnd (fc Γ) fun c => opt (g' b c)
  | .bl false => ret (.bl false)
  | _ => mno
@[simp] def fTest (fa : F S D) : F S Bool := fun Γ => bnd (fa Γ) fun d => match d with
  | .bl k => ret k
  | _ => mno
@[simp] def fAnd (ta tb : F S Bool) : F S Bool := fun Γ => bnd (ta Γ) fun k => if k = true then tb Γ else ret false
@[simp] def fOr (ta tb : F S Bool) : F S Bool := fun Γ => bnd (ta Γ) fun k => if k = true then ret true else tb Γ
@[simp] def fNot (ta : F S Bool) : F S Bool := fun Γ => bnd (ta Γ) fun k => ret (!k)
@[simp] def fAndV (fa fb : F S D) : F S D := fun Γ => bnd (fTest fa Γ) fun k => if k = true then fb Γ else ret (.bl false)
@[simp] def fOrV (fa fb : F S D) : F S D := fun Γ => bnd (fTest fa Γ) fun k => if k = true then ret (.bl true) else fb Γ
@[simp] def fNotV (fa : F S D) : F S D := fun Γ => bnd (fTest fa Γ) fun k => ret (.bl (!k))
@[simp] def fIf (t : F S Bool) (fa fb : F S D) : F S D := fun Γ => bnd (t Γ) fun k => if k = true then fa Γ else fb Γ
@[simp] def fFrz (f : F S (List D)) : F S D := fun Γ => bnd (f Γ) fun l => ret (.lst l)
@[simp] def fNil : F S (List D) := fun _ => ret []
@[simp] def fCons (fa : F S D) (f : F S (List D)) : F S (List D) := fun Γ => bnd (fa Γ) fun d => bnd (f Γ) fun l => ret (d :: l)
@[simp] def dSeq : D → Option (List D)
  | .lst l => some l
  | .tup l => some l
  | .str z => if z.cps.size ≤ 1000000 then some (z.cps.toList.map fun c => D.str ⟨#[c]⟩) else none
  | _ => none
@[simp] def dItems : D → Option (List D)
  | .lst l => some l
  | .tup l => some l
  | _ => none
@[simp] def fStar (fa : F S D) (f : F S (List D)) : F S (List D) := fun Γ => bnd (fa Γ) fun d => bnd (opt (dItems d)) fun l => bnd (f Γ) fun l2 => ret (l ++ l2)
@[simp] def fTup (f : F S (List D)) : F S D := fun Γ => bnd (f Γ) fun l => ret (.tup l)
@[simp] def fTupC (f : F S (List D)) : F S D := fun Γ => bnd (f Γ) fun l => chk (l.length ≤ 1000000) (ret (.tup l))
@[simp] def fLst (f : F S (List D)) : F S (List D) := f
@[simp] def fLstC (f : F S (List D)) : F S (List D) := fun Γ => bnd (f Γ) fun l => chk (l.length ≤ 1000000) (ret l)
@[simp] def fCall (g : List D → Option D) (f : F S (List D)) : F S D := fun Γ => bnd (f Γ) fun l => opt (g l)
@[simp] def fCallO (g : List D → Option (List D)) (f : F S (List D)) : F S (List D) := fun Γ => bnd (f Γ) fun l => opt (g l)
def Br2 (G : G2) (g : D → D → Option D) : Prop := ∀ d e v (q : D → Prop), g d e = some v → q v → G d e q
def Br1 (G : G1) (g : List D → Option D) : Prop := ∀ d v (q : D → Prop), g d = some v → q v → G d q
variable {fa fb fc : F S D} {ta tb : F S Bool} {f fl : F S (List D)} {rest : List Expr}
theorem wvar_of {i : Nat} {Γ : Ctx} {s : S} {q : D → S → Prop} {r : Exn → S → Prop} (h : wF (fVar i) Γ s q r) : wVar i Γ s q r := by
  simp only [wF, fVar] at h
  simp only [wVar, Ctx.asDat]
  cases e : Γ[i]? with
  | none =>
    rw [e] at h
    exact h.elim
  | some x =>
    rw [e] at h
    cases x with
    | dat d => exact h
    | emp => exact h.elim
    | ow k l => exact h.elim
theorem fe_var (i : Nat) (h : ME X ρ W e (wVar i)) : ME X ρ W e (wF (fVar i)) := h.imp fun _ _ _ _ z => wvar_of z
theorem fe_c {d : D} (h : ME X ρ W e (wC d)) : ME X ρ W e (wF (fC d)) := h
theorem fe_bin {G : G2} {g : D → D → Option D} (h : ME X ρ W e (wBin G (wF fa) (wF fb))) (br : Br2 G g) : ME X ρ W e (wF (fBin g fa fb)) := h.imp fun Γ s q r z => by
  simp only [wF, fBin, post_bnd] at z
  exact post_mono z (fun a s1 z => post_mono z (fun b s2 z => let ⟨v, e, h⟩ := post_opt z; br _ _ _ _ e h) fun _ _ h => h) fun _ _ h => h
theorem ft_test (h : MT X ρ W e (wTest (wF fa))) : MT X ρ W e (wF (fTest fa)) := h.imp fun Γ s q r z => by
  simp only [wF, fTest, post_bnd] at z
  refine post_mono z (fun d s1 z => ?_) fun _ _ h => h
  split at z
  · exact z
  · exact z.elim
theorem ft_bin {G : G2} {g : D → D → Option D} (h : MT X ρ W e (wTest (wBin G (wF fa) (wF fb)))) (br : Br2 G g) : MT X ρ W e (wF (fTest (fBin g fa fb))) := ft_test (h.imp fun Γ s q r z => by
  simp only [wF, fBin, wTest, post_bnd] at z ⊢
  exact post_mono z (fun a s1 z => post_mono z (fun b s2 z => let ⟨v, e, h⟩ := post_opt z; br _ _ _ _ e h) fun _ _ h => h) fun _ _ h => h)
theorem fw_and {r : Exn → S → Prop} {Γ : Ctx} {s : S} {q : Bool → S → Prop} (z : wF (fAnd ta tb) Γ s q r) : wAnd (wF ta) (wF tb) Γ s q r := by
  simp only [wF, fAnd, post_bnd] at z
  refine post_mono z (fun k s1 z => ?_) fun _ _ h => h
  split at z <;> split <;> simp_all [ret]
theorem fw_or {r : Exn → S → Prop} {Γ : Ctx} {s : S} {q : Bool → S → Prop} (z : wF (fOr ta tb) Γ s q r) : wOr (wF ta) (wF tb) Γ s q r := by
  simp only [wF, fOr, post_bnd] at z
  refine post_mono z (fun k s1 z => ?_) fun _ _ h => h
  split at z <;> split <;> simp_all [ret]
theorem fmw_and (ha : MT X ρ W a (wF ta)) (hb : MW X ρ W (.BoolOp .And (b :: rest) pos) (wF tb)) : MW X ρ W (.BoolOp .And (a :: b :: rest) pos) (wF (fAnd ta tb)) := (mw_and ha hb).imp fun _ _ _ _ z => fw_and z
theorem fmw_or (ha : MT X ρ W a (wF ta)) (hb : MW X ρ W (.BoolOp .Or (b :: rest) pos) (wF tb)) : MW X ρ W (.BoolOp .Or (a :: b :: rest) pos) (wF (fOr ta tb)) := (mw_or ha hb).imp fun _ _ _ _ z => fw_or z
theorem ft_not (ha : MT X ρ W a (wF ta)) : MT X ρ W (.UnaryOp .Not a pos) (wF (fNot ta)) := (mt_not ha).imp fun Γ s q r z => by
  simp only [wF, fNot, post_bnd] at z
  exact z
theorem fe_if (ht : MT X ρ W c (wF ta)) (ha : ME X ρ W a (wF fa)) (hb : ME X ρ W b (wF fb)) : ME X ρ W (.IfExp c a b pos) (wF (fIf ta fa fb)) := (me_if ht ha hb).imp fun Γ s q r z => by
  simp only [wF, fIf, post_bnd] at z
  refine post_mono z (fun k s1 z => ?_) fun _ _ h => h
  split at z <;> split <;> simp_all [ret]
theorem fe_frz (h : MO X ρ W e (wF f)) : ME X ρ W e (wF (fFrz f)) := h.me.imp fun Γ s q r z => by
  simp only [wF, fFrz, post_bnd] at z
  exact post_mono z (fun _ _ z => z) fun _ _ h => h
theorem fa_nil : MA X ρ W [] (wF (fNil : F S (List D))) := ma_nil
theorem fa_cons {es : List Expr} (ha : ME X ρ W a (wF fa)) (hr : MA X ρ W es (wF f)) (he : starEach (a :: es) X.env = (false, eval a X.env) :: starEach es X.env := by rfl) : MA X ρ W (a :: es) (wF (fCons fa f)) := (ma_cons ha hr he).imp fun Γ s q r z => by
  simp only [wF, fCons, post_bnd] at z
  exact z
/-- at most n items -/
def LenB (f : F S (List D)) (n : Nat) : Prop := ∀ Γ s l s', f Γ s = .ok l s' → l.length ≤ n
theorem post_len {n : Nat} (h : LenB f n) {Γ : Ctx} {s : S} {q : List D → S → Prop} {r : Exn → S → Prop} (z : (f Γ s).post q r) : (f Γ s).post (fun l s1 => l.length ≤ n ∧ q l s1) r := by
  cases e : f Γ s with
  | ok l s' =>
    rw [e] at z
    exact ⟨h _ _ _ _ e, z⟩
  | ex x s' =>
    rw [e] at z
    exact z
  | no =>
    rw [e] at z
    exact z
theorem fe_tup {es : List Expr} {k n : Nat} (h : MA X ρ W es (wF f)) (lb : LenB f n) (hn : n ≤ 1000000 := by decide) : ME X ρ W (.Tuple es k pos) (wF (fTup f)) := (me_tup h).imp fun Γ s q r z => by
  simp only [wF, fTup, post_bnd] at z
  exact post_mono (post_len lb z) (fun l s1 z => ⟨Nat.le_trans z.1 hn, z.2⟩) fun _ _ h => h
theorem fo_lst {es : List Expr} {n : Nat} (h : MA X ρ W es (wF f)) (lb : LenB f n) (hn : n ≤ 1000000 := by decide) : MO X ρ W (.List es pos) (wF (fLst f)) := (mo_lst h).imp fun Γ s q r z => by
  exact post_mono (post_len lb z) (fun l s1 z => ⟨Nat.le_trans z.1 hn, z.2⟩) fun _ _ h => h
theorem fe_call {G : G1} {g : List D → Option D} (h : ME X ρ W e (wCall G (wF f))) (br : Br1 G g) : ME X ρ W e (wF (fCall g f)) := h.imp fun Γ s q r z => by
  simp only [wF, fCall, post_bnd] at z
  exact post_mono z (fun l s1 z => let ⟨v, e, h⟩ := post_opt z; br _ _ _ e h) fun _ _ h => h
/-! ### what is walked -/
@[simp] def fSeq (fa : F S D) : F S (List D) := fun Γ => bnd (fa Γ) fun d => opt (dSeq d)
theorem dSeq_of {d : D} {l : List D} {q : List D → Prop} (e : dSeq d = some l) (h : q l) : d.asSeq q := by
  unfold dSeq at e
  split at e
  · cases e
    exact h
  · cases e
    exact h
  · split at e
    · cases e
      exact ⟨by assumption, h⟩
    · cases e
  · cases e
theorem fi_seq (ha : ME X ρ W e (wF fa)) : MI X ρ W tg e (wF (fSeq fa)) := (mi_seq ha).imp fun Γ s q r z => by
  simp only [wF, fSeq, post_bnd] at z
  exact post_mono z (fun d s1 z => let ⟨v, e, h⟩ := post_opt z; dSeq_of e h) fun _ _ h => h
@[simp] def gRng1 : List D → Option (List D)
  | [.int n] => if -1000000 ≤ n ∧ n ≤ 1000000 then some (rgn 0 n.toNat) else none
  | _ => none
@[simp] def gRng2 : List D → Option (List D)
  | [.int a, .int b] => if -500000 ≤ a ∧ a ≤ 500000 ∧ -500000 ≤ b ∧ b ≤ 500000 then some (rgn a (b - a).toNat) else none
  | _ => none
def enD : Nat → List D → List D
  | _, [] => []
  | n, d :: l => .tup [.int n, d] :: enD (n + 1) l
theorem fi_rng1 (h : MI X ρ W tg e (wRng1 (wF f))) : MI X ρ W tg e (wF (fCallO gRng1 f)) := h.imp fun Γ s q r z => by
  simp only [wF, fCallO, post_bnd] at z
  refine post_mono z (fun l s1 z => ?_) fun _ _ h => h
  obtain ⟨v, e, h⟩ := post_opt z
  unfold gRng1 at e
  split at e
  · split at e
    · rename_i hh
      cases e
      exact ⟨hh.1, hh.2, h⟩
    · cases e
  · cases e
/-! ### targets -/
abbrev FG := D → Ctx → Option Ctx
abbrev FGs := List D → Ctx → Option Ctx
@[reducible] def wG (g : FG) : WG := fun d Γ q => ∃ Γ', g d Γ = some Γ' ∧ q Γ'
@[reducible] def wGs (g : FGs) : WGs := fun d Γ q => ∃ Γ', g d Γ = some Γ' ∧ q Γ'
@[simp] def hN (i : Nat) : FG := fun d Γ => some (Γ.set i (.dat d))
@[simp] def hZ : FGs := fun l Γ => match l with
  | [] => some Γ
  | _ => none
@[simp] def hC (g : FG) (gs : FGs) : FGs := fun l Γ => match l with
  | d :: r => (g d Γ).bind fun Γ' => gs r Γ'
  | [] => none
@[simp] def hT (n : Nat) (gs : FGs) : FG := fun d Γ => match d with
  | .tup l => if l.length = n then gs l Γ else none
  | _ => none
@[simp] def hL (n : Nat) (gs : FGs) : FG := fun d Γ => match d with
  | .lst l => if l.length = n then gs l Γ else none
  | _ => none
theorem fg_name {i : Nat} {js : List Nat} (h : MG X ρ tg (gN i) js) : MG X ρ tg (wG (hN i)) js := h.imp fun d Γ q ⟨Γ', e, z⟩ => by
  cases e
  exact z
theorem fgs_nil : MGs X ρ [] (wGs hZ) [] := mgs_nil.imp fun d Γ q ⟨Γ', e, z⟩ => by
  unfold hZ at e
  split at e
  · cases e
    exact ⟨rfl, z⟩
  · cases e
theorem fgs_cons {es : List Expr} {g : FG} {gs : FGs} {j1 j2 : List Nat} (h1 : MG X ρ a (wG g) j1) (h2 : MGs X ρ es (wGs gs) j2) (hs : (assignEach (a :: es) X.env).map (·.2) = assign a X.env :: (assignEach es X.env).map (·.2) := by rfl) : MGs X ρ (a :: es) (wGs (hC g gs)) (j1 ++ j2) := (mgs_cons h1 h2 hs).imp fun l Γ q ⟨Γ', e, z⟩ => by
  unfold hC at e
  split at e
  · obtain ⟨Γ1, e1, e2⟩ := Option.bind_eq_some_iff.mp e
    exact ⟨Γ1, e1, Γ', e2, z⟩
  · cases e
theorem fg_tup {n : Nat} {gs : FGs} {js : List Nat} (h : MG X ρ tg (gT n (wGs gs)) js) : MG X ρ tg (wG (hT n gs)) js := h.imp fun d Γ q ⟨Γ', e, z⟩ => by
  unfold hT at e
  split at e
  · split at e
    · exact ⟨by assumption, Γ', e, z⟩
    · cases e
  · cases e
/-! ### comprehensions -/
@[simp] def fYes : F S Bool := fun _ => ret true
theorem fts_nil : MTs X ρ W [] (wF (fYes : F S Bool)) := mts_nil
theorem fts_one (h : MT X ρ W c (wF ta)) : MTs X ρ W [c] (wF ta) := mts_one h
/-- one item of a comprehension: none if it is left out -/
def lcOne (g : FG) (t : F S Bool) (fe : F S D) (Γ : Ctx) (d : D) : M S (Option D) := match g d Γ with
  | some Γ' => nox (bnd (t Γ') fun k => if k = true then bnd (fe Γ') fun d' => ret (some d') else ret none)
  | none => mno
def lcF (one : D → M S (Option D)) : List D → M S (List D)
  | [] => ret []
  | d :: ds => bnd (one d) fun o => bnd (lcF one ds) fun l => ret (match o with | some x => x :: l | none => l)
@[simp] def fLc (fi : F S (List D)) (g : FG) (t : F S Bool) (fe : F S D) (vs : List Nat) : F S (List D) := fun Γ => bnd (fi Γ) fun ds => lcF (lcOne g t fe (wipeC Γ vs)) ds
theorem lcOne_of {g : FG} {t : F S Bool} {fe : F S D} {Γ : Ctx} {d : D} {s : S} {q : Option D → S → Prop} {r : Exn → S → Prop} (h : (lcOne g t fe Γ d s).post q r) :
    wG g d Γ fun Γ' => (t Γ' s).post (fun k s2 => if k = true then (fe Γ' s2).post (fun d' s3 => q (some d') s3) noX else q none s2) noX := by
  unfold lcOne at h
  cases e : g d Γ with
  | none =>
    rw [e] at h
    exact h.elim
  | some Γ' =>
    rw [e] at h
    refine ⟨Γ', e, ?_⟩
    have h2 := post_nox (r' := noX) h
    simp only [post_bnd] at h2
    refine post_mono h2 (fun k s1 z => ?_) fun _ _ h => h
    split at z
    · rw [if_pos (by assumption)]
      simp only [post_bnd] at z
      exact post_mono z (fun _ _ z => z) fun _ _ h => h
    · rw [if_neg (by assumption)]
      exact z
theorem lc_of {fi : F S (List D)} {g : FG} {t : F S Bool} {fe : F S D} {vs : List Nat} {Γ : Ctx} {s : S} {q : List D → S → Prop} {r : Exn → S → Prop} (h : wF (fLc fi g t fe vs) Γ s q r) : wLc (wF fi) (wG g) (wF t) (wF fe) vs Γ s q r := by
  simp only [wF, fLc, post_bnd] at h
  refine post_mono h (fun ds s1 z => ?_) fun _ _ h => h
  refine ⟨fun i acc s' => (lcF (lcOne g t fe (wipeC Γ vs)) (ds.drop i) s').post (fun l s2 => q (acc ++ l) s2) r, by simpa using z, ?_, ?_⟩
  · intro i d acc s' hd _ iv
    have hi := (List.getElem?_eq_some_iff.mp hd).1
    have e2 : ds[i] = d := (List.getElem?_eq_some_iff.mp hd).2
    rw [List.drop_eq_getElem_cons hi, e2] at iv
    simp only [lcF, post_bnd] at iv
    obtain ⟨Γ', eg, z⟩ := lcOne_of iv
    refine ⟨Γ', eg, post_mono z (fun k s2 z => ?_) fun _ _ h => h⟩
    split
    · rw [if_pos (by assumption)] at z
      refine post_mono z (fun d' s3 z => ?_) fun _ _ h => h
      refine post_mono z (fun l s4 z => ?_) fun _ _ h => h
      have z' : q (acc ++ d' :: l) s4 := z
      simpa using z'
    · rw [if_neg (by assumption)] at z
      exact post_mono z (fun l s4 z => z) fun _ _ h => h
  · intro acc s' iv
    rw [List.drop_length] at iv
    have iv' : q (acc ++ []) s' := iv
    simpa using iv'
theorem fo_lc {fi : F S (List D)} {g : FG} {t : F S Bool} {fe : F S D} {vs : List Nat} (h : MO X ρ W e (wLc (wF fi) (wG g) (wF t) (wF fe) vs)) : MO X ρ W e (wF (fLc fi g t fe vs)) := h.imp fun _ _ _ _ z => lc_of z
/-- dict comprehensions -/
def dcOne (g : FG) (t : F S Bool) (fk fv : F S D) (Γ : Ctx) (d : D) : M S (Option (Key × D)) := match g d Γ with
  | some Γ' => nox (bnd (t Γ') fun k => if k = true then bnd (fk Γ') fun dk => bnd (fv Γ') fun dv => bnd (opt (keyOf dk)) fun ky => ret (some (ky, dv)) else ret none)
  | none => mno
def dcF (one : D → M S (Option (Key × D))) : List D → List (Key × D) → M S (List (Key × D))
  | [], acc => ret acc
  | d :: ds, acc => bnd (one d) fun o => dcF one ds (match o with | some x => putG acc x.1 x.2 | none => acc)
@[simp] def fDc (fi : F S (List D)) (g : FG) (t : F S Bool) (fk fv : F S D) (vs : List Nat) : F S Res := fun Γ => bnd (fi Γ) fun ds => bnd (dcF (dcOne g t fk fv (wipeC Γ vs)) ds []) fun acc => ret (.ow (.dk (acc.map (·.1))) (acc.map (·.2)))
@[simp] def fFrzR (f : F S Res) : F S D := fun Γ => bnd (f Γ) fun y => ret y.d
@[simp] def fDat (f : F S D) : F S Res := fun Γ => bnd (f Γ) fun y => ret (.dat y)
@[simp] def fOwn (f : F S (List D)) : F S Res := fun Γ => bnd (f Γ) fun y => ret (.own y)
/-! ### slices, join -/
@[simp] def fP0 : F S (Option Int) := fun _ => ret none
@[simp] def fP1 (fa : F S D) : F S (Option Int) := fun Γ => bnd (fa Γ) fun d => match d with
  | .int i => ret (some i)
  | _ => mno
@[simp] def fSl (g : D → Option Int → Option Int → Option D) (fa : F S D) (f1 f2 : F S (Option Int)) : F S D := fun Γ => bnd (fa Γ) fun d => bnd (f1 Γ) fun lo => bnd (f2 Γ) fun hi => opt (g d lo hi)
@[simp] def pSlA (d : D) (lo hi : Option Int) : Option D := match d with
  | .tup l => some (.tup (cutD l lo hi))
  | .lst l => some (.lst (cutD l lo hi))
  | .str z => if z.length ≤ 1000000 then some (.str (cutS z lo hi)) else none
  | _ => none
@[simp] def fSlO (fa : F S D) (f1 f2 : F S (Option Int)) : F S (List D) := fun Γ => bnd (fa Γ) fun d => bnd (f1 Γ) fun lo => bnd (f2 Γ) fun hi => match d with
  | .lst l => ret (cutD l lo hi)
  | _ => mno
def strs? : List D → Option (List Str)
  | [] => some []
  | .str x :: l => (strs? l).map (x :: ·)
  | _ => none
@[simp] theorem strs_strsD : ∀ ys : List Str, strs? (strsD ys) = some ys
  | [] => rfl
  | y :: ys => by
    show (strs? (strsD ys)).map (y :: ·) = _
    rw [strs_strsD ys]
    rfl
@[simp] def fJoin (fa fb : F S D) : F S D := fun Γ => bnd (fa Γ) fun a => match a with
  | .str z => bnd (fb Γ) fun b => bnd (opt ((dItems b).bind strs?)) fun ys => chk ((ys.map (·.length)).sum + ys.length * z.length ≤ 1000000) (ret (.str (Txt.join z ys)))
  | _ => mno
end
end Mb
namespace Mb
open PySem PySem.Spec PyProof.Rows L2
open Evl (Ex)
/-! ### primitives as functions -/
mutual
def D.plA : D → Nat → Bool
  | .non, _ => true
  | .bl _, _ => true
  | .int _, _ => true
  | .str x, _ => PyData.strOk x && decide (x.length ≤ 1000000)
  | .tup l, n => decide (0 < n) && D.plsA l (n - 1)
  | .lst l, n => decide (0 < n) && D.plsA l (n - 1)
  | _, _ => false
def D.plsA : List D → Nat → Bool
  | [], _ => true
  | d :: ds, n => D.plA d n && D.plsA ds n
end
@[simp] theorem plA_non {n : Nat} : D.plA .non n = true := rfl
@[simp] theorem plA_bl {n : Nat} {b : Bool} : D.plA (.bl b) n = true := rfl
@[simp] theorem plA_int {n : Nat} {b : Int} : D.plA (.int b) n = true := rfl
@[simp] theorem plA_str {n : Nat} {x : Str} : D.plA (.str x) n = (PyData.strOk x && decide (x.length ≤ 1000000)) := rfl
@[simp] theorem plA_tup {n : Nat} {l : List D} : D.plA (.tup l) n = (decide (0 < n) && D.plsA l (n - 1)) := rfl
@[simp] theorem plA_lst {n : Nat} {l : List D} : D.plA (.lst l) n = (decide (0 < n) && D.plsA l (n - 1)) := rfl
@[simp] theorem plsA_nil {n : Nat} : D.plsA [] n = true := rfl
@[simp] theorem plsA_cons {n : Nat} {d : D} {l : List D} : D.plsA (d :: l) n = (D.plA d n && D.plsA l n) := rfl
abbrev D.pl (n : Nat) (d : D) : Bool := D.plA d n
abbrev D.pls (n : Nat) (l : List D) : Bool := D.plsA l n
mutual
theorem pl_of : ∀ (n : Nat) (d : D), D.plA d n = true → Pl n d
  | _, .non, _ => .non
  | _, .bl b, _ => .bl b
  | _, .int i, _ => .int i
  | _, .str x, h => .str x (by
    unfold D.plA at h
    rw [Bool.and_eq_true] at h
    exact ⟨h.1, of_decide_eq_true h.2⟩)
  | 0, .tup l, h => by
    unfold D.plA at h
    simp at h
  | 0, .lst l, h => by
    unfold D.plA at h
    simp at h
  | n + 1, .tup l, h => .tup (pls_of n l (by
    unfold D.plA at h
    rw [Bool.and_eq_true] at h
    exact h.2))
  | n + 1, .lst l, h => .lst (pls_of n l (by
    unfold D.plA at h
    rw [Bool.and_eq_true] at h
    exact h.2))
  | _, .ty _, h => nomatch h
  | _, .adr _, h => nomatch h
  | _, .dic _ _, h => nomatch h
  | _, .dif _ _, h => nomatch h
  | _, .err _ _ _, h => nomatch h
  | _, .ins _ _ _, h => nomatch h
theorem pls_of : ∀ (n : Nat) (l : List D), D.plsA l n = true → ∀ d ∈ l, Pl n d
  | _, [], _, _, h => nomatch h
  | n, d :: ds, h, e, he => by
    unfold D.plsA at h
    rw [Bool.and_eq_true] at h
    rcases List.mem_cons.mp he with q | he
    · rw [q]
      exact pl_of n d h.1
    · exact pls_of n ds h.2 e he
end
@[simp] def pEq (d e : D) : Option D := if d.pl 60 && e.pl 60 then some (.bl (eqD d e)) else none
@[simp] def pNe (d e : D) : Option D := if d.pl 60 && e.pl 60 then some (.bl (!eqD d e)) else none
theorem br_eq : Br2 gEq pEq := fun d e v q h k => by
  unfold pEq at h
  split at h
  · rename_i z
    rw [Bool.and_eq_true] at z
    cases h
    exact ⟨pl_of _ _ z.1, pl_of _ _ z.2, k⟩
  · cases h
theorem br_ne : Br2 gNe pNe := fun d e v q h k => by
  unfold pNe at h
  split at h
  · rename_i z
    rw [Bool.and_eq_true] at z
    cases h
    exact ⟨pl_of _ _ z.1, pl_of _ _ z.2, k⟩
  · cases h
@[simp] def pSub (d e : D) : Option D := match d, e with | .int i, .int j => some (.int (i - j)) | _, _ => none
@[simp] def pFdiv (d e : D) : Option D := match d, e with | .int i, .int j => if 0 < j ∧ j.natAbs.log2 < 9000 then some (.int (i / j)) else none | _, _ => none
@[simp] def pMod (d e : D) : Option D := match d, e with | .int i, .int j => if 0 < j then some (.int (i % j)) else none | _, _ => none
@[simp] def pPow (d e : D) : Option D := match d, e with | .int i, .int j => if 0 ≤ j ∧ j ≤ 1000000 ∧ i.natAbs < 2 ^ 64 then some (.int (i ^ j.toNat)) else none | _, _ => none
@[simp] def pAdd (d e : D) : Option D := match d, e with
  | .int i, .int j => some (.int (i + j))
  | .str x, .str y => if x.length + y.length ≤ 1000000 then some (.str (x ++ y)) else none
  | .tup l, .tup l' => if l.length + l'.length ≤ 1000000 then some (.tup (l ++ l')) else none
  | .lst l, .lst l' => if l.length + l'.length ≤ 1000000 then some (.lst (l ++ l')) else none
  | _, _ => none
@[simp] def pMul (d e : D) : Option D := match d, e with
  | .int i, .int j => if i.natAbs.log2 + j.natAbs.log2 < 1000000 then some (.int (i * j)) else none
  | .lst l, .int n => if -1000000 ≤ n ∧ n ≤ 1000000 ∧ l.length * n.toNat ≤ 1000000 then some (.lst (List.replicate n.toNat l).flatten) else none
  | _, _ => none
theorem br_sub : Br2 mSub pSub := fun d e v q h k => by
  unfold pSub at h
  split at h
  · cases h
    exact k
  · cases h
theorem br_fdiv : Br2 mFdiv pFdiv := fun d e v q h k => by
  unfold pFdiv at h
  split at h
  · split at h
    · cases h
      exact ⟨by assumption, k⟩
    · cases h
  · cases h
theorem br_mod : Br2 mMod pMod := fun d e v q h k => by
  unfold pMod at h
  split at h
  · split at h
    · cases h
      exact ⟨by assumption, k⟩
    · cases h
  · cases h
theorem br_pow : Br2 mPow pPow := fun d e v q h k => by
  unfold pPow at h
  split at h
  · split at h
    · cases h
      exact ⟨by assumption, k⟩
    · cases h
  · cases h
theorem br_add : Br2 mAdd pAdd := fun d e v q h k => by
  unfold pAdd at h
  split at h
  · cases h
    exact k
  · split at h
    · cases h
      exact ⟨by assumption, k⟩
    · cases h
  · split at h
    · cases h
      exact ⟨by assumption, k⟩
    · cases h
  · split at h
    · cases h
      exact ⟨by assumption, k⟩
    · cases h
  · cases h
theorem br_mul : Br2 mMul pMul := fun d e v q h k => by
  unfold pMul at h
  split at h
  · split at h
    · cases h
      exact ⟨by assumption, k⟩
    · cases h
  · split at h
    · rename_i z
      cases h
      exact ⟨z.1, z.2.1, z.2.2, k⟩
    · cases h
  · cases h
@[simp] def pOrd (f : Int → Int → Bool) (g : Str → Str → Bool) (d e : D) : Option D := match d, e with | .int i, .int j => some (.bl (f i j)) | .str x, .str y => some (.bl (g x y)) | _, _ => none
theorem br_ord {f : Int → Int → Bool} {g : Str → Str → Bool} : Br2 (mOrd f g) (pOrd f g) := fun d e v q h k => by
  unfold pOrd at h
  split at h
  · cases h
    exact k
  · cases h
    exact k
  · cases h
abbrev pLt := pOrd (fun i j => decide (i < j)) (fun x y => ltS x y)
abbrev pGt := pOrd (fun i j => decide (j < i)) (fun x y => ltS y x)
abbrev pGe := pOrd (fun i j => decide (j ≤ i)) (fun x y => !ltS x y)
theorem br_lt : Br2 mLt pLt := br_ord
theorem br_gt : Br2 mGt pGt := br_ord
theorem br_ge : Br2 mGe pGe := br_ord
@[simp] def pIsN (neg : Bool) (d e : D) : Option D := match e with
  | .non => (match d with | .non => some (.bl (!neg)) | _ => some (.bl neg))
  | _ => none
@[simp] def pIn (neg : Bool) (d e : D) : Option D := match e with
  | .lst l => if d.pl 59 && D.pls 59 l then some (.bl (neg.xor (inD d l))) else none
  | .tup l => if d.flat && l.all D.flat then some (.bl (neg.xor (inD d l))) else if d.pl 59 && D.pls 59 l then some (.bl (neg.xor (inD d l))) else none
  | .dic ks l => if ks.length = l.length then (keyOf d).map fun k => .bl (neg.xor (inK k ks)) else none
  | .dif ks l => if ks.length = l.length then (keyOf d).map fun k => .bl (neg.xor (inK k ks)) else none
  | .str z => match d with
    | .str x => (one? x).map fun c => .bl (neg.xor (decide (c ∈ z.cps.toList)))
    | _ => none
  | _ => none
@[simp] def pIx (d e : D) : Option D := match e with
  | .int n => (match d with
    | .lst l => atI l n
    | .tup l => atI l n
    | .str z => if z.length ≤ 1000000 then (atI z.cps.toList n).map fun c => .str ⟨#[c]⟩ else none
    | _ => none)
  | _ => none
theorem br_ix : Br2 mIx pIx := fun d e v q h k => by
  unfold pIx at h
  cases e with
  | int n =>
    show Mb.D.asInt (.int n) _
    rw [Mb.D.asInt_int]
    cases d with
    | lst l =>
      have h' : atI l n = some v := h
      show someD (atI l n) q
      rw [h']
      exact k
    | tup l =>
      have h' : atI l n = some v := h
      show someD (atI l n) q
      rw [h']
      exact k
    | str z =>
      dsimp only at h
      split at h
      · obtain ⟨c, e1, e2⟩ := Option.map_eq_some_iff.mp h
        refine ⟨by assumption, ?_⟩
        rw [e1]
        show q _
        rw [e2]
        exact k
      · cases h
    | _ => cases h
  | _ => cases h
@[simp] def pLen : List D → Option D
  | [.lst l] => some (.int l.length)
  | [.tup l] => some (.int l.length)
  | [.str z] => if z.length ≤ 1000000 then some (.int z.length) else none
  | _ => none
theorem br_len : Br1 mLen pLen := fun d v q h k => by
  unfold pLen at h
  split at h
  · cases h
    exact k
  · cases h
    exact k
  · split at h
    · cases h
      exact ⟨by assumption, k⟩
    · cases h
  · cases h
@[simp] def pIsi : List D → Option D
  | [d, .ty S] => (isiD d S).map D.bl
  | _ => none
@[simp] def pIntC : List D → Option D
  | [.int i] => some (.int i)
  | [.bl b] => some (.int (if b then 1 else 0))
  | _ => none
theorem br_int : Br1 mIntC pIntC := fun d v q h k => by
  unfold pIntC at h
  split at h
  · cases h
    exact k
  · cases h
    exact k
  · cases h
@[simp] def pMax : List D → Option D
  | [.int i, .int j] => some (.int (if j > i then j else i))
  | _ => none
@[simp] def pMin : List D → Option D
  | [.int i, .int j] => some (.int (if j < i then j else i))
  | _ => none
@[simp] def pTuple : List D → Option D
  | [.lst l] => some (.tup l)
  | [.tup l] => some (.tup l)
  | _ => none
@[simp] def pList : List D → Option (List D)
  | [.lst l] => some l
  | [.tup l] => some l
  | _ => none
def pAll : List D → Option D
  | [.lst l] => if l.all D.isBl then some (.bl (l.all D.tr)) else none
  | _ => none
def pAny : List D → Option D
  | [.lst l] => if l.all D.isBl then some (.bl (l.any D.tr)) else none
  | _ => none
/-! ### sorting -/
section
variable {α : Type}
def insB (le : α → α → Bool) (x : α) : List α → List α
  | [] => [x]
  | y :: l => if le x y then x :: y :: l else y :: insB le x l
def sortB (le : α → α → Bool) : List α → List α
  | [] => []
  | x :: l => insB le x (sortB le l)
variable {le : α → α → Bool}
end
abbrev leSt (x y : Str) : Bool := !ltS y x
def ints? : List D → Option (List Int)
  | [] => some []
  | .int x :: l => (ints? l).map (x :: ·)
  | _ => none
@[simp] theorem ints_intsD : ∀ ys : List Int, ints? (intsD ys) = some ys
  | [] => rfl
  | y :: ys => by
    show (ints? (intsD ys)).map (y :: ·) = _
    rw [ints_intsD ys]
    rfl
end Mb
namespace Mb
open PySem PySem.Spec PyProof.Rows L2
open Evl (Ex)
abbrev sortS (l : List Str) : List Str := sortB leSt l
def keysI? : List Key → Option (List Int)
  | [] => some []
  | .inl i :: l => (keysI? l).map (i :: ·)
  | _ => none
def keysS? : List Key → Option (List Str)
  | [] => some []
  | .inr i :: l => (keysS? l).map (i :: ·)
  | _ => none
@[simp] theorem keysI_map : ∀ ys : List Int, keysI? (ys.map Sum.inl) = some ys
  | [] => rfl
  | y :: ys => by
    show (keysI? (ys.map Sum.inl)).map (y :: ·) = _
    rw [keysI_map ys]
    rfl
@[simp] theorem keysS_map : ∀ ys : List Str, keysS? (ys.map Sum.inr) = some ys
  | [] => rfl
  | y :: ys => by
    show (keysS? (ys.map Sum.inr)).map (y :: ·) = _
    rw [keysS_map ys]
    rfl
/-! ### statements -/
inductive SO (S : Type) where
  | nx (Γ : Ctx) (s : S) | rt (y : Res) (s : S) | bk (Γ : Ctx) (s : S) | ct (Γ : Ctx) (s : S) | ex (x : Exn) (Γ : Ctx) (s : S) | no
abbrev T (S : Type) := Ctx → S → SO S
section
variable {S α : Type}
def SO.post (o : SO S) (E : En S) : Prop := match o with
  | .nx Γ s => E.nx Γ s
  | .rt y s => E.rt y s
  | .bk Γ s => E.bk Γ s
  | .ct Γ s => E.ct Γ s
  | .ex x Γ s => E.ex x Γ s
  | .no => False
@[reducible] def sF (f : T S) : WS S := fun Γ s E => (f Γ s).post E
def Out.run (o : Out S α) (Γ : Ctx) (k : α → S → SO S) : SO S := match o with
  | .ok a s => k a s
  | .ex x s => .ex x Γ s
  | .no => .no
def SO.thn (o : SO S) (k : T S) : SO S := match o with
  | .nx Γ s => k Γ s
  | o => o
@[simp] theorem run_ok {a : α} {s : S} {Γ : Ctx} {k : α → S → SO S} : (Out.ok a s).run Γ k = k a s := rfl
@[simp] theorem run_ret {a : α} {s : S} {Γ : Ctx} {k : α → S → SO S} : (ret a s).run Γ k = k a s := rfl
@[simp] theorem thn_nx {s : S} {Γ : Ctx} {k : T S} : (SO.nx Γ s).thn k = k Γ s := rfl
@[simp] theorem thn_rt {s : S} {y : Res} {k : T S} : (SO.rt y s).thn k = .rt y s := rfl
@[simp] theorem thn_bk {s : S} {Γ : Ctx} {k : T S} : (SO.bk Γ s).thn k = .bk Γ s := rfl
@[simp] theorem thn_ct {s : S} {Γ : Ctx} {k : T S} : (SO.ct Γ s).thn k = .ct Γ s := rfl
theorem post_run {o : Out S α} {Γ : Ctx} {k : α → S → SO S} {E : En S} (h : (o.run Γ k).post E) : o.post (fun a s => (k a s).post E) (fun x s => E.ex x Γ s) := by
  cases o <;> exact h
theorem post_thn {o : SO S} {k : T S} {E : En S} (h : (o.thn k).post E) : o.post { E with nx := fun Γ s => (k Γ s).post E } := by
  cases o <;> exact h
theorem so_mono {o : SO S} {E E' : En S} (h : o.post E) (h1 : ∀ Γ s, E.nx Γ s → E'.nx Γ s) (h2 : ∀ y s, E.rt y s → E'.rt y s) (h3 : ∀ Γ s, E.bk Γ s → E'.bk Γ s) (h4 : ∀ Γ s, E.ct Γ s → E'.ct Γ s) (h5 : ∀ x Γ s, E.ex x Γ s → E'.ex x Γ s) : o.post E' := by
  cases o with
  | nx Γ s => exact h1 _ _ h
  | rt Γ s => exact h2 _ _ h
  | bk Γ s => exact h3 _ _ h
  | ct Γ s => exact h4 _ _ h
  | ex x Γ s => exact h5 _ _ _ h
  | no => exact h.elim
@[simp] def tNx : T S := fun Γ s => .nx Γ s
@[simp] def tSeq (f1 f2 : T S) : T S := fun Γ s => (f1 Γ s).thn f2
@[simp] def tAsg (fa : F S D) (g : FG) : T S := fun Γ s => (fa Γ s).run Γ fun d s1 => match g d Γ with
  | some Γ' => .nx Γ' s1
  | none => .no
@[simp] def tSetO (f : F S (List D)) (i : Nat) : T S := fun Γ s => (f Γ s).run Γ fun l s1 => .nx (Γ.set i (.own l)) s1
@[simp] def tSetR (f : F S Res) (i : Nat) : T S := fun Γ s => (f Γ s).run Γ fun y s1 => .nx (Γ.set i y.sl) s1
@[simp] def tPar (i j : Nat) (f1 f2 : F S Res) : T S := fun Γ s => (f1 Γ s).run Γ fun y1 s1 => (f2 Γ s1).run Γ fun y2 s2 => .nx ((Γ.set i y1.sl).set j y2.sl) s2
@[simp] def tDrop (fa : F S D) : T S := fun Γ s => (fa Γ s).run Γ fun _ s1 => .nx Γ s1
@[simp] def tRet (fa : F S D) : T S := fun Γ s => (fa Γ s).run Γ fun d s1 => .rt (.dat d) s1
@[simp] def tRetO (f : F S (List D)) : T S := fun Γ s => (f Γ s).run Γ fun l s1 => .rt (.own l) s1
@[simp] def tRetV (i : Nat) : T S := fun Γ s => match Γ[i]? with
  | some (.ow .lst l) => .rt (.own l) s
  | _ => .no
@[simp] def tIf (t : F S Bool) (f1 f2 : T S) : T S := fun Γ s => (t Γ s).run Γ fun k s1 => if k = true then f1 Γ s1 else f2 Γ s1
@[simp] def tNo : T S := fun _ _ => .no
def SO.loop (o : SO S) (k : T S) : SO S := match o with
  | .nx Γ s => k Γ s
  | .ct Γ s => k Γ s
  | .bk Γ s => .nx Γ s
  | o => o
@[simp] theorem loop_nx {s : S} {Γ : Ctx} {k : T S} : (SO.nx Γ s).loop k = k Γ s := rfl
@[simp] theorem loop_ct {s : S} {Γ : Ctx} {k : T S} : (SO.ct Γ s).loop k = k Γ s := rfl
@[simp] theorem loop_bk {s : S} {Γ : Ctx} {k : T S} : (SO.bk Γ s).loop k = .nx Γ s := rfl
@[simp] theorem loop_rt {s : S} {y : Res} {k : T S} : (SO.rt y s).loop k = .rt y s := rfl
theorem post_loop {o : SO S} {k : T S} {E : En S} (h : (o.loop k).post E) : o.post { E with nx := fun Γ s => (k Γ s).post E, ct := fun Γ s => (k Γ s).post E, bk := E.nx } := by
  cases o <;> exact h
def forL (g : FG) (b : T S) : List D → T S
  | [], Γ, s => .nx Γ s
  | d :: ds, Γ, s => match g d Γ with
    | some Γ1 => (b Γ1 s).loop (forL g b ds)
    | none => .no
@[simp] def tFor (fi : F S (List D)) (g : FG) (b : T S) : T S := fun Γ s => (fi Γ s).run Γ fun ds s1 => forL g b ds Γ s1
def whL (t : F S Bool) (b : T S) : Nat → T S
  | 0, _, _ => .no
  | n + 1, Γ, s => (t Γ s).run Γ fun k s1 => if k = true then (b Γ s1).loop (whL t b n) else .nx Γ s1
def tWhile (n : Nat) (t : F S Bool) (b : T S) : T S := whL t b n
@[simp] def tApp (i : Nat) (fa : F S D) : T S := fun Γ s => match Γ[i]? with
  | some (.ow .lst l) => (fa Γ s).run Γ fun d s1 => if l.length < 1000000 then .nx (Γ.set i (.own (l ++ [d]))) s1 else .no
  | _ => .no
/-- what is one's own at i is frozen first -/
@[simp] def tFz (i : Nat) (f : T S) : T S := fun Γ s => match Γ[i]? with
  | some (.ow k l) => f (Γ.set i (.dat (k.fz l))) s
  | _ => .no
@[simp] def fLend (i : Nat) (f : F S D) : F S D := fun Γ s => match Γ[i]? with
  | some (.ow .lst l) => (match f (Γ.set i (.dat (.lst l))) s with
    | .ok d s' => if d.flat = true then .ok d s' else .no
    | _ => .no)
  | _ => .no
@[simp] def fLendT (i : Nat) (f : F S Bool) : F S Bool := fun Γ s => match Γ[i]? with
  | some (.ow .lst l) => nox (f (Γ.set i (.dat (.lst l)))) s
  | _ => .no
end
section
variable {S : Type} {X : Cx} {ρ : Rs S} {W : WX} {e a b c tg : Expr} {pos p2 : Pos} {K : PySem.W.Frag} {fa fb fc : F S D} {ta tb : F S Bool} {f fl : F S (List D)} {f1 f2 : T S} {st : Stmt} {sts sa sb : List Stmt}
theorem ts_nil : MB X ρ W [] (sF (tNx : T S)) := mb_nil
theorem ts_cons (h1 : MS X ρ W st (sF f1)) (h2 : MB X ρ W sts (sF f2)) : MB X ρ W (st :: sts) (sF (tSeq f1 f2)) := (mb_cons h1 h2).imp fun Γ s E z => post_thn z
theorem ts_one (h : MS X ρ W st (sF f1)) : MB X ρ W [st] (sF f1) := mb_one h
theorem ts_set {i : Nat} (h : MS X ρ W st (sAsg (wF fa) (gN i))) : MS X ρ W st (sF (tAsg fa (hN i))) := h.imp fun Γ s E z => post_mono (post_run z) (fun d s1 z => z) fun _ _ h => h
theorem ts_setO {i : Nat} (h : MS X ρ W st (sSetO (wF f) i)) : MS X ρ W st (sF (tSetO f i)) := h.imp fun Γ s E z => post_mono (post_run z) (fun d s1 z => z) fun _ _ h => h
theorem ts_ret (h : MS X ρ W st (sRet (wF fa))) : MS X ρ W st (sF (tRet fa)) := h.imp fun Γ s E z => post_mono (post_run z) (fun d s1 z => z) fun _ _ h => h
theorem own_at {Γ : Ctx} {i : Nat} {P : Prop} {k : List D → Prop} (h : P) (f : P → ∃ l, Γ[i]? = some (.ow .lst l) ∧ k l) : Γ.asOwn i k := by
  obtain ⟨l, e, z⟩ := f h
  simp only [Ctx.asOwn, e]
  exact z
theorem ts_if (hc : MT X ρ W c (wF ta)) (h1 : MB X ρ W sa (sF f1)) (h2 : MB X ρ W sb (sF f2)) : MS X ρ W (.If c sa sb pos) (sF (tIf ta f1 f2)) := (ms_if hc h1 h2).imp fun Γ s E z => post_mono (post_run z) (fun k s1 z => by
  split
  · rwa [if_pos (by assumption)] at z
  · rwa [if_neg (by assumption)] at z) fun _ _ h => h
theorem ts_for {fi : F S (List D)} {g : FG} {fbd : T S} (h : MS X ρ W st (sFor (wF fi) (wG g) (sF fbd))) : MS X ρ W st (sF (tFor fi g fbd)) := h.imp fun Γ s E z => by
  refine post_mono (post_run z) (fun ds s1 z => ?_) fun _ _ h => h
  refine ⟨fun i Γ' s' => (forL g fbd (ds.drop i) Γ' s').post E, z, ?_, ?_⟩
  · intro i d Γ' s' hd iv
    have hi := (List.getElem?_eq_some_iff.mp hd).1
    have e2 : ds[i] = d := (List.getElem?_eq_some_iff.mp hd).2
    rw [List.drop_eq_getElem_cons hi, e2] at iv
    unfold forL at iv
    cases e : g d Γ' with
    | none =>
      rw [e] at iv
      exact iv.elim
    | some Γ1 =>
      rw [e] at iv
      exact ⟨Γ1, e, post_loop iv⟩
  · intro Γ' s' iv
    rw [List.drop_length] at iv
    exact iv
theorem ts_while {fbd : T S} (n : Nat) (h : MS X ρ W st (sWhile (wF ta) (sF fbd))) : MS X ρ W st (sF (tWhile n ta fbd)) := h.imp fun Γ s E z => by
  refine ⟨fun m Γ' s' => (whL ta fbd m Γ' s').post E, ⟨n, z⟩, fun m Γ' s' iv => ?_⟩
  cases m with
  | zero => exact iv.elim
  | succ m =>
    refine post_mono (post_run iv) (fun k s1 z => ?_) fun _ _ h => h
    split
    · rw [if_pos (by assumption)] at z
      have y := post_loop z
      exact so_mono y (fun _ _ h => ⟨m, Nat.lt_succ_self m, h⟩) (fun _ _ h => h) (fun _ _ h => h) (fun _ _ h => ⟨m, Nat.lt_succ_self m, h⟩) fun _ _ _ h => h
    · rwa [if_neg (by assumption)] at z
theorem ts_app {i : Nat} (h : MS X ρ W st (sApp i (wF fa))) : MS X ρ W st (sF (tApp i fa)) := h.imp fun Γ s E z => own_at z fun z => by
  simp only [sF, tApp] at z
  split at z
  · refine ⟨_, by assumption, post_mono (post_run z) (fun d s1 z => ?_) fun _ _ h => h⟩
    split at z
    · exact ⟨by assumption, z⟩
    · exact z.elim
  · exact z.elim
theorem ts_fz (i : Nat) (h : MS X ρ W st (sF f1)) : MS X ρ W st (sF (tFz i f1)) := (ms_to h).imp fun Γ s E z => by
  simp only [sF, tFz] at z
  split at z
  · exact ⟨_, Ctx.to_frz i (by assumption), z⟩
  · exact z.elim
/-! ### defs -/
/-- what a def's body computes of its arguments -/
def SO.fin (o : SO S) : Out S Res := match o with
  | .rt y s' => .ok y s'
  | .nx _ s' => .ok (.dat .non) s'
  | .ex x _ s' => .ex x s'
  | _ => .no
@[simp] theorem fin_rt {y : Res} {s : S} : (SO.rt y s).fin = .ok y s := rfl
@[simp] theorem fin_nx {Γ : Ctx} {s : S} : (SO.nx Γ s).fin = .ok (.dat .non) s := rfl
def toM (n : Nat) (f : T S) : List D → M S Res := fun ds s => (f (startC n ds) s).fin
@[reducible] def FWof (np : Nat) (m : List D → M S Res) : FW S := fun ds s q _ => ds.length = np ∧ (nox (m ds) s).post q noX
@[reducible] def FPof (np : Nat) (m : List D → M Unit Res) : FP := fun ds q _ => ds.length = np ∧ (nox (m ds) ()).post (fun y _ => q y) fun _ _ => False
theorem toM_of {n np : Nat} {f : T S} {ds : List D} {s : S} {q : Res → S → Prop} {r : Exn → S → Prop} (h : FWof np (toM n f) ds s q r) : ds.length = np ∧ sF f (startC n ds) s (endOf q noX) := by
  refine ⟨h.1, ?_⟩
  have z := h.2
  unfold nox toM at z
  unfold sF
  cases e : f (startC n ds) s <;> rw [e] at z <;> first | exact z | exact z.elim
theorem toM_ofP {n np : Nat} {f : T Unit} {ds : List D} {s : Unit} {q : Res → Unit → Prop} {r : Exn → Unit → Prop} (h : FPof np (toM n f) ds (fun y => q y s) (fun x => r x s)) : ds.length = np ∧ sF f (startC n ds) s (endOf q noX) :=
  toM_of (r := r) h
/-- f(..) -/
@[simp] def fFn (m : List D → M S Res) (f : F S (List D)) : F S D := fun Γ => bnd (f Γ) fun l => bnd (nox (m l)) fun y => ret y.d
@[simp] def fFnO (m : List D → M S Res) (f : F S (List D)) : F S (List D) := fun Γ => bnd (f Γ) fun l => bnd (nox (m l)) fun y => match y with
  | .ow .lst l' => ret l'
  | _ => mno
def LenE (f : F S (List D)) (n : Nat) : Prop := ∀ Γ s l s', f Γ s = .ok l s' → l.length = n
theorem le_nil : LenE (fNil : F S (List D)) 0 := fun _ _ _ _ e => by
  cases e
  rfl
theorem le_cons {n : Nat} (h : LenE f n) : LenE (fCons fa f) (n + 1) := fun Γ s l s' e => by
  unfold fCons bnd at e
  cases e1 : fa Γ s with
  | no =>
    rw [e1] at e
    cases e
  | ex x s1 =>
    rw [e1] at e
    cases e
  | ok d s1 =>
    rw [e1] at e
    dsimp only at e
    cases e2 : f Γ s1 with
    | no =>
      rw [e2] at e
      cases e
    | ex x s2 =>
      rw [e2] at e
      cases e
    | ok l2 s2 =>
      rw [e2] at e
      cases e
      exact congrArg (· + 1) (h _ _ _ _ e2)
theorem le_b {n : Nat} (h : LenE f n) : LenB f n := fun Γ s l s' e => Nat.le_of_eq (h Γ s l s' e)
theorem post_lenE {n : Nat} (h : LenE f n) {Γ : Ctx} {s : S} {q : List D → S → Prop} {r : Exn → S → Prop} (z : (f Γ s).post q r) : (f Γ s).post (fun l s1 => l.length = n ∧ q l s1) r := by
  cases e : f Γ s with
  | ok l s' =>
    rw [e] at z
    exact ⟨h _ _ _ _ e, z⟩
  | ex x s' =>
    rw [e] at z
    exact z
  | no =>
    rw [e] at z
    exact z
theorem post_noX {α : Type} {o : M S α} {s : S} {q : α → S → Prop} {r : Exn → S → Prop} (h : (nox o s).post q r) : (nox o s).post q noX := by
  unfold nox at h ⊢
  cases e : o s <;> rw [e] at h <;> exact h
theorem fe_fn {np : Nat} {m : List D → M S Res} (le : LenE f np) (h : ME X ρ W e (wFn (FWof np m) [] (wF f))) : ME X ρ W e (wF (fFn m f)) := h.imp fun Γ s q r z => by
  simp only [wF, fFn, post_bnd] at z
  refine post_mono (post_lenE le z) (fun l s1 z => ⟨by simpa using z.1, ?_⟩) fun _ _ h => h
  rw [List.append_nil]
  exact post_noX z.2
theorem nox_lift {α : Type} {m : M Unit α} {s : S} {q : α → S → Prop} {r : Exn → S → Prop} (h : (nox (lift m) s).post q r) : (nox m ()).post (fun y _ => q y s) fun _ _ => False := by
  unfold nox lift at *
  cases e : m () <;> rw [e] at h <;> first | exact h | exact h.elim
theorem fe_fnP {np : Nat} {m : List D → M Unit Res} (le : LenE f np) (h : ME X ρ W e (wFn (FPof np m).up [] (wF f))) : ME X ρ W e (wF (fFn (fun l => lift (m l)) f)) := h.imp fun Γ s q r z => by
  simp only [wF, fFn, post_bnd] at z
  refine post_mono (post_lenE le z) (fun l s1 z => ⟨by simpa using z.1, ?_⟩) fun _ _ h => h
  rw [List.append_nil]
  exact nox_lift z.2
end
end Mb
namespace Mb
open PySem PySem.Spec PyProof.Rows L2
open Evl (Ex)
/-- a written text, never unfolded -/
@[irreducible] def sl (s : String) : Str := Str.ofString s
theorem sl_eq (s : String) : sl s = Str.ofString s := by
  unfold sl
  rfl
/-- where the program's classes stand -/
structure Adr where
  History : Addr
  Theory : Addr
  Case : Addr
  Quest : Addr
  Grower : Addr
  BlameError : Addr := 0
  NoHistory : Addr := 0
  NoVersion : Addr := 0
  NoChange : Addr := 0
  NoTest : Addr := 0
  Cheaper : Addr := 0
  TooMany : Addr := 0
  NoOperation : Addr := 0
  NoJournal : Addr := 0
  NoText : Addr := 0
  NoOrder : Addr := 0
  NoCause : Addr := 0
  NoTheory : Addr := 0
  NoCase : Addr := 0
  NoCosts : Addr := 0
  NoLie : Addr := 0
  NoLimit : Addr := 0
  NoCauses : Addr := 0
  NoClaim : Addr := 0
  NoChanges : Addr := 0
  NoSuspects : Addr := 0
  NoState : Addr := 0
  NoPlan : Addr := 0
  NoNumber : Addr := 0
  NothingLeft : Addr := 0
  Depths : Addr := 0
  Prober : Addr := 0
  Hunt : Addr := 0
  Console : Addr := 0
section
variable {S : Type} {X : Cx} {ρ : Rs S} {W : WX} {e a b c tg : Expr} {pos p2 : Pos} {K : PySem.W.Frag} {fa fb fc : F S D} {ta tb : F S Bool} {f fl : F S (List D)} {f1 f2 : T S} {st : Stmt} {sts sa sb : List Stmt}
theorem fe_sl {s : String} {j : Nat} : ME X ρ W (.Constant (.str (Str.ofString s)) j pos) (wF (fC (.str (sl s)))) := by
  rw [sl_eq]
  exact me_str
theorem ts_setO_lc {fi : F S (List D)} {g : FG} {t : F S Bool} {fe : F S D} {vs : List Nat} {i : Nat} (h : MS X ρ W st (sSetO (wLc (wF fi) (wG g) (wF t) (wF fe) vs) i)) : MS X ρ W st (sF (tSetO (fLc fi g t fe vs) i)) := ts_setO (h.imp fun _ _ _ z => lc_of z)
/-! ### instances -/
def dFld (C : Addr) (x : Str) : D → Option D
  | .ins C' ks l => if C' = C then (ks.zip l).lookup x else none
  | _ => none
@[simp] def fFld (C : Addr) (x : Str) (fa : F S D) : F S D := fun Γ => bnd (fa Γ) fun d => opt (dFld C x d)
/-- o.m(..): the class is looked at -/
def isIns (C : Addr) (x : Str) : D → Bool
  | .ins C' ks _ => decide (C' = C) && !(ks.contains x)
  | _ => false
@[simp] def fMe (C : Addr) (x : Str) (m : List D → M S Res) (fa : F S D) (f : F S (List D)) : F S D := fun Γ => bnd (fa Γ) fun d => chk (isIns C x d = true) (bnd (f Γ) fun l => bnd (nox (m (d :: l))) fun y => ret y.d)
@[simp] def fMe0 (C : Addr) (x : Str) (m : List D → M S Res) (fa : F S D) : F S D := fun Γ => bnd (fa Γ) fun d => chk (isIns C x d = true) (bnd (nox (m [d])) fun y => ret y.d)
/-! ### isinstance of two classes -/
@[simp] def fIsi2 (S1 S2 : String) (fa : F S D) : F S D := fun Γ => bnd (fa Γ) fun d => opt ((isiD d S1).bind fun b1 => (isiD d S2).map fun b2 => .bl (b1 || b2))
end
/-! ### the source of draws -/
section
variable {X : Cx} {W : WX} {e a b c tg : Expr} {pos p2 : Pos} {dr : Dr} {fa : F DS D} {st : Stmt}
def fDg (dr : Dr) (i : Nat) (f : DS → D) : F DS D := fun Γ s => match Γ[i]? with
  | some (.dat (.adr a)) => if a = dr.d then .ok (f s) s else .no
  | _ => .no
theorem asDat_at {Γ : Ctx} {i : Nat} {P : Prop} {k : D → Prop} (h : P) (f : P → ∃ l, Γ[i]? = some (.dat l) ∧ k l) : Γ.asDat i k := by
  obtain ⟨l, e, z⟩ := f h
  simp only [Ctx.asDat, e]
  exact z
theorem fe_dg {i : Nat} {f : DS → D} (h : ME X (dsR dr) W e (wDg dr i f)) : ME X (dsR dr) W e (wF (fDg dr i f)) := h.imp fun Γ s q r z => asDat_at z fun z => by
  simp only [wF, fDg] at z
  split at z
  · split at z
    · rename_i e
      exact ⟨_, by assumption, by rw [e], z⟩
    · exact z.elim
  · exact z.elim
theorem ft_gr {i : Nat} (h : MT X (dsR dr) W e (wTest (wGr dr i))) : MT X (dsR dr) W e (wF (fTest (fDg dr i fun s => .bl (decide (s.gr ≠ []))))) := ft_test (h.imp fun Γ s q r z => asDat_at z fun z => by
  simp only [wTest, wF, fDg] at z
  split at z
  · split at z
    · rename_i e
      exact ⟨_, by assumption, by rw [e], z⟩
    · exact z.elim
  · exact z.elim)
def fPop (dr : Dr) (i : Nat) : F DS D := fun Γ s => match Γ[i]? with
  | some (.dat (.adr a)) => if a = dr.d then (match s.gr with
    | x :: t => .ok (.int x) { s with gr := t }
    | [] => .no) else .no
  | _ => .no
theorem fe_pop {i : Nat} (h : ME X (dsR dr) W e (wPop dr i)) : ME X (dsR dr) W e (wF (fPop dr i)) := h.imp fun Γ s q r z => asDat_at z fun z => by
  simp only [wF, fPop] at z
  split at z
  · split at z
    · rename_i e
      refine ⟨_, by assumption, by rw [e], ?_⟩
      cases hg : s.gr with
      | nil =>
        rw [hg] at z
        exact z.elim
      | cons x t =>
        rw [hg] at z
        exact z
    · exact z.elim
  · exact z.elim
def tDg (dr : Dr) (i : Nat) (fa : F DS D) : T DS := fun Γ s => match Γ[i]? with
  | some (.dat (.adr a)) => if a = dr.d then (match fa Γ s with
    | .ok (.int n) s1 => .nx Γ { s1 with dg := n }
    | _ => .no) else .no
  | _ => .no
def tTn (dr : Dr) (i : Nat) (n : Int) : T DS := fun Γ s => match Γ[i]? with
  | some (.dat (.adr a)) => if a = dr.d then .nx Γ { s with tn := s.tn + n } else .no
  | _ => .no
theorem ts_dg {i : Nat} (h : MS X (dsR dr) W st (sDg dr i (wF fa))) : MS X (dsR dr) W st (sF (tDg dr i fa)) := h.imp fun Γ s E z => by
  simp only [sF, tDg] at z
  split at z
  · rename_i e1
    split at z
    · rename_i e2
      split at z
      · rename_i e3
        simp only [sDg, wF, e3, post_ok, Mb.D.asInt_int, Ctx.asDat, e1]
        exact ⟨by rw [e2], z⟩
      · exact z.elim
    · exact z.elim
  · exact z.elim
theorem ts_tn {i : Nat} {n : Int} (h : MS X (dsR dr) W st (sTn dr i n)) : MS X (dsR dr) W st (sF (tTn dr i n)) := h.imp fun Γ s E z => asDat_at z fun z => by
  simp only [sF, tTn] at z
  split at z
  · split at z
    · rename_i e
      exact ⟨_, by assumption, by rw [e], z⟩
    · exact z.elim
  · exact z.elim
end
end Mb
namespace Mb
open PySem PySem.Spec PyProof.Rows L2
/-! ### comprehensions and loops whose steps are known -/
section
variable {S τ : Type}
theorem lcF_enc {one : D → M S (Option D)} (enc : τ → D) {ts : List τ} (p : τ → Bool) (f : τ → D) (h : ∀ t ∈ ts, one (enc t) = ret (if p t = true then some (f t) else none)) : lcF one (ts.map enc) = ret ((ts.filter p).map f) := by
  induction ts with
  | nil => rfl
  | cons t ts ih =>
    rw [List.map_cons]
    unfold lcF
    rw [h t List.mem_cons_self, bnd_ret, ih fun e he => h e (List.mem_cons_of_mem _ he), bnd_ret, List.filter_cons]
    cases p t <;> rfl
theorem lcF_map {one : D → M S (Option D)} (enc : τ → D) {ts : List τ} (f : τ → D) (h : ∀ t ∈ ts, one (enc t) = ret (some (f t))) : lcF one (ts.map enc) = ret (ts.map f) := by
  have := lcF_enc enc (fun _ => true) f (one := one) (ts := ts) fun t ht => by rw [h t ht]; rfl
  rw [this, List.filter_eq_self.mpr fun _ _ => rfl]
end
/-! ### primitives on data of a known form -/
section
variable {τ : Type}
@[simp] theorem pAll_map {ts : List τ} {p : τ → Bool} : pAll [.lst (ts.map fun t => .bl (p t))] = some (.bl (ts.all p)) := by
  unfold pAll
  have h : (ts.map fun t => D.bl (p t)).all D.isBl = true := by simp
  simp [h, List.all_map, Function.comp_def]
@[simp] theorem pAny_map {ts : List τ} {p : τ → Bool} : pAny [.lst (ts.map fun t => .bl (p t))] = some (.bl (ts.any p)) := by
  unfold pAny
  have h : (ts.map fun t => D.bl (p t)).all D.isBl = true := by simp
  simp [h, List.any_map, Function.comp_def]
end
theorem pls_mem {n : Nat} {l : List D} : D.plsA l n = true ↔ ∀ d ∈ l, D.plA d n = true := by
  induction l with
  | nil => simp
  | cons d l ih => simp [ih]
mutual
theorem plA_mono : ∀ {d : D} {n m : Nat}, D.plA d n = true → n ≤ m → D.plA d m = true
  | .non, _, _, _, _ => rfl
  | .bl _, _, _, _, _ => rfl
  | .int _, _, _, _, _ => rfl
  | .str _, _, _, h, _ => h
  | .tup l, n, m, h, q => by
    simp only [plA_tup, Bool.and_eq_true, decide_eq_true_eq] at h ⊢
    exact ⟨by omega, plsA_mono h.2 (by omega)⟩
  | .lst l, n, m, h, q => by
    simp only [plA_lst, Bool.and_eq_true, decide_eq_true_eq] at h ⊢
    exact ⟨by omega, plsA_mono h.2 (by omega)⟩
  | .ty _, _, _, h, _ => nomatch h
  | .adr _, _, _, h, _ => nomatch h
  | .dic _ _, _, _, h, _ => nomatch h
  | .dif _ _, _, _, h, _ => nomatch h
  | .err _ _ _, _, _, h, _ => nomatch h
  | .ins _ _ _, _, _, h, _ => nomatch h
theorem plsA_mono : ∀ {l : List D} {n m : Nat}, D.plsA l n = true → n ≤ m → D.plsA l m = true
  | [], _, _, _, _ => rfl
  | d :: l, n, m, h, q => by
    simp only [plsA_cons, Bool.and_eq_true] at h ⊢
    exact ⟨plA_mono h.1 q, plsA_mono h.2 q⟩
end
@[simp] theorem pAll_nil : pAll [.lst []] = some (.bl true) := rfl
@[simp] theorem pAny_nil : pAny [.lst []] = some (.bl false) := rfl
@[simp] theorem pAll_bls {l : List Bool} : pAll [.lst (l.map D.bl)] = some (.bl (l.all id)) := by
  have := pAll_map (ts := l) (p := id)
  simpa using this
@[simp] theorem pAny_bls {l : List Bool} : pAny [.lst (l.map D.bl)] = some (.bl (l.any id)) := by
  have := pAny_map (ts := l) (p := id)
  simpa using this
@[simp] theorem pAll_cons {b : Bool} {l : List D} : pAll [.lst (.bl b :: l)] = (pAll [.lst l]).bind fun d => match d with
    | .bl c => some (.bl (b && c))
    | _ => none := by
  unfold pAll
  dsimp only
  rw [List.all_cons]
  by_cases h : l.all D.isBl = true
  · simp only [h, isBl_bl, Bool.true_and, if_true]
    rfl
  · simp [h]
@[simp] theorem pAny_cons {b : Bool} {l : List D} : pAny [.lst (.bl b :: l)] = (pAny [.lst l]).bind fun d => match d with
    | .bl c => some (.bl (b || c))
    | _ => none := by
  unfold pAny
  dsimp only
  rw [List.all_cons]
  by_cases h : l.all D.isBl = true
  · simp only [h, isBl_bl, Bool.true_and, if_true]
    rfl
  · simp [h]
/-! ### equality of data -/
def eqL (l m : List D) : Bool := PyData.eqvAll (D.pys l) (D.pys m)
@[simp] theorem eqD_tup {l m : List D} : eqD (.tup l) (.tup m) = eqL l m := by
  unfold eqD eqL D.py
  rw [PyData.eqv]
@[simp] theorem eqD_lst {l m : List D} : eqD (.lst l) (.lst m) = eqL l m := by
  unfold eqD eqL D.py
  rw [PyData.eqv]
@[simp] theorem eqL_nil : eqL [] [] = true := rfl
@[simp] theorem eqL_nc {d : D} {l : List D} : eqL [] (d :: l) = false := rfl
@[simp] theorem eqL_cn {d : D} {l : List D} : eqL (d :: l) [] = false := rfl
@[simp] theorem eqL_cons {d e : D} {l m : List D} : eqL (d :: l) (e :: m) = (eqD d e && eqL l m) := by
  show PyData.eqvAll (d.py :: D.pys l) (e.py :: D.pys m) = _
  rw [PyData.eqvAll]
  rfl
@[simp] theorem eqD_non_tup {l : List D} : eqD .non (.tup l) = false := rfl
@[simp] theorem eqD_tup_non {l : List D} : eqD (.tup l) .non = false := rfl
@[simp] theorem eqD_tup_lst {l m : List D} : eqD (.tup l) (.lst m) = false := rfl
@[simp] theorem eqD_lst_tup {l m : List D} : eqD (.lst l) (.tup m) = false := rfl
@[simp] theorem eqD_non_lst {l : List D} : eqD .non (.lst l) = false := rfl
@[simp] theorem eqD_lst_non {l : List D} : eqD (.lst l) .non = false := rfl
@[simp] theorem eqD_int_tup {i : Int} {l : List D} : eqD (.int i) (.tup l) = false := rfl
@[simp] theorem eqD_tup_int {i : Int} {l : List D} : eqD (.tup l) (.int i) = false := rfl
@[simp] theorem eqD_int_non {i : Int} : eqD (.int i) .non = false := rfl
@[simp] theorem eqD_non_int {i : Int} : eqD .non (.int i) = false := rfl
@[simp] theorem eqD_str_tup {x : Str} {l : List D} : eqD (.str x) (.tup l) = false := rfl
@[simp] theorem eqD_tup_str {x : Str} {l : List D} : eqD (.tup l) (.str x) = false := rfl
@[simp] theorem eqD_int_lst {i : Int} {l : List D} : eqD (.int i) (.lst l) = false := rfl
@[simp] theorem eqD_lst_int {i : Int} {l : List D} : eqD (.lst l) (.int i) = false := rfl
/-! ### the written texts -/
theorem sl_cps (s : String) : (sl s).cps.toList = s.toList.map Char.toNat := by
  rw [sl_eq, Str.ofString_eq_toList]
@[simp] theorem sl_inj {s t : String} : sl s = sl t ↔ s = t := by
  refine ⟨fun h => ?_, fun h => by rw [h]⟩
  have h1 : (sl s).cps.toList = (sl t).cps.toList := by rw [h]
  rw [sl_cps, sl_cps] at h1
  have h2 := (List.map_inj_right fun x y e => Char.ext (UInt32.toNat_inj.mp e)).mp h1
  exact String.toList_inj.mp h2
theorem sl_length (s : String) : (sl s).length = s.toList.length := by
  have : (sl s).length = (sl s).cps.toList.length := by simp [Str.length]
  rw [this, sl_cps, List.length_map]
theorem sl_ok (s : String) : PyData.strOk (sl s) = true := by
  unfold PyData.strOk
  rw [← Array.all_toList, sl_cps, List.all_eq_true]
  intro c hc
  obtain ⟨x, _, rfl⟩ := List.mem_map.mp hc
  have v := x.valid
  have e : x.toNat = x.val.toNat := rfl
  refine decide_eq_true ?_
  rw [e]
  rcases v with v | ⟨_, v⟩
  · exact Nat.lt_trans v (by decide)
  · exact v
end Mb
namespace Mb
open PySem PySem.Spec PyProof.Rows L2
open Evl (Ex)
/-! ### an instance while its __init__ runs: a resource -/
/-- where it stands: the instance, its dict, its class; the attributes that hold lists of its own, and those lists -/
structure OA where
  x : Addr
  dx : Addr
  C : Addr
  ls : List (Str × Addr)
  nd : (x :: dx :: ls.map (·.2)).Nodup
  nf : (ls.map (·.1)).Nodup
/-- what the lists hold; the attributes behind them -/
structure OSt where
  c : List (List D)
  more : List (Str × D)
def LsOk (K : PySem.W.Frag) (Hs H : Hp) : List (Str × Addr) → List (List D) → Prop
  | [], [] => True
  | (_, p) :: ls, c :: cs => (∃ vs, H p = some (.lst vs) ∧ IsAll K Hs vs c) ∧ LsOk K Hs H ls cs
  | _, _ => False
theorem LsOk.mono {K : PySem.W.Frag} {Hs Hs' H H' : Hp} (e : Ex Hs Hs') : ∀ {ls : List (Str × Addr)} {cs : List (List D)}, (∀ p ∈ ls.map (·.2), H' p = H p) → LsOk K Hs H ls cs → LsOk K Hs' H' ls cs
  | [], [], _, _ => True.intro
  | (f, p) :: ls, c :: cs, k, ⟨⟨vs, h1, h2⟩, h⟩ => ⟨⟨vs, by rw [k p (by simp)]; exact h1, h2.mono e⟩, LsOk.mono e (fun q hq => k q (by simp at hq ⊢; exact Or.inr hq)) h⟩
  | [], _ :: _, _, h => h.elim
  | _ :: _, [], _, h => h.elim
theorem LsOk.there {K : PySem.W.Frag} {Hs H : Hp} : ∀ {ls : List (Str × Addr)} {cs : List (List D)}, LsOk K Hs H ls cs → ∀ p ∈ ls.map (·.2), ∃ vs, H p = some (.lst vs)
  | [], [], _, p, hp => by simp at hp
  | (f, q) :: ls, c :: cs, ⟨⟨vs, h1, h2⟩, h⟩, p, hp => by
    simp only [List.map_cons, List.mem_cons] at hp
    rcases hp with rfl | hp
    · exact ⟨vs, h1⟩
    · exact LsOk.there h p hp
  | [], _ :: _, h, _, _ => h.elim
  | _ :: _, [], h, _, _ => h.elim
theorem LsOk.len {K : PySem.W.Frag} {Hs H : Hp} : ∀ {ls : List (Str × Addr)} {cs : List (List D)}, LsOk K Hs H ls cs → ls.length = cs.length
  | [], [], _ => rfl
  | (f, q) :: ls, c :: cs, ⟨_, h⟩ => congrArg (· + 1) (LsOk.len h)
  | [], _ :: _, h => h.elim
  | _ :: _, [], h => h.elim
def OA.fs (a : OA) (more : List (Str × D)) (vm : List V) : List (Str × V) := a.ls.map (fun z => (z.1, V.ref z.2)) ++ (more.map (·.1)).zip vm
def OA.own (a : OA) (b : Addr) : Prop := b = a.x ∨ b = a.dx ∨ b ∈ a.ls.map (·.2)
/-! data that no list of one's own is within -/
mutual
def D.clean : D → Bool
  | .non | .bl _ | .int _ | .str _ => true
  | .tup l => D.cleans l
  | _ => false
def D.cleans : List D → Bool
  | [] => true
  | d :: l => D.clean d && D.cleans l
end
@[simp] theorem clean_non : D.clean .non = true := rfl
@[simp] theorem clean_bl {b : Bool} : D.clean (.bl b) = true := rfl
@[simp] theorem clean_int {i : Int} : D.clean (.int i) = true := rfl
@[simp] theorem clean_str {x : Str} : D.clean (.str x) = true := rfl
@[simp] theorem clean_tup {l : List D} : D.clean (.tup l) = D.cleans l := rfl
@[simp] theorem cleans_nil : D.cleans [] = true := rfl
@[simp] theorem cleans_cons {d : D} {l : List D} : D.cleans (d :: l) = (D.clean d && D.cleans l) := rfl
section
variable {K : PySem.W.Frag} {H H' : Hp}
theorem sqT_drop {a : Addr} {xs : List V} (k : ∀ b, (∃ ys, H b = some (.tup ys)) ∨ (∃ o u, H b = some (.frz o u)) → H' b = H b) (h : SqT K H a xs) : SqT K H' a xs := by
  rcases h with (h | ⟨o, h⟩) | h
  · exact Or.inl (Or.inl (by rw [k a (Or.inl ⟨_, h⟩)]; exact h))
  · exact Or.inl (Or.inr ⟨o, by rw [k a (Or.inr ⟨_, _, h⟩)]; exact h⟩)
  · exact Or.inr h
mutual
theorem Is.dropO (k : ∀ b, (∃ ys, H b = some (.tup ys)) ∨ (∃ o u, H b = some (.frz o u)) → H' b = H b) : ∀ {v : V} {d : D}, Is K H v d → D.clean d = true → Is K H' v d
  | _, _, .non, _ => .non
  | _, _, .bl b, _ => .bl b
  | _, _, .int i, _ => .int i
  | _, _, .str x, _ => .str x
  | _, _, .ty n, h => nomatch h
  | _, _, .lst _ _, h => nomatch h
  | _, _, .tup h hs, c => .tup (sqT_drop k h) (IsAll.dropO k hs c)
  | _, _, .adr a, h => nomatch h
  | _, _, .dic _ _, h => nomatch h
  | _, _, .dif _ _, h => nomatch h
  | _, _, .err _ _ _ _, h => nomatch h
  | _, _, .ins _ _, h => nomatch h
theorem IsAll.dropO (k : ∀ b, (∃ ys, H b = some (.tup ys)) ∨ (∃ o u, H b = some (.frz o u)) → H' b = H b) : ∀ {vs : List V} {ds : List D}, IsAll K H vs ds → D.cleans ds = true → IsAll K H' vs ds
  | _, _, .nil, _ => .nil
  | _, _, .cons h hs, c => by
    rw [cleans_cons, Bool.and_eq_true] at c
    exact .cons (Is.dropO k h c.1) (IsAll.dropO k hs c.2)
end
end
section
variable {K : PySem.W.Frag} {a : OA} {s : OSt} {Hs H : Hp}
end
/-! ### the instance lent for the length of an expression that shares nothing -/
section
variable {X : Cx} {W : WX} {e : Expr} {a : OA}
variable {K : PySem.W.Frag}
end
/-! ### stores into the instance -/
theorem LsOk.at {K : PySem.W.Frag} {Hs H : Hp} : ∀ {ls : List (Str × Addr)} {cs : List (List D)} {j : Nat} {f : Str} {p : Addr}, LsOk K Hs H ls cs → ls[j]? = some (f, p) → ∃ c vs, cs[j]? = some c ∧ H p = some (.lst vs) ∧ IsAll K Hs vs c
  | (f, q) :: ls, c :: cs, 0, _, _, ⟨⟨vs, h1, h2⟩, h⟩, e => by
    cases e
    exact ⟨c, vs, rfl, h1, h2⟩
  | (f, q) :: ls, c :: cs, j + 1, _, _, ⟨_, h⟩, e => LsOk.at (j := j) h e
  | [], [], _, _, _, _, e => by simp at e
  | [], _ :: _, _, _, _, h, _ => h.elim
  | _ :: _, [], _, _, _, h, _ => h.elim
theorem LsOk.upd {K : PySem.W.Frag} {Hs H : Hp} {o : List V} {c' : List D} : ∀ {ls : List (Str × Addr)} {cs : List (List D)} {j : Nat} {f : Str} {p : Addr}, (ls.map (·.2)).Nodup → LsOk K Hs H ls cs → ls[j]? = some (f, p) → IsAll K Hs o c' → LsOk K Hs (L2.upd H p (.lst o)) ls (cs.set j c')
  | (f, q) :: ls, c :: cs, 0, _, _, nd, ⟨⟨vs, h1, h2⟩, h⟩, e, i => by
    cases e
    refine ⟨⟨o, upd_same, i⟩, h.mono (Ex.refl _) fun r hr => upd_ne fun z => ?_⟩
    rw [z] at hr
    exact (List.nodup_cons.mp nd).1 hr
  | (f, q) :: ls, c :: cs, j + 1, _, p, nd, ⟨⟨vs, h1, h2⟩, h⟩, e, i => by
    refine ⟨⟨vs, ?_, h2⟩, LsOk.upd (j := j) (List.nodup_cons.mp nd).2 h e i⟩
    have e' : ls[j]? = some (_, p) := e
    have hp : p ∈ ls.map (·.2) := List.mem_map.mpr ⟨_, List.mem_of_getElem? e', rfl⟩
    rw [upd_ne]
    · exact h1
    · intro z
      have z' : q = p := z
      rw [← z'] at hp
      exact (List.nodup_cons.mp nd).1 hp
  | [], [], _, _, _, _, _, e, _ => by simp at e
  | [], _ :: _, _, _, _, _, h, _, _ => h.elim
  | _ :: _, [], _, _, _, _, h, _, _ => h.elim
section
variable {X : Cx} {W : WX} {e o : Expr} {a : OA} {pos p' p1 p2 p3 p4 : Pos} {fa : F OSt D} {f : Str}
end
/-! ### what an __init__ promises -/
def spI (K : PySem.W.Frag) (C : Addr) (np : Nat) (R : List D → D → Prop) : Sp := fun vs H Q _ => ∃ (Hs : Hp) (x dx : Addr) (vs' : List V) (ds : List D) (d : D), vs = .ref x :: vs' ∧ ds.length + 1 = np ∧ Ex Hs H ∧ H x = some (.ins C dx []) ∧ H dx = some (.own x) ∧ dx ≠ x ∧ Hs x = none ∧ Hs dx = none ∧ IsAll K Hs vs' ds ∧ R ds d ∧
  ∀ Hs' H', Ex Hs Hs' → Ex Hs' H' → (∀ b o, b ≠ x → H b = some o → H' b = some o) → (∀ b o, H b = some o → b ≠ x → Hs b = none → Hs' b = none) → (∃ o, H' x = some o) → Is K Hs' (.ref x) d → Q .non H'
theorem pss_ex {X : Cx} {α : Type} {sts : List Stmt} {t : α → TS} (h : ∀ a, PSs X sts (t a)) : PSs X sts (fun D σ H => ∃ a, t a D σ H) := ⟨fun pins s σ H D I ⟨a, q⟩ => (h a).run pins s σ H D I q⟩
end Mb
namespace Mb
open PySem PySem.Spec PyProof.Rows L2
open Evl (Ex)
/-! ### C(..) -/
/-- a class as callers see it; dds: the defaults that fill up -/
structure CalC (P : Program) (wd : World) (K : PySem.W.Frag) (mg : Str → Option Value) (base : Heap) (x : Str) (C : Addr) (ps : List Str) (k : Nat) (dds : List D) (R : List D → D → Prop) : Prop where
  it : ∃ f fd ds dvs, FnOk P wd K mg base CX0 k f fd ps (spI K C ps.length R) ∧ Mk K C f ∧ Binds K fd ps ds ∧ Vals dvs ds ∧ ∀ H, IsAll K H dvs dds
  mg : mg x = some (.ref C)
section
variable {S : Type} {X : Cx} {ρ : Rs S} {W : WX} {e : Expr} {es : List Expr} {pos p : Pos} {f : F S (List D)} {C : Addr} {x : Str} {ps : List Str} {k n : Nat} {dds : List D} {R : List D → D → Prop}
end
/-! ### methods that hand back a list of one's own -/
section
variable {S : Type} {X : Cx} {ρ : Rs S} {W : WX} {e a : Expr} {pos p : Pos} {fa : F S D} {f : F S (List D)} {C : Addr} {m : Str} {ps : List Str} {k np : Nat} {es : List Expr}
end
end Mb
namespace PySem.W
open PySem PySem.Calls PyProof.Rows Builtin
section
variable {prog : Program} {w : World} {A : Around} {E : Value → Shared → Prop} {s : Shared} {K : Frag} {x C L f : Addr} {h₀ : Heap} {m : Str → Option Value} {ox : Obj} {od : Option Obj} {name : Str} {b tb : Value}
end
end PySem.W
namespace Mb
open PySem PySem.Spec PyProof.Rows L2
open Evl (Ex)
/-! ### own classes: isinstance, ==, !=, len, properties -/
structure IsiOk (K : PySem.W.Frag) (C : Addr) : Prop where
  cl : Cls K C
  ca : PySem.W.findIn K (.ref C) "__class__" = some (some (.builtin "object.__class__"))
  cn : PySem.W.specialIn K (.builtin "object.__class__") "__get__" = some (some (.builtin "getset_descriptor.__get__"))
  ct : PySem.W.takesIn K (.builtin "object.__class__") = some true
  cm : PySem.W.mroIn K C (.type "object") = some true
  ki : ∀ T ∈ ["NoneType", "bool", "int", "str", "list", "tuple", "dict"], PySem.W.kitOne K (.type T) (.ref C) = some false
  nf : ∀ T ∈ ["NoneType", "bool", "int", "str", "list", "tuple", "dict"], PySem.W.notFirst K C (.type T) = true
structure EqOk (K : PySem.W.Frag) (C : Addr) : Prop where
  is : IsiOk K C
  ne : PySem.W.findIn K (.ref C) "__ne__" = some (some (.builtin "object.__ne__"))
/-- an instance of C or not -/
def isOwn (C : Addr) : D → Option Bool
  | .ins C' _ _ => if C' = C then some true else none
  | d => match d.tyN with
    | some _ => some false
    | none => none
def isC (C : Addr) : D → Bool
  | .ins C' _ _ => decide (C' = C)
  | _ => false
@[simp] theorem isC_ins {C C' : Addr} {ks : List Str} {l : List D} : isC C (.ins C' ks l) = decide (C' = C) := rfl
@[simp] theorem isOwn_ins {C : Addr} {ks : List Str} {l : List D} : isOwn C (.ins C ks l) = some true := if_pos rfl
@[simp] theorem isOwn_non {C : Addr} : isOwn C .non = some false := rfl
@[simp] theorem isOwn_bl {C : Addr} {b : Bool} : isOwn C (.bl b) = some false := rfl
@[simp] theorem isOwn_int {C : Addr} {b : Int} : isOwn C (.int b) = some false := rfl
@[simp] theorem isOwn_str {C : Addr} {b : Str} : isOwn C (.str b) = some false := rfl
@[simp] theorem isOwn_lst {C : Addr} {b : List D} : isOwn C (.lst b) = some false := rfl
@[simp] theorem isOwn_tup {C : Addr} {b : List D} : isOwn C (.tup b) = some false := rfl
section
variable {X : Cx} {n : Nat} {C f : Addr} {fd : FuncData} {ps : List Str} {sp : Sp}
end
/-! ### the expressions -/
/-- a property as callers see it -/
structure CalP (P : Program) (wd : World) (K : PySem.W.Frag) (mg : Str → Option Value) (base : Heap) (C : Addr) (m : Str) (ps : List Str) (k : Nat) (sp : Sp) : Prop where
  it : ∃ p g fd, PropOf K C m p g ∧ FnOk P wd K mg base CX0 k g fd ps sp ∧ Binds K fd ps []
  cl : Cls K C
section
variable {S : Type} {X : Cx} {ρ : Rs S} {W : WX} {e a b : Expr} {pos p p2 : Pos} {fa fb : F S D} {C : Addr} {x : Str} {ps : List Str} {k : Nat} {mm : List D → M Unit Res}
@[simp] def fIsC (C : Addr) (fa : F S D) : F S D := fun Γ => bnd (fa Γ) fun d => opt ((isOwn C d).map .bl)
end
end Mb
namespace Mb
open PySem PySem.Spec PyProof.Rows L2
open Evl (Ex)
/-! ### a list of one's own, lent for an expression that does not keep it -/
/-- tuples are told by their places -/
def TU (K : PySem.W.Frag) (H : Hp) : Prop := (∀ a xs ys, SqT K H a xs → SqT K H a ys → xs = ys) ∧ ∀ a xs ys, H a = some (.lst xs) → SqT K H a ys → False
mutual
def D.cl2 : D → Bool
  | .non | .bl _ | .int _ | .str _ => true
  | .tup l => D.cl2s l
  | .lst l => D.cl2s l
  | _ => false
def D.cl2s : List D → Bool
  | [] => true
  | d :: l => D.cl2 d && D.cl2s l
end
@[simp] theorem cl2_non : D.cl2 .non = true := rfl
@[simp] theorem cl2_bl {b : Bool} : D.cl2 (.bl b) = true := rfl
@[simp] theorem cl2_int {i : Int} : D.cl2 (.int i) = true := rfl
@[simp] theorem cl2_str {x : Str} : D.cl2 (.str x) = true := rfl
@[simp] theorem cl2_tup {l : List D} : D.cl2 (.tup l) = D.cl2s l := rfl
@[simp] theorem cl2_lst {l : List D} : D.cl2 (.lst l) = D.cl2s l := rfl
@[simp] theorem cl2s_nil : D.cl2s [] = true := rfl
@[simp] theorem cl2s_cons {d : D} {l : List D} : D.cl2s (d :: l) = (D.cl2 d && D.cl2s l) := rfl
mutual
def D.sep (l : List D) : D → Prop
  | .lst ds => D.cl2s ds = true ∧ ds ≠ l ∧ D.seps l ds
  | .tup ds => D.seps l ds
  | .ins _ _ ds => D.seps l ds
  | .dic _ ds => D.seps l ds
  | .dif _ ds => D.seps l ds
  | .err _ _ ds => D.seps l ds
  | _ => True
def D.seps (l : List D) : List D → Prop
  | [] => True
  | d :: ds => D.sep l d ∧ D.seps l ds
end
@[simp] theorem seps_nil {l : List D} : D.seps l [] = True := rfl
@[simp] theorem seps_cons {l : List D} {d : D} {ds : List D} : D.seps l (d :: ds) = (D.sep l d ∧ D.seps l ds) := rfl
@[simp] theorem sep_lst {l ds : List D} : D.sep l (.lst ds) = (D.cl2s ds = true ∧ ds ≠ l ∧ D.seps l ds) := rfl
@[simp] theorem sep_tup {l ds : List D} : D.sep l (.tup ds) = D.seps l ds := rfl
@[simp] theorem sep_ins {l ds : List D} {C : Addr} {ks : List Str} : D.sep l (.ins C ks ds) = D.seps l ds := rfl
@[simp] theorem sep_int {l : List D} {i : Int} : D.sep l (.int i) = True := rfl
@[simp] theorem sep_str {l : List D} {i : Str} : D.sep l (.str i) = True := rfl
@[simp] theorem sep_non {l : List D} : D.sep l .non = True := rfl
@[simp] theorem sep_bl {l : List D} {b : Bool} : D.sep l (.bl b) = True := rfl
mutual
theorem cl2_of_clean : ∀ {d : D}, D.clean d = true → D.cl2 d = true
  | .non, _ => rfl
  | .bl _, _ => rfl
  | .int _, _ => rfl
  | .str _, _ => rfl
  | .tup l, h => cl2s_of_cleans (l := l) h
  | .lst _, h => nomatch h
  | .ty _, h => nomatch h
  | .adr _, h => nomatch h
  | .dic _ _, h => nomatch h
  | .dif _ _, h => nomatch h
  | .err _ _ _, h => nomatch h
  | .ins _ _ _, h => nomatch h
theorem cl2s_of_cleans : ∀ {l : List D}, D.cleans l = true → D.cl2s l = true
  | [], _ => rfl
  | d :: l, h => by
    rw [cleans_cons, Bool.and_eq_true] at h
    rw [cl2s_cons, cl2_of_clean h.1, cl2s_of_cleans h.2]
    rfl
end
section
variable {K : PySem.W.Frag} {H Hs Hs' : Hp}
mutual
theorem is_det (tu : TU K H) : ∀ {v : V} {e d : D}, Is K H v e → e.cl2 = true → Is K H v d → d.cl2 = true → d = e
  | _, _, d, .non, _, h, c => by cases h <;> first | rfl | cases c
  | _, _, d, .bl b, _, h, c => by cases h <;> first | rfl | cases c
  | _, _, d, .int i, _, h, c => by cases h <;> first | rfl | cases c
  | _, _, d, .str x, _, h, c => by cases h <;> first | rfl | cases c
  | _, _, d, .ty n, c, h, _ => nomatch c
  | _, _, d, .adr a, c, h, _ => nomatch c
  | _, _, d, .dic _ _, c, h, _ => nomatch c
  | _, _, d, .dif _ _, c, h, _ => nomatch c
  | _, _, d, .err _ _ _ _, c, h, _ => nomatch c
  | _, _, d, .ins _ _, c, h, _ => nomatch c
  | _, _, d, .lst hq hs, c, h, c2 => by
    cases h with
    | lst h2 hs2 =>
      rw [hq] at h2
      cases h2
      rw [isAll_det tu hs c hs2 c2]
    | tup h2 hs2 => exact (tu.2 _ _ _ hq h2).elim
    | adr _ => cases c2
    | dic _ _ => cases c2
    | dif _ _ => cases c2
    | err _ _ _ _ => cases c2
    | ins _ _ => cases c2
  | _, _, d, .tup hq hs, c, h, c2 => by
    cases h with
    | lst h2 hs2 => exact (tu.2 _ _ _ h2 hq).elim
    | tup h2 hs2 =>
      have e := tu.1 _ _ _ h2 hq
      subst e
      rw [isAll_det tu hs c hs2 c2]
    | adr _ => cases c2
    | dic _ _ => cases c2
    | dif _ _ => cases c2
    | err _ _ _ _ => cases c2
    | ins _ _ => cases c2
theorem isAll_det (tu : TU K H) : ∀ {vs : List V} {es ds : List D}, IsAll K H vs es → D.cl2s es = true → IsAll K H vs ds → D.cl2s ds = true → ds = es
  | _, _, _, .nil, _, .nil, _ => rfl
  | _, _, _, .cons h hs, c, .cons h2 hs2, c2 => by
    rw [cl2s_cons, Bool.and_eq_true] at c
    rw [cl2s_cons, Bool.and_eq_true] at c2
    rw [is_det tu h c.1 h2 c2.1, isAll_det tu hs c.2 hs2 c2.2]
end
variable {p : Addr} {us : List V} {l : List D}
mutual
theorem is_off (tu : TU K H) (ex : Ex Hs H) (hp : Hs p = some (.lst us)) (hu : IsAll K Hs us l) (cl : D.cl2s l = true) : ∀ {v : V} {d : D}, Is K Hs v d → D.sep l d → Is K (offOne Hs p) v d
  | _, _, .non, _ => .non
  | _, _, .bl b, _ => .bl b
  | _, _, .int i, _ => .int i
  | _, _, .str x, _ => .str x
  | _, _, .ty n, _ => .ty n
  | _, _, .adr a, _ => .adr a
  | _, _, .lst (a := a) h hs, q => by
    refine .lst ?_ (isAll_off tu ex hp hu cl hs q.2.2)
    rw [off_ne]
    · exact h
    · intro z
      rw [z, hp] at h
      cases h
      exact q.2.1 (isAll_det tu (hu.mono ex) cl (hs.mono ex) q.1)
  | _, _, .tup (a := a) h hs, q => by
    refine .tup ?_ (isAll_off tu ex hp hu cl hs q)
    rcases h with (h | ⟨o, h⟩) | h
    · refine Or.inl (Or.inl ?_)
      rw [off_ne]
      · exact h
      · intro z
        rw [z, hp] at h
        cases h
    · refine Or.inl (Or.inr ⟨o, ?_⟩)
      rw [off_ne]
      · exact h
      · intro z
        rw [z, hp] at h
        cases h
    · exact Or.inr h
  | _, _, .dic (a := a) h hs, q => by
    refine .dic ?_ (isAll_off tu ex hp hu cl hs q)
    rw [off_ne]
    · exact h
    · intro z
      rw [z, hp] at h
      cases h
  | _, _, .dif (a := a) (o := ob) h hs, q => by
    refine .dif (o := ob) ?_ (isAll_off tu ex hp hu cl hs q)
    rw [off_ne]
    · exact h
    · intro z
      rw [z, hp] at h
      cases h
  | _, _, .err (a := a) (p := pp) h h2 h3 hs, q => by
    refine .err (p := pp) ?_ (fun z e => ?_) h3 (isAll_off tu ex hp hu cl hs q)
    · rw [off_ne]
      · exact h
      · intro z
        rw [z, hp] at h
        cases h
    · rw [off_ne]
      · exact h2 z e
      · intro y
        have h4 := h2 z e
        rw [y, hp] at h4
        cases h4
  | _, _, .ins (a := a) (dx := dx) h hs, q => by
    refine .ins (dx := dx) ?_ (isAll_off tu ex hp hu cl hs q)
    rw [off_ne]
    · exact h
    · intro z
      rw [z, hp] at h
      cases h
theorem isAll_off (tu : TU K H) (ex : Ex Hs H) (hp : Hs p = some (.lst us)) (hu : IsAll K Hs us l) (cl : D.cl2s l = true) : ∀ {vs : List V} {ds : List D}, IsAll K Hs vs ds → D.seps l ds → IsAll K (offOne Hs p) vs ds
  | _, _, .nil, _ => .nil
  | _, _, .cons h hs, q => .cons (is_off tu ex hp hu cl h q.1) (isAll_off tu ex hp hu cl hs q.2)
end
end
section
variable {S : Type} {X : Cx} {ρ : Rs S} {W : WX} {e : Expr} {fa : F S D}
end
end Mb
namespace Mb
open PySem PySem.Spec PyProof.Rows L2
open Evl (Ex)
/-! ### o.m(k = v, ..) -/
/-- the keywords' values in the parameters' order: ix tells the place -/
def pmL {α : Type} (ix : List Nat) (l : List α) : List α := ix.filterMap fun i => l[i]?
def gK {α : Type} (n : Nat) (ix : List Nat) (us ws : List α) : List α := if us.length = n ∧ ws.length = ix.length then us ++ pmL ix ws else []
theorem vals_at {vs : List V} {us : List Value} (r : Vals vs us) (i : Nat) : (vs[i]? = none ∧ us[i]? = none) ∨ ∃ v u, vs[i]? = some v ∧ us[i]? = some u ∧ RelV v u := by
  cases e : vs[i]? with
  | none =>
    left
    refine ⟨rfl, ?_⟩
    rw [List.getElem?_eq_none_iff] at e ⊢
    rw [← r.length]
    exact e
  | some v =>
    obtain ⟨u, h1, h2⟩ := r.get e
    exact Or.inr ⟨v, u, rfl, h1, h2⟩
theorem vals_app {vs zs : List V} {us ws : List Value} (r : Vals vs us) (r2 : Vals zs ws) : Vals (vs ++ zs) (us ++ ws) := by
  induction r with
  | nil => exact r2
  | cons h _ ih => exact .cons h ih
theorem pm_vals {vs : List V} {us : List Value} (r : Vals vs us) : ∀ ix : List Nat, Vals (pmL ix vs) (pmL ix us)
  | [] => .nil
  | i :: ix => by
    rcases vals_at r i with ⟨h1, h2⟩ | ⟨v, u, h1, h2, h3⟩
    · unfold pmL
      rw [List.filterMap_cons, List.filterMap_cons, h1, h2]
      exact pm_vals r ix
    · unfold pmL
      rw [List.filterMap_cons, List.filterMap_cons, h1, h2]
      exact .cons h3 (pm_vals r ix)
theorem gK_rel {n : Nat} {ix : List Nat} {vs : List V} {us : List Value} {zs : List V} {ws : List Value} (r : Vals vs us) (r2 : Vals zs ws) : Vals (gK n ix vs zs) (gK n ix us ws) := by
  unfold gK
  rw [r.length, r2.length]
  split
  · exact vals_app r (pm_vals r2 ix)
  · exact .nil
section
variable {X : Cx} {CX : CXT} {k : Nat} {f C : Addr} {fd : FuncData} {ps ks : List Str} {sp : Sp} {E : XK} {m : Str} {p pos apos : Pos} {o : Expr} {kws : List Keyword} {ta : TE} {tk : TA} {g : List Value → List Value → List Value} {gV : List V → List V → List V}
end
/-- a method called by keywords -/
structure CalMK (P : Program) (wd : World) (K : PySem.W.Frag) (mg : Str → Option Value) (base : Heap) (C : Addr) (m : Str) (ps ks : List Str) (ix : List Nat) (k : Nat) (sp : Sp) : Prop where
  it : ∃ f fd, FnOk P wd K mg base CX0 k f fd ps sp ∧ Meth K C m f ∧ KBinds K fd ps ks (gK 1 ix) (gK 1 ix)
  cl : Cls K C
structure MKw {S : Type} (X : Cx) (ρ : Rs S) (W : WX) (kws : List Keyword) (w : WO S) : Prop where
  pk : PK X kws (tWa X.K ρ W w)
section
variable {S : Type} {X : Cx} {ρ : Rs S} {W : WX} {a b e : Expr} {kws : List Keyword} {pos p kpos p1 p2 p3 p4 : Pos} {fa : F S D} {f : F S (List D)} {C : Addr} {ps ks : List Str} {k np : Nat} {mm : List D → M Unit Res} {ix : List Nat} {nm : Option Str}
theorem pk_imp {t t' : TA} (h : PK X kws t) (f : ∀ σ H Q, t' σ H Q → t σ H Q) : PK X kws t' := ⟨fun pos pins s σ H Q I q => h.run pos pins s σ H Q I (f _ _ _ q)⟩
theorem fk_nil : MKw X ρ W [] (wF (fNil : F S (List D))) := ⟨pk_imp pk_nil fun σ H Q ⟨H0, Hs, Γ, s, q, rx, G, L, h, k, x⟩ => k [] [] s Hs H (Rel.refl _ _) G .nil h⟩
theorem fk_cons (ha : ME X ρ W a (wF fa)) (hr : MKw X ρ W kws (wF f)) : MKw X ρ W (⟨nm, a, kpos⟩ :: kws) (wF (fCons fa f)) :=
  ⟨pk_imp (pk_cons ha.pe hr.pk) fun σ H Q ⟨H0, Hs, Γ, s, q, rx, G, L, h, k, x⟩ => by
    simp only [wF, fCons, post_bnd] at h
    exact ⟨H0, Hs, Γ, s, _, rx, G, L, h, fun v d s1 Hs1 H1 R1 G1 I1 h1 => ⟨H0, Hs1, Γ, s1, _, rx, G1, L.step R1, h1, fun vs l s2 Hs2 H2 R2 G2 I2 h2 => k (v :: vs) (d :: l) s2 Hs2 H2 (R1.trans R2) G2 (.cons (I1.mono R2.s) I2) h2, x.step R1⟩, x⟩⟩
/-- xs.clear(), xs one's own -/
@[simp] def tClear (i : Nat) : T S := fun Γ s => match Γ[i]? with
  | some (.ow .lst _) => .nx (Γ.set i (.own [])) s
  | _ => .no
end
end Mb
namespace Mb
open PySem PySem.Spec PyProof.Rows L2
open Evl (Ex)
/-! ### the script, and the draws begun from it -/
def scR (K : PySem.W.Frag) (a : Addr) (ns : List Int) : Rs Unit where
  own := fun _ => False
  inv := fun _ Hs _ => SqL K Hs a (intsV ns) ∧ ns.length ≤ 63
  loc := fun _ _ _ _ _ h => h
  mono := fun _ _ _ _ e h => ⟨SqL.ext h.1 e, h.2⟩
  dom := fun _ _ _ _ _ h => h.elim
def fScr (a : Addr) (ns : List Int) (i : Nat) : F Unit (List D) := fun Γ s => match Γ[i]? with
  | some (.dat (.adr b)) => if b = a then .ok (intsD' ns) s else .no
  | _ => .no
section
variable {X : Cx} {W : WX} {a : Addr} {ns : List Int} {tg : Expr} {x : Str} {p : Pos}
theorem yl_scr {K : PySem.W.Frag} {H1 : Hp} (h : SqL K H1 a (intsV ns)) : Yl K (scR K a ns) (Itl K a) H1 (intsD' ns) := by
  intro i Hs H e1 e2
  have hs : SqL K H a (intsV ns) := SqL.ext (SqL.ext h e1) e2
  rw [List.length_map]
  refine ⟨fun hi => ?_, fun hi => ⟨_, hs, by rw [List.length_map]; exact Nat.le_of_eq hi.symm⟩⟩
  have q : (intsV ns)[i]? = some (.int ns[i]) := by rw [List.getElem?_map, List.getElem?_eq_getElem hi]; rfl
  refine ⟨⟨_, _, hs, q⟩, fun x H' y => ?_⟩
  obtain ⟨rfl, y⟩ := y
  have q2 := y _ hs
  rw [q] at q2
  cases q2
  exact ⟨.int ns[i], by rw [List.getElem?_map, List.getElem?_eq_getElem hi]; rfl, Or.inl ⟨rfl, .int _⟩⟩
theorem fi_scr {i : Nat} (hv : PE X (.Name x p) (tVar i)) : MI X (scR X.K a ns) W tg (.Name x p) (wF (fScr a ns i)) :=
  ⟨⟨fun pins st σ H R I q => (pi_list hv).run pins st σ H R I (by
    obtain ⟨H0, Hs, Γ, s, q, r, G, L, h, k, xo⟩ := q
    simp only [wF, fScr] at h
    split at h
    case h_2 => exact h.elim
    rename_i b e
    split at h
    case isFalse => exact h.elim
    rename_i hb
    subst hb
    obtain ⟨u, e1, i1⟩ := L.get e
    cases i1
    have hq := G.inv.1
    exact ⟨_, e1, b, rfl, ⟨_, SqL.ext hq G.ex⟩, k (Itl X.K b) (intsD' ns) s Hs H (Rel.refl _ _) G (yl_scr hq) (by rw [List.length_map]; exact Nat.le_trans G.inv.2 (by decide)) h⟩)⟩⟩
end
@[simp] def mAbs : G1 := fun ds q => match ds with | [.int i] => q (.int (if i < 0 then -i else i)) | _ => False
theorem ms_abs {K : PySem.W.Frag} : SndC K (fun xs H Q => ∃ i, xs = [.int i] ∧ Q (.int (if i < 0 then -i else i)) H) mAbs := fun Hs H xs ds q Q ex ia h k _ => by
  unfold mAbs at h
  split at h
  · obtain ⟨x, rfl, i1⟩ := one_arg ia
    cases i1
    exact ⟨_, rfl, k _ _ h (.int _)⟩
  · exact h.elim
@[simp] def pAbs : List D → Option D
  | [.int i] => some (.int (if i < 0 then -i else i))
  | _ => none
theorem br_abs : Br1 mAbs pAbs := fun d v q h k => by
  unfold pAbs at h
  split at h
  · cases h
    exact k
  · cases h
def spBeg (K : PySem.W.Frag) : Sp := fun vs H Q _ => ∃ (Hs : Hp) (a : Addr) (ns : List Int), vs = [.ref a] ∧ Ex Hs H ∧ SqL K Hs a (intsV ns) ∧ ns.length ≤ 63 ∧
  ∀ (dr : Dr) (s : DS) (Hs' H' : Hp), Ex Hs Hs' → Gd (dsR dr) s Hs' H' → s.tn = 0 → s.gr.length ≤ 63 → (∀ b o, H b = some o → Hs b = none → H' b = some o ∧ Hs' b = none ∧ ¬ (dsR dr).own b) → Q (.ref dr.d) H'
theorem ints_uniq {K : PySem.W.Frag} {H : Hp} : ∀ {vs : List V} {l : List Int}, IsAll K H vs (intsD' l) → vs = intsV l
  | [], [], _ => rfl
  | _ :: _, i :: l, .cons h t => by
    cases h
    rw [ints_uniq t]
    rfl
theorem beg_of {P : Program} {wd : World} {K : PySem.W.Frag} {mg : Str → Option Value} {base : Heap} {x0 qual : Str} {st st1 : Stmt} {e0 eg el e3 : Expr} {f : Addr} {fd : FuncData} {N ps : List Str} {k : Nat} {p1 p2 p3 p4 p5 p6 : Pos} {j1 j2 j3 j4 : Nat}
    (t1 : Addr → List Int → T Unit) (f2 : Addr → List Int → F Unit (List D))
    (hb : defBody st = [st1, .Return (some (.Dict [some (.Constant (.str "digits") j1 p1), some (.Constant (.str "great") j2 p2), some (.Constant (.str "lumps") j3 p3), some (.Constant (.str "turn") j4 p4)] [e0, eg, el, e3] p5)) p6]) (Fk : Fun K x0 qual st f fd) (Sc : FnScope N ps (defScope st)) (hps : ps.length = 1)
    (h1 : ∀ a ns, ns.length ≤ 63 → ∃ gr : List Int, gr.length ≤ 63 ∧ ∃ Γ, t1 a ns (startC N.length [.adr a]) () = .nx Γ () ∧ Γ[1]? = some (.own (intsD' gr)) ∧ Γ[0]? = some (.dat (.adr a)) ∧ Γ.length = N.length)
    (h2 : ∀ a ns (Γ : Ctx), ns.length ≤ 63 → Γ[0]? = some (.dat (.adr a)) → Γ.length = N.length → ∃ ls : List Int, f2 a ns Γ () = .ok (intsD' ls) ())
    (hbody : ∀ (a : Addr) (ns : List Int) (cdv : Value) (A : Around) (outer : List Env) (s : Shared) (H : Hp) (E : XK), Room k (A.deeper (envOfC qual (defScope st) s.heap.objs.size f cdv)) →
      MS (cxOf CX0 P wd K mg base N qual (defScope st) f cdv A outer s H E).nox (scR K a ns) WF st1 (sF (t1 a ns)) ∧ MO (cxOf CX0 P wd K mg base N qual (defScope st) f cdv A outer s H E).nox (scR K a ns) WF el (wF (f2 a ns)) ∧ PE (cxOf CX0 P wd K mg base N qual (defScope st) f cdv A outer s H E).nox eg (tVar 1) ∧
      PE (cxOf CX0 P wd K mg base N qual (defScope st) f cdv A outer s H E).nox e0 (tC (.int 0)) ∧ PE (cxOf CX0 P wd K mg base N qual (defScope st) f cdv A outer s H E).nox e3 (tC (.int 0))) : FnOk P wd K mg base CX0 (k + 1) f fd ps (spBeg K) := by
  refine Fk.ok Sc (fun vs H Q E h => ?_) (fun cdv A outer s H vs Q E hr h => ?_)
  · obtain ⟨Hs, a, ns, rfl, _⟩ := h
    exact hps.symm
  · obtain ⟨Hs, a, ns, rfl, ex, hq, hl, kq⟩ := h
    rw [hb]
    obtain ⟨m1, m2, pg, q0, q3⟩ := hbody a ns cdv A outer s H E hr
    refine ⟨_, pss_cons m1.ps (pss_one (ps_ret (pe_disp (pps_cons pe_str q0 (pps_cons pe_str pg (pps_cons pe_str m2.pe (pps_cons pe_str q3 pps_nil)))) rfl rfl (fun z => nomatch z) (by simp)))), ?_⟩
    obtain ⟨gr, hgr, Γ1, et, eg1, ea1, en1⟩ := h1 a ns hl
    have G : Gd (scR K a ns) () Hs H := ⟨ex, ⟨hq, hl⟩, fun _ z => z.elim⟩
    refine ⟨H, Hs, Hs, _, (), { nx := fun Γ _ => Γ = Γ1, rt := fun _ _ => False, ex := fun _ _ _ => False }, Rel.refl _ _, G, slots_start (.cons (.adr a) .nil), ?_, ⟨fun σ' Hs' H' Γ s2 R' G' L' h' => ?_, fun _ _ _ _ _ _ _ _ z => z.elim, fun _ _ _ _ _ _ _ _ z => z.elim, fun _ _ _ _ _ _ _ _ z => z.elim, fun _ _ _ _ _ _ _ _ _ _ _ _ z => z.elim⟩⟩
    · show (t1 a ns (startC N.length [.adr a]) ()).post _
      rw [et]
      rfl
    · subst h'
      obtain ⟨g, us, e1, hg, hus, hgn, hg0, _⟩ := L'.getOwn eg1
      obtain ⟨ls, els⟩ := h2 a ns Γ hl ea1 en1
      intro p hp
      have gp := G'.put (o := .dK []) hp
      have L1 := L'.step gp.2
      refine ⟨_, e1, H, Hs', Γ, (), fun l _ => l = intsD' ls, noX, gp.1, L1, ?_, fun q vs l s3 Hs3 H3 R3 G3 hq3 hv3 hn3 hnew el3 => ?_, xok_of⟩
      · show (f2 a ns Γ ()).post _ _
        rw [els]
        rfl
      · subst el3
        have hp3 : H3 p = some (.dK []) := R3.h p _ (fun z => z.elim) upd_same
        have hg3 : H3 g = some (.lst us) := R3.h g _ (fun z => z.elim) (by rw [upd_ne (ne_of_none hg hp)]; exact hg)
        have npg : p ≠ g := fun z => by
          rw [z, hg3] at hp3
          cases hp3
        have hHp : upd H' p (.dK []) p = some (.dK []) := upd_same
        have pn : Hs3 p = none := R3.n p _ hHp (G'.freeS hp)
        have gn : Hs3 g = none := R3.n g (.lst us) (by rw [upd_ne (ne_of_none hg hp)]; exact hg) hgn
        have nqp : q ≠ p := fun z => by
          rw [z, upd_same] at hnew
          cases hnew
        have nqg : q ≠ g := fun z => by
          rw [z, upd_ne (ne_of_none hg hp)] at hnew
          rw [hg] at hnew
          cases hnew
        have eus : us = intsV gr := ints_uniq hus
        have evs : vs = intsV ls := ints_uniq hv3
        refine ⟨hp3, [(Sum.inr ("digits" : Str), V.int 0), (Sum.inr ("great" : Str), V.ref g), (Sum.inr ("lumps" : Str), V.ref q), (Sum.inr ("turn" : Str), V.int 0)], rfl, by simp, ?_⟩
        have em : mergeK [] [(Sum.inr ("digits" : Str), V.int 0), (Sum.inr ("great" : Str), V.ref g), (Sum.inr ("lumps" : Str), V.ref q), (Sum.inr ("turn" : Str), V.int 0)] = drK ⟨p, g, q, ls, npg⟩ ⟨0, gr, 0⟩ := by
          have k1 : (("digits" : Str) = "great") = False := eq_false (by decide +kernel)
          have k2 : (("digits" : Str) = "lumps") = False := eq_false (by decide +kernel)
          have k3 : (("digits" : Str) = "turn") = False := eq_false (by decide +kernel)
          have k4 : (("great" : Str) = "lumps") = False := eq_false (by decide +kernel)
          have k5 : (("great" : Str) = "turn") = False := eq_false (by decide +kernel)
          have k6 : (("lumps" : Str) = "turn") = False := eq_false (by decide +kernel)
          simp [mergeK, putK, drK, k1, k2, k3, k4, k5, k6]
        rw [em]
        have G4 := G3.freeze hq3 hn3 (fun z => z)
        refine kq ⟨p, g, q, ls, npg⟩ ⟨0, gr, 0⟩ (upd Hs3 q (.lst vs)) _ ((R'.s.trans R3.s).trans (Ex.new hn3)) ⟨fun b o z => ?_, ⟨upd_same, ?_, ?_⟩, fun b hb => ?_⟩ rfl hgr fun b o e1 e2 => ?_
        · have nb : b ≠ p := fun y => by
            rw [y, upd_ne nqp.symm, pn] at z
            cases z
          rw [upd_ne nb]
          exact G4.ex b o z
        · rw [upd_ne npg.symm, hg3, eus]
        · rw [upd_same, evs]
        · rcases hb with rfl | rfl
          · rw [upd_ne nqp.symm]
            exact pn
          · rw [upd_ne nqg.symm]
            exact gn
        · have f1 := R'.h b o (fun z => z) e1
          have n1 := R'.n b o e1 e2
          have nb : b ≠ p := ne_of_none f1 hp
          have f2 : upd H' p (.dK []) b = some o := by
            rw [upd_ne nb]
            exact f1
          have f3 := R3.h b o (fun z => z) f2
          have n3 := R3.n b o f2 n1
          have nq : b ≠ q := ne_of_none f2 hnew
          refine ⟨by rw [upd_ne nb]; exact f3, by rw [upd_ne nq]; exact n3, fun z => ?_⟩
          rcases z with z | z
          · exact nb z
          · exact ne_of_none e1 hg0 z
end Mb
namespace Mb
open PySem PySem.Spec PyProof.Rows L2
open Evl (Ex)
/-! ### the law's def -/
def spTrue (K : PySem.W.Frag) : Sp := fun vs H Q _ => ∃ (a : Addr) (ns : List Int), vs = [.ref a] ∧ SqL K H a (intsV ns) ∧ ns.length ≤ 63 ∧ ∀ H', Q (.bl true) H'
/-! ### how the program's defs bind -/
end Mb
namespace Mb
open PySem PySem.Spec PyProof.Rows L2
open Evl (Ex)
/-! ### defs that raise -/
section
variable {S : Type} {ρ : Rs S} {K : PySem.W.Frag}
@[reducible] def FXof (np : Nat) (m : List D → M S Res) : FW S := fun ds s q r => ds.length = np ∧ (m ds s).post q r
/-- what the text says of an error's class -/
structure ErrC (K : PySem.W.Frag) (C : Addr) : Prop where
  q : PySem.W.excIn K C [.type "ValueError", .type "Exception", .type "BaseException", .type "object"] "ValueError.__new__" = true
  kp : PySem.W.keepIn K (.ref C) = true
  sb : PySem.W.subIn K (.ref C) (.type "BaseException") = some true
  ty : PySem.W.typeIn K (.ref C) = some (.type "type")
variable {X : Cx} {W : WX}
end
end Mb
namespace Mb
open PySem PySem.Spec PyProof.Rows L2
open Evl (Ex)
/-! ### try: body, except x as n: y = n; the error noted in y lives on -/
section
variable {X : Cx} {pins : List (Addr × Obj)} {σ : L2.St} {H : Hp} {s : Shared} {a : Addr} {oe : Obj}
/-- an error at a of the class cls with the dict d, whatever its trace -/
abbrev exT (cls : Value) (d : Option Addr) (a : Addr) : HO := .ext fun h => ∃ (oe : Obj) (vs : Array Value), h.get? a = some oe ∧ Zc cls d oe ∧ oe.data = .fields vs
theorem exT_ok {P : Program} {w : World} {H : Hp} {h : Heap} {cls : Value} {d : Option Addr} {vs : Array Value} (e : h.get? a = some oe) (z : Zc cls d oe) (hd : oe.data = .fields vs) : ObjOk P w H h a (exT cls d a) :=
  ⟨⟨oe, vs, e, z, hd⟩, ⟨oe, e⟩, fun _ _ ⟨o, v, q, r⟩ k => ⟨o, v, k o q, r⟩⟩
variable {x n y : Str} {c : Value} {i j : Nat} {body : List Stmt} {np yp zp ap pos pos' : Pos} {tb : WX → TS} {Wout : WX}
end
end Mb
namespace Mb
open PySem PySem.Spec PyProof.Rows L2
open Evl (Ex)
section
variable {S : Type} {X : Cx} {ρ : Rs S} {W : WX} {K : PySem.W.Frag} {s s' : S} {H0 Hs H : Hp} {σ : L2.St} {Γ : Ctx}
/-! ### isinstance of a caught error -/
variable {a : Expr} {fa : F S D} {x : Str} {p p2 pos : Pos} {C : Addr}
def fIsX (tbl : List (Addr × Bool)) (fa : F S D) : F S D := fun Γ => bnd (fa Γ) fun d => match d with
  | .err D [] [] => opt ((tbl.lookup D).map .bl)
  | _ => mno
@[simp] theorem fIsX_app {tbl : List (Addr × Bool)} {fa : F S D} {Γ : Ctx} : fIsX tbl fa Γ = bnd (fa Γ) fun d => match d with
  | .err D [] [] => opt ((tbl.lookup D).map .bl)
  | _ => mno := rfl
theorem lookup_in {tbl : List (Addr × Bool)} {D : Addr} {b : Bool} (h : tbl.lookup D = some b) : (D, b) ∈ tbl := by
  induction tbl with
  | nil => cases h
  | cons y l ih =>
    obtain ⟨k, z⟩ := y
    rw [List.lookup_cons] at h
    by_cases e : D = k
    · subst e
      simp at h
      rw [h]
      exact List.mem_cons_self
    · have e2 : (D == k) = false := beq_eq_false_iff_ne.mpr e
      rw [e2] at h
      exact List.mem_cons_of_mem _ (ih h)
end
end Mb
namespace Mb
open PySem PySem.Spec PyProof.Rows L2
open Evl (Ex)
/-! ### calls of defs that may raise -/
section
variable {S : Type} {X : Cx} {ρ : Rs S} {W : WX} {K : PySem.W.Frag} {e o a b : Expr} {es : List Expr} {pos p ap : Pos} {x m : Str} {k n : Nat} {f C : Addr} {fd : FuncData} {ps : List Str} {sp : Sp} {E : L2.St → XK}
@[reducible] def FPXof (np : Nat) (m : List D → M Unit Res) : FP := fun ds q r => ds.length = np ∧ (m ds ()).post (fun y _ => q y) fun x _ => r x
/-- f(..) -/
structure CalE (P : Program) (wd : World) (K : PySem.W.Frag) (mg : Str → Option Value) (base : Heap) (x : Str) (ps : List Str) (k : Nat) (sp : Sp) : Prop where
  it : ∃ f fd, FnOk P wd K mg base (L2.CX P wd) k f fd ps sp ∧ mg x = some (.ref f) ∧ PySem.W.keepIn K (.ref f) = true ∧ Binds K fd ps []
@[simp] def fFnX (m : List D → M S Res) (f : F S (List D)) : F S D := fun Γ => bnd (f Γ) fun l => bnd (m l) fun y => ret y.d
structure CalCM (P : Program) (wd : World) (K : PySem.W.Frag) (mg : Str → Option Value) (base : Heap) (cn : Str) (C : Addr) (m : Str) (ps : List Str) (k : Nat) (sp : Sp) : Prop where
  it : ∃ mc pr g fd, ClX.CRead K C mc ∧ ClX.CMet K C mc m pr g ∧ FnOk P wd K mg base (L2.CX P wd) k g fd ps sp ∧ Binds K fd ps []
  gl : mg cn = some (.ref C)
def fCmX (C : Addr) (m : List D → M S Res) (f : F S (List D)) : F S D := fun Γ => bnd (f Γ) fun l => bnd (m (.adr C :: l)) fun y => ret y.d
def fCm (C : Addr) (m : List D → M S Res) (f : F S (List D)) : F S D := fun Γ => bnd (f Γ) fun l => bnd (nox (m (.adr C :: l))) fun y => ret y.d
@[simp] theorem fCmX_app {C : Addr} {m : List D → M S Res} {f : F S (List D)} {Γ : Ctx} : fCmX C m f Γ = bnd (f Γ) fun l => bnd (m (.adr C :: l)) fun y => ret y.d := rfl
@[simp] theorem fCm_app {C : Addr} {m : List D → M S Res} {f : F S (List D)} {Γ : Ctx} : fCm C m f Γ = bnd (f Γ) fun l => bnd (nox (m (.adr C :: l))) fun y => ret y.d := rfl
end
end Mb
namespace Mb
open PySem PySem.Spec PyProof.Rows L2
open Evl (Ex)
/-! ### a | b by the class's own __or__, which may raise -/
section
variable {S : Type} {X : Cx} {ρ : Rs S} {W : WX} {e a b : Expr} {pos : Pos} {k : Nat} {f C : Addr} {fd : FuncData} {ps : List Str} {sp : Sp} {ta tb : TE} {fa fb : F S D}
structure CalO (P : Program) (wd : World) (K : PySem.W.Frag) (mg : Str → Option Value) (base : Heap) (C : Addr) (ps : List Str) (k : Nat) (sp : Sp) : Prop where
  it : ∃ f fd, FnOk P wd K mg base (L2.CX P wd) k f fd ps sp ∧ Meth K C "__or__" f ∧ Binds K fd ps []
  sf : PySem.W.selfFirst K C = true
def fOrX (C : Addr) (m : List D → M S Res) (fa fb : F S D) : F S D := fun Γ => bnd (fa Γ) fun d => bnd (fb Γ) fun e => if isC C d = true ∧ isC C e = true then bnd (m [d, e]) fun y => ret y.d else mno
def fOrN (C : Addr) (m : List D → M S Res) (fa fb : F S D) : F S D := fun Γ => bnd (fa Γ) fun d => bnd (fb Γ) fun e => if isC C d = true ∧ isC C e = true then bnd (nox (m [d, e])) fun y => ret y.d else mno
@[simp] theorem fOrX_app {C : Addr} {m : List D → M S Res} {fa fb : F S D} {Γ : Ctx} : fOrX C m fa fb Γ = bnd (fa Γ) fun d => bnd (fb Γ) fun e => if isC C d = true ∧ isC C e = true then bnd (m [d, e]) fun y => ret y.d else mno := rfl
@[simp] theorem fOrN_app {C : Addr} {m : List D → M S Res} {fa fb : F S D} {Γ : Ctx} : fOrN C m fa fb Γ = bnd (fa Γ) fun d => bnd (fb Γ) fun e => if isC C d = true ∧ isC C e = true then bnd (nox (m [d, e])) fun y => ret y.d else mno := rfl
end
end Mb
namespace Mb
open PySem PySem.Spec PyProof.Rows L2
open Evl (Ex)
/-! ### a list of one's own lent to what makes another list of one's own -/
section
variable {S : Type} {X : Cx} {ρ : Rs S} {W : WX} {e : Expr} {fa : F S (List D)}
/-- f(), no argument -/
@[simp] def fFn0 (m : List D → M S Res) : F S D := fun _ => bnd (nox (m [])) fun y => ret y.d
end
end Mb
namespace Mb
open PySem PySem.Spec PyProof.Rows L2
open Evl (Ex)
/-! ### f(k = v, ..) -/
section
variable {X : Cx} {CX : CXT} {k : Nat} {f : Addr} {fd : FuncData} {ps ks : List Str} {sp : Sp} {E : XK} {x : Str} {p pos : Pos} {kws : List Keyword} {tk : TA} {g : List Value → List Value → List Value} {gV : List V → List V → List V}
end
/-- a def called by keywords -/
structure CalK (P : Program) (wd : World) (K : PySem.W.Frag) (mg : Str → Option Value) (base : Heap) (x : Str) (ps ks : List Str) (ix : List Nat) (k : Nat) (sp : Sp) : Prop where
  it : ∃ f fd, FnOk P wd K mg base CX0 k f fd ps sp ∧ mg x = some (.ref f) ∧ PySem.W.keepIn K (.ref f) = true ∧ KBinds K fd ps ks (gK 0 ix) (gK 0 ix)
section
variable {S : Type} {X : Cx} {ρ : Rs S} {W : WX} {kws : List Keyword} {pos p : Pos} {f : F S (List D)} {ps ks : List Str} {k np : Nat} {mm : List D → M Unit Res} {ix : List Nat}
end
end Mb
namespace Mb
open PySem PySem.Spec PyProof.Rows L2
open Evl (Ex)
/-! ### C.m(k = v, ..), m a classmethod -/
section
variable {S : Type} {X : Cx} {ρ : Rs S} {W : WX} {o e : Expr} {pos p ap : Pos} {m : Str} {k : Nat} {C : Addr} {fd : FuncData} {ps ks : List Str} {sp : Sp} {kws : List Keyword} {g : List Value → List Value → List Value} {gV : List V → List V → List V}
structure CalCK (P : Program) (wd : World) (K : PySem.W.Frag) (mg : Str → Option Value) (base : Heap) (cn : Str) (C : Addr) (m : Str) (ps ks : List Str) (ix : List Nat) (k : Nat) (sp : Sp) : Prop where
  it : ∃ mc pr g fd, ClX.CRead K C mc ∧ ClX.CMet K C mc m pr g ∧ FnOk P wd K mg base (L2.CX P wd) k g fd ps sp ∧ KBinds K fd ps ks (gK 1 ix) (gK 1 ix)
  gl : mg cn = some (.ref C)
def fCmK (C : Addr) (np : Nat) (ix : List Nat) (m : List D → M S Res) (f : F S (List D)) : F S D := fun Γ => bnd (f Γ) fun l => if l.length = ix.length ∧ (pmL ix l).length + 1 = np then bnd (nox (m (.adr C :: pmL ix l))) fun y => ret y.d else mno
@[simp] theorem fCmK_app {np : Nat} {ix : List Nat} {mm : List D → M S Res} {f : F S (List D)} {Γ : Ctx} : fCmK C np ix mm f Γ = bnd (f Γ) fun l => if l.length = ix.length ∧ (pmL ix l).length + 1 = np then bnd (nox (mm (.adr C :: pmL ix l))) fun y => ret y.d else mno := rfl
end
end Mb
namespace Mb
open PySem PySem.W
/-! ### isinstance of classes of one's own, by what the heap says -/
end Mb
namespace Mb
open PySem PySem.Spec PyProof.Rows L2
open Evl (Ex)
/-! ### o.m(..), m a method that may raise -/
section
variable {S : Type} {X : Cx} {ρ : Rs S} {W : WX} {K : PySem.W.Frag} {e o a b : Expr} {es : List Expr} {pos p ap apos : Pos} {x m : Str} {k n : Nat} {f C : Addr} {fd : FuncData} {ps : List Str} {sp : Sp} {CX : CXT} {E : L2.St → XK} {fa : F S D}
structure CalMX (P : Program) (wd : World) (K : PySem.W.Frag) (mg : Str → Option Value) (base : Heap) (C : Addr) (m : Str) (ps : List Str) (k : Nat) (sp : Sp) : Prop where
  it : ∃ f fd, FnOk P wd K mg base (L2.CX P wd) k f fd ps sp ∧ Meth K C m f ∧ Binds K fd ps []
  cl : Cls K C
def fMeX (C : Addr) (x : Str) (m : List D → M S Res) (fa : F S D) (f : F S (List D)) : F S D := fun Γ => bnd (fa Γ) fun d => chk (isIns C x d = true) (bnd (f Γ) fun l => bnd (m (d :: l)) fun y => ret y.d)
@[simp] theorem fMeX_app {C : Addr} {x : Str} {m : List D → M S Res} {fa : F S D} {f : F S (List D)} {Γ : Ctx} : fMeX C x m fa f Γ = bnd (fa Γ) fun d => chk (isIns C x d = true) (bnd (f Γ) fun l => bnd (m (d :: l)) fun y => ret y.d) := rfl
end
end Mb
namespace Mb
open PySem PySem.Spec PyProof.Rows L2
open Evl (Ex)
/-! ### C(..), an __init__ that may raise -/
section
variable {X : Cx} {CX : CXT} {k n : Nat} {f C : Addr} {fd : FuncData} {ps ks : List Str} {sp : Sp} {E : L2.St → XK} {x : Str} {p pos : Pos} {e : Expr} {es : List Expr} {kws : List Keyword} {t tk : TA} {g : List Value → List Value → List Value} {gV : List V → List V → List V} {ds : List Value} {dvs : List V}
end
/-- what such an __init__ promises: R the instances made, RX the errors -/
def spIX (K : PySem.W.Frag) (C : Addr) (np : Nat) (R : List D → D → Prop) (RX : List D → Exn → Prop) : Sp := fun vs H Q E => ∃ (Hs : Hp) (x dx : Addr) (vs' : List V) (ds : List D), vs = .ref x :: vs' ∧ ds.length + 1 = np ∧ Ex Hs H ∧ H x = some (.ins C dx []) ∧ H dx = some (.own x) ∧ dx ≠ x ∧ Hs x = none ∧ Hs dx = none ∧ IsAll K Hs vs' ds ∧
  ((∃ d, R ds d ∧ ∀ Hs' H', Ex Hs Hs' → Ex Hs' H' → (∀ b o, b ≠ x → H b = some o → H' b = some o) → (∀ b o, H b = some o → b ≠ x → Hs b = none → Hs' b = none) → (∃ o, H' x = some o) → Is K Hs' (.ref x) d → Q .non H') ∨
   (∃ y, RX ds y ∧ ∀ Hs' H' c p, Ex Hs Hs' → Ex Hs' H' → (∀ b o, b ≠ x → H b = some o → H' b = some o) → (∀ b o, H b = some o → b ≠ x → Hs b = none → Hs' b = none) → (∃ o, H' x = some o) → ExnOk K Hs' y c p → E c p H'))
/-! ### its callers -/
section
variable {S : Type} {R : List D → D → Prop} {RX : List D → Exn → Prop} {ds : List D}
end
structure CalCX (P : Program) (wd : World) (K : PySem.W.Frag) (mg : Str → Option Value) (base : Heap) (x : Str) (C : Addr) (ps : List Str) (k : Nat) (dds : List D) (R : List D → D → Prop) (RX : List D → Exn → Prop) : Prop where
  it : ∃ f fd ds dvs, FnOk P wd K mg base (L2.CX P wd) k f fd ps (spIX K C ps.length R RX) ∧ Mk K C f ∧ Binds K fd ps ds ∧ Vals dvs ds ∧ ∀ H, IsAll K H dvs dds
  mg : mg x = some (.ref C)
/-- C(k = v, ..), all parameters given -/
structure CalCXK (P : Program) (wd : World) (K : PySem.W.Frag) (mg : Str → Option Value) (base : Heap) (x : Str) (C : Addr) (ps ks : List Str) (ix : List Nat) (k : Nat) (R : List D → D → Prop) (RX : List D → Exn → Prop) : Prop where
  it : ∃ f fd, FnOk P wd K mg base (L2.CX P wd) k f fd ps (spIX K C ps.length R RX) ∧ Mk K C f ∧ KBn K fd ps 1 ks (gK 1 ix) (gK 1 ix)
  mg : mg x = some (.ref C)
section
variable {S : Type} {X : Cx} {ρ : Rs S} {W : WX} {e : Expr} {es : List Expr} {pos p : Pos} {f : F S (List D)} {C : Addr} {x : Str} {ps : List Str} {k n : Nat} {dds : List D} {R : List D → D → Prop} {RX : List D → Exn → Prop}
end
end Mb
namespace Mb
open PySem PySem.Spec PyProof.Rows L2
open Evl (Ex)
/-! ### dict(e), e a list of pairs -/
def pairD : D → Option (Key × D)
  | .tup [k, v] => (keyOf k).map fun k => (k, v)
  | _ => none
def pairsD : List D → Option (List (Key × D))
  | [] => some []
  | d :: l => (pairD d).bind fun p => (pairsD l).map fun r => p :: r
def pairsL : D → Option (List (Key × D))
  | .lst l => pairsD l
  | _ => none
@[simp] def fDictP {S : Type} (fa : F S D) : F S Res := fun Γ => bnd (fa Γ) fun d => bnd (opt (pairsL d)) fun r => ret (.ow (.dk ((mergeG [] r).map (·.1))) ((mergeG [] r).map (·.2)))
section
variable {S : Type} {X : Cx} {ρ : Rs S} {W : WX} {e a : Expr} {pos p p1 p2 p3 p4 q1 q2 q3 : Pos} {fa fb : F S D}
/-! ### list(range(n)) -/
@[simp] def fLstRng (fa : F S D) : F S (List D) := fun Γ => bnd (fa Γ) fun d => opt (gRng1 [d])
/-! ### xs.append(ys.pop(e)), xs and ys one's own -/
end
end Mb
namespace Mb
open PySem PySem.Spec PyProof.Rows L2
open Evl (Ex)
/-! ### sorted(t), t a tuple of texts -/
@[simp] def pSortT : List D → Option (List D)
  | [.tup l] => (strs? l).bind fun ys => if ys.length < 64 then some ((sortS ys).map .str) else none
  | _ => none
/-! ### a written negative number -/
theorem fe_neg {S : Type} {X : Cx} {ρ : Rs S} {W : WX} {i : Int} {j : Nat} {p pos : Pos} : ME X ρ W (.UnaryOp .USub (.Constant (.int i) j p) pos) (wF (fC (.int (-i)))) :=
  ⟨(pe_un un_neg pe_int).imp fun σ H Q ⟨H0, Hs, Γ, s, q, rx, G, L, h, k, x⟩ => ⟨i, rfl, k (.int (-i)) (.int (-i)) s Hs H (Rel.refl _ _) G (.int _) h⟩⟩
end Mb
namespace Mb
open PySem PySem.Spec PyProof.Rows L2
open PySem.W (dataLe alike alikeAll AllAlike Sortable EachIs dataKind SortsAt)
open Evl (Ex)
/-! ### sorted of data of any form that can be compared -/
section
variable {prog : Program} {w : World} {A : Around} {E : Value → Shared → Prop} {s : Shared} {β : Type} {R : Value → β → Prop} {enc : β → PyData} {bs : List β}
end
structure SortOk (K : PySem.W.Frag) (H : Hp) (bs : List (V × PyData)) : Prop where
  dp : ∀ b ∈ bs, Dp K H b.1 b.2
  al : AllAlike (bs.map fun b => b.2)
  so : Sortable (bs.map fun b => b.2)
  len : bs.length ≤ 1000000
  dep : ∀ b ∈ bs, b.2.depth ≤ 60
end Mb
namespace Mb
open PySem PySem.Spec PyProof.Rows L2
open Evl (Ex)
/-! ### a dict comprehension, whatever its keys are: how the new dict is told is one's own -/
structure Bk (X : Cx) where
  ob : Addr → HO
  put : Addr → V → V → Hp → (Hp → Prop) → Prop
  fresh : ∀ (H : Hp) (h : Heap), sysModules < h.objs.size → ObjOk X.prog X.w H (h.push { cls := .type "dict", data := .dict #[] }) h.objs.size (ob h.objs.size)
  st : ∀ (Y : Cx), Y.prog = X.prog → Y.w = X.w → Y.K = X.K → Y.A = X.A → ∀ {pins : List (Addr × Obj)} {σ : L2.St} {H : Hp} {s : Shared} {D : Addr} {y z : V} {u r : Value} {N : Hp → Prop} {E : Value → Shared → Prop},
    Inv Y pins σ H s → put D y z H N → RelV y u → RelV z r → wpAny (model Y.prog Y.w) Y.A (dictSet D u r) (fun _ s' => ∃ H', Inv Y pins σ H' s' ∧ N H') E s
section
variable {X : Cx}
end
end Mb
namespace Mb
open PySem PySem.Spec PyProof.Rows L2
open Evl (Ex)
/-! ### comprehensions of two clauses -/
section
variable {kx vx t0 u0 t1 u1 : Expr} {f0 f1 : List Expr} {sc : Scope} {pos : Pos} {it acc : Value} {ce : Env} {prog : Program} {w : World} {A : Around} {R : Result → Shared → Prop} {s : Shared} {D : Addr}
abbrev noted (prog : Program) (w : World) (A : Around) (ce : Env) (R : Result → Shared → Prop) : Value → Shared → Prop := notedBy (model prog w) A ce fun e s' => R (.error e) s'
end
section
variable {X : Cx}
end
end Mb
namespace Mb
open PySem PySem.Spec PyProof.Rows L2
open Evl (Ex)
section
variable {S : Type} {X : Cx} {ρ : Rs S} {W : WX} {K : PySem.W.Frag} {Ac : Type}
/-! ### but for one address -/
structure RelZ (ρ : Rs S) (Z : Addr) (Hs H Hs' H' : Hp) : Prop where
  s : Ex Hs Hs'
  h : ∀ b o, ¬ ρ.own b → b ≠ Z → H b = some o → H' b = some o
  n : ∀ b o, b ≠ Z → H b = some o → Hs b = none → Hs' b = none
theorem Rel.z {Z : Addr} {Hs H Hs' H' : Hp} (R : Rel ρ Hs H Hs' H') : RelZ ρ Z Hs H Hs' H' := ⟨R.s, fun b o n _ q => R.h b o n q, fun b o _ q n => R.n b o q n⟩
theorem RelZ.trans {Z : Addr} {Hs H Hs' H' Hs2 H2 : Hp} (R : RelZ ρ Z Hs H Hs' H') (R2 : RelZ ρ Z Hs' H' Hs2 H2) (hk : ∀ b o, b ≠ Z → H b = some o → ∃ o', H' b = some o') : RelZ ρ Z Hs H Hs2 H2 :=
  ⟨R.s.trans R2.s, fun b o n z q => R2.h b o n z (R.h b o n z q), fun b o z q n => let ⟨o', q'⟩ := hk b o z q; R2.n b o' z q' (R.n b o z q n)⟩
/-! ### the word of a comprehension of two clauses -/
abbrev AtK := Hp → Hp → Addr → Prop
/-- how the new object is told -/
structure AcOk (ρ : Rs S) (At : Ac → AtK) : Prop where
  st : ∀ Hs H Hs2 H2 Z acc, Rel ρ Hs H Hs2 H2 → ¬ ρ.own Z → Hs Z = none → At acc Hs H Z → At acc Hs2 H2 Z ∧ Hs2 Z = none
/-! ### lists and dicts -/
/-! ### as functions -/
section
variable (g g1 : FG) (t t1 : F S Bool) (fi1 : F S (List D)) (vs1 : List Nat) (fel : Ctx → Ac → M S Ac)
end
/-! ### the rules -/
structure Blk2 (X : Cx) (ρ : Rs S) (scope : Scope) (tg : Expr) (g : WG) (js : List Nat) (ifs : List Expr) (wt : WT S) (tg1 iter1 : Expr) (wi1 : WO S) (g1 : WG) (js1 : List Nat) (ifs1 : List Expr) (wt1 : WT S) : Prop where
  hg : ∀ (s : Shared) (H : Hp) (C : Addr) (cl : List (Str × Addr)) (fp : List Addr), MG (X.blk s H scope (compEnvC scope cl C X.env) fp) ρ tg g js
  ht : ∀ (s : Shared) (H : Hp) (C : Addr) (cl : List (Str × Addr)) (fp : List Addr), MTs (X.blk s H scope (compEnvC scope cl C X.env) fp) ρ WF ifs wt
  hi : ∀ (s : Shared) (H : Hp) (C : Addr) (cl : List (Str × Addr)) (fp : List Addr), MI (X.blk s H scope (compEnvC scope cl C X.env) fp) ρ WF tg1 iter1 wi1
  hg1 : ∀ (s : Shared) (H : Hp) (C : Addr) (cl : List (Str × Addr)) (fp : List Addr), MG (X.blk s H scope (compEnvC scope cl C X.env) fp) ρ tg1 g1 js1
  ht1 : ∀ (s : Shared) (H : Hp) (C : Addr) (cl : List (Str × Addr)) (fp : List Addr), MTs (X.blk s H scope (compEnvC scope cl C X.env) fp) ρ WF ifs1 wt1
end
end Mb
namespace Mb
open PySem PySem.Spec PyProof.Rows L2
open Evl (Ex)
/-! ### xs[n] = e, xs of one's own, n a whole number written out -/
section
variable {S : Type} {X : Cx} {ρ : Rs S} {W : WX} {K : PySem.W.Frag} {e : Expr} {wa : WE S} {fa : F S D}
end
end Mb
namespace PySem
open Sem (wp)
theorem mb_enum_newT (l : Addr) (zs : Array Value) :
    Meets (Builtin.«enumerate.__new__» ⟨[.type "enumerate", .ref l], []⟩) (fun _ R s => s.heap.IsTuple l zs ∧
      R (.ok (.ret (.ref (s.heap.push { cls := .type "tuple_iterator", data := .fields #[.ref l, .int 0 0] }).objs.size)))
        { s with heap := (s.heap.push { cls := .type "tuple_iterator", data := .fields #[.ref l, .int 0 0] }).push { cls := .type "enumerate", data := .fields #[.none, .bool false, .ref s.heap.objs.size, rawInt 0, .none, .none] } }) :=
  .of_wp fun prog w A R s h => by
    obtain ⟨hp, g, d, tk, os⟩ := s; obtain ⟨hT, h⟩ := h
    have hsub := sub_enumerate
    have q1 : ∀ {A' : Around} {E : Value → Shared → Prop} {Q : Value → Shared → Prop}, Q (.ref hp.objs.size) ⟨hp.push { cls := .type "tuple_iterator", data := .fields #[.ref l, .int 0 0] }, g, d, tk, os⟩ → wpAny (model prog w) A' (pyIter (.ref l)) Q E ⟨hp, g, d, tk, os⟩ := fun q => wpAny_pyIter_tuple hT q
    wp_walk using q1
    refine wpAny_stack_any fun st => wpAny_pure ?_
    split
    · rename_i c _ _ _ _ _
      cases (c == Value.type "enumerate")
      · wp_walk using q1; exact ⟨_, rfl, h⟩
      · wp_walk using q1; exact ⟨_, rfl, h⟩
    · wp_walk using q1; exact ⟨_, rfl, h⟩
section
variable {prog : Program} {w : World} {A : Around} {E : Value → Shared → Prop} {s : Shared}
theorem mb_enum_tup {l : Addr} {zs : Array Value} {Q : Value → Shared → Prop} (hT : s.heap.IsTuple l zs)
    (h : ∀ h', IsEnum h' (s.heap.objs.size + 1) s.heap.objs.size 0 .none → h'.IsTupleIter s.heap.objs.size l 0 → h'.objs.size = s.heap.objs.size + 2 → (∀ b o, s.heap.get? b = some o → h'.get? b = some o) → Q (.ref (s.heap.objs.size + 1)) { s with heap := h' }) :
    wpAny (model prog w) A (call (.type "enumerate") [.ref l]) Q E s := by
  refine callType_new F.called_enumerate (by decide) (F.typeCall_enumerate_1 _) (F.newCall_enumerate_1 _) (fun obj => F.args_object_init_2 obj _) F.entry_enumerate_new (mb_enum_newT l zs) ⟨hT, ?_⟩
  have hz : (s.heap.push { cls := .type "tuple_iterator", data := .fields #[.ref l, .int 0 0] }).objs.size = s.heap.objs.size + 1 := Heap.size_push ..
  show _ ∧ _
  rw [hz]
  have he : IsEnum ((s.heap.push { cls := .type "tuple_iterator", data := .fields #[.ref l, .int 0 0] }).push { cls := .type "enumerate", data := .fields #[.none, .bool false, .ref s.heap.objs.size, rawInt 0, .none, .none] }) (s.heap.objs.size + 1) s.heap.objs.size 0 .none := by
    have := Heap.get?_push_size (s.heap.push { cls := .type "tuple_iterator", data := .fields #[.ref l, .int 0 0] }) (o := { cls := .type "enumerate", data := .fields #[.none, .bool false, .ref s.heap.objs.size, rawInt 0, .none, .none] }) rfl
    rw [hz] at this; exact this
  exact ⟨⟨_, he, rfl⟩, h _ he ⟨_, Heap.get?_push_of_some _ (Heap.get?_push_size _ rfl), rfl, rfl⟩ (by rw [Heap.size_push, hz]) fun b o x => Heap.get?_push_of_some _ (Heap.get?_push_of_some _ x)⟩
end
end PySem
namespace Mb
open PySem PySem.Spec PyProof.Rows L2
open Evl (Ex)
/-- the tuple at a, each item in a new pair -/
def IteT (K : PySem.W.Frag) (a : Addr) : It :=
  ⟨fun i H => ∃ (xs : List V) (x : V), SqT K H a xs ∧ xs[i]? = some x, fun i H v H' => ∃ T x, v = .ref T ∧ H T = none ∧ H' = upd H T (.tup [.int (i : Nat), x]) ∧ ∀ xs, SqT K H a xs → xs[i]? = some x, fun i H => ∃ xs : List V, SqT K H a xs ∧ xs.length ≤ i⟩
theorem turn_enumT {P : Program} {w : World} {K : PySem.W.Frag} {elts : List Expr} {kk : Nat} {tpos : Pos} (a e it : Addr) :
    Turn P w K (.Tuple elts kk tpos) (IteT K a) [e, it] e (fun i h => (∃ old, IsEnum h e it ((i : Nat) : Int) old) ∧ h.IsTupleIter it a i ∧ e ≠ it ∧ a ≠ it ∧ e ≠ a) where
  mem := by simp
  obj := fun i h st b hb => by
    obtain ⟨⟨old, he⟩, ⟨o, ho, hc, hd⟩, _⟩ := st
    rcases (show b = e ∨ b = it by simpa using hb) with rfl | rfl
    · exact ⟨_, he, fun v q => nomatch q⟩
    · exact ⟨o, ho, fun v q => by rw [hd] at q; cases q⟩
  keep := fun i h h' st k => let ⟨⟨old, he⟩, hi, hne⟩ := st; ⟨⟨old, k e (by simp) _ he⟩, hi.at fun o q => k it (by simp) o q, hne⟩
  item := by
    intro X hP hw hK hc i pins s σ H E I hf st hg
    subst hP hw hK
    obtain ⟨⟨old, he⟩, hit, hne, hna, hea⟩ := st
    obtain ⟨xs, x, hq, hx⟩ := hg
    obtain ⟨its, rv, p, hz⟩ := I.tuple hq
    obtain ⟨u, hu, ru⟩ := rv.get hx
    have hel : e < s.heap.objs.size := Heap.lt_size he
    have hil : it < s.heap.objs.size := by obtain ⟨_, q, _⟩ := hit; exact Heap.lt_size q
    have hT0 : s.heap.IsTuple a its.toArray := p
    have DD := Draws.tuple (prog := X.prog) (w := X.w) (A := X.A.in1) (show X.A.in1.handled = none from I.ok.hd hc) it a hna its.toArray
    refine wpAny_pyNext_enum_itemD DD he ⟨hit, hT0⟩ (by have := (List.getElem?_eq_some_iff.mp hu).1; simpa using this) hne (by simp [hne, hea]) fun x1 h' tk hP ho hs' hT hsz hk => ?_
    have e1 : x1 = u := by
      rw [show its.toArray[i]? = some u by simpa using hu] at hP
      exact (Option.some.inj hP).symm
    subst e1
    refine ⟨_, rfl, wpAny_letOwnedTupleGo_enum (s := { s with heap := h', toks := tk + 1 }) ho fun h2 he' sb => ?_⟩
    have hT2 : h2.get? s.heap.objs.size = some { cls := .type "tuple", data := .seq #[.int i tk, x1] } := (sb.2 _ (Nat.ne_of_gt hel)).trans hT
    have new : ObjOk X.prog X.w (upd H s.heap.objs.size (.tup [.int (i : Nat), x])) h2 s.heap.objs.size (.tup [.int (i : Nat), x]) := ⟨by show 2 ≤ sizeLine; decide, [.int i tk, x1], .cons ⟨_, rfl⟩ (.cons ru .nil), ⟨_, hT2, rfl, _, rfl⟩⟩
    have I1 : Inv X pins σ (upd H s.heap.objs.size (.tup [.int (i : Nat), x])) { s with heap := h2, toks := tk + 1 } :=
      I.turnedNew (ch := [e, it]) (fun b ob hb q => (sb.2 b (fun z => hb (by simp [z]))).trans (hk b ob (fun z => hb (by simp [z])) (fun z => hb (by simp [z])) q)) hf (Nat.le_refl _) new
    refine ⟨.ref s.heap.objs.size, _, I1, rfl, ⟨_, x, rfl, I.hok.fresh (Nat.le_refl _), rfl, fun ys hy => by rw [I.tuple_inj hy hq]; exact hx⟩, ⟨⟨x1, ?_⟩, hs'.1.at fun o q => (sb.2 it (Ne.symm hne)).trans q, hne, hna, hea⟩, fun b hb => ?_⟩
    · rw [show ((i + 1 : Nat) : Int) = (i : Int) + 1 by omega]
      exact he'
    · have hb' : b < s.heap.objs.size := by
        rcases (show b = e ∨ b = it by simpa using hb) with rfl | rfl
        · exact hel
        · exact hil
      rw [upd_ne (Nat.ne_of_lt hb')]
      exact (hf b hb).1
  done := by
    intro X hP hw hK hc i pins s σ H E I hf st hg
    subst hP hw hK
    obtain ⟨⟨old, he⟩, hit, hne, hna, hea⟩ := st
    obtain ⟨xs, hq, hx⟩ := hg
    obtain ⟨its, rv, p, hz⟩ := I.tuple hq
    have hT0 : s.heap.IsTuple a its.toArray := p
    obtain ⟨f0, f1, f2, f3, f4, f5⟩ := hf it (by simp)
    have hl := rv.length
    have hT : s.TypeIs (.ref e) "enumerate" := ⟨_, he, rfl⟩
    unfold pyNext
    refine wpAny_bind (wpAny_attempt (wpAny_callSpecial?_slot (name := Str.ofString "__next__") hT F.slot_enumerate_next
      (wpAny_call_entry F.slot_enumerate_next hT F.entry_enumerate_next ?_ (F.args_enumerate_next_1 _))))
    show wpAny _ _ (field (.ref e) 2 >>= _) _ _ _
    refine wpAny_bind (wpAny_field he rfl (x := .ref it) rfl ?_)
    refine wpAny_bind (wpAny_nextOf_tuple_end (I.ok.hd hc) hit hT0 (by simp; omega) fun h' x he' hx' => ?_)
    obtain ⟨o, ho, hc'⟩ := hx'
    refine wpAny_bind (wpAny_isInstance (T := "StopIteration") (b := true) ⟨o, ho, hc'⟩ isSubtype_stop ?_)
    exact wpAny_pure ⟨rfl, I.turned (t' := s.toks) (fun b o hb e => he' b o hb e) f0 f1 f3 f4 f5⟩
  self := fun A i s Q E st h => let ⟨⟨_, he⟩, _⟩ := st; wpAny_pyIter_enum he h
def iEnumA (K : PySem.W.Frag) (ta : TA) : TI := fun σ H R => ta σ H fun vs H1 => ∃ a xs, vs = [.ref a] ∧ ((SqL K H1 a xs ∧ R (Ite K a) H1) ∨ (SqT K H1 a xs ∧ R (IteT K a) H1))
theorem pi_enumA {X : Cx} {e : Expr} {ta : TA} {p pos tpos : Pos} {elts : List Expr} {kk : Nat} (hg : Gl X "enumerate") (hm : X.mg "enumerate" = none) (ha : PA X [e] ta) (hs : starEach [e] X.env = [(false, eval e X.env)] := by rfl) :
    PI X (.Tuple elts kk tpos) (.Call (.Name "enumerate" p) [e] [] pos) (iEnumA X.K ta) := by
  refine ⟨fun pins s σ H R I h => ?_⟩
  refine Call_ (ld_blt I hg hm boot_enumerate (PyProof.Rows.callWith_type1 (thn (ha.run pos pins s σ H _ I h) fun us s1 ⟨vs, H1, I1, r1, q1⟩ => ?_) hs rfl))
  obtain ⟨a, xs, ex, hq⟩ := q1
  subst ex
  cases r1 with
  | cons r rr =>
    cases rr
    cases r
    have fp : ∀ b ∈ [s1.heap.objs.size + 1, s1.heap.objs.size], s1.heap.objs.size ≤ b := fun b hb => by
      rcases (show b = s1.heap.objs.size + 1 ∨ b = s1.heap.objs.size by simpa using hb) with rfl | rfl
      · exact Nat.le_add_right _ _
      · exact Nat.le_refl _
    rcases hq with ⟨hq, q⟩ | ⟨hq, q⟩
    · obtain ⟨its, rv, p', hz⟩ := I1.list hq
      refine call_enumerate_list p'.isList fun h' he hit hsz hk => wpAny_pyIter_enum he ?_
      have I2 : Inv X pins σ H1 { s1 with heap := h' } := I1.kept (t' := s1.toks) hk
      exact ⟨s1.heap.objs.size + 1, [s1.heap.objs.size + 1, s1.heap.objs.size], _, _, H1, rfl, I2, turn_enum a (s1.heap.objs.size + 1) s1.heap.objs.size, ⟨⟨.none, he⟩, hit, Nat.succ_ne_self _⟩, fun b hb => I1.fpOk (fp b hb) (I1.hok.fresh (fp b hb)), q⟩
    · obtain ⟨its, rv, p', hz⟩ := I1.tuple hq
      have hT0 : s1.heap.IsTuple a its.toArray := p'
      have hal : a < s1.heap.objs.size := by obtain ⟨_, q, _⟩ := hT0; exact Heap.lt_size q
      refine mb_enum_tup hT0 fun h' he hit hsz hk => wpAny_pyIter_enum he ?_
      have I2 : Inv X pins σ H1 { s1 with heap := h' } := I1.kept (t' := s1.toks) hk
      exact ⟨s1.heap.objs.size + 1, [s1.heap.objs.size + 1, s1.heap.objs.size], _, _, H1, rfl, I2, turn_enumT a (s1.heap.objs.size + 1) s1.heap.objs.size, ⟨⟨.none, he⟩, hit, Nat.succ_ne_self _, Nat.ne_of_lt hal, fun z => by rw [← z] at hal; exact absurd (Nat.lt_trans (Nat.lt_succ_self _) hal) (Nat.lt_irrefl _)⟩, fun b hb => I1.fpOk (fp b hb) (I1.hok.fresh (fp b hb)), q⟩
section
variable {S : Type} {X : Cx} {ρ : Rs S} {W : WX} {e : Expr} {pos p tpos : Pos} {K : PySem.W.Frag} {fa : F S D} {elts : List Expr} {kk : Nat}
theorem enD_len : ∀ (l : List D) (n : Nat), (enD n l).length = l.length
  | [], _ => rfl
  | _ :: l, n => congrArg (· + 1) (enD_len l (n + 1))
theorem enD_at : ∀ {l : List D} {n i : Nat} {d : D}, l[i]? = some d → (enD n l)[i]? = some (.tup [.int ((n + i : Nat) : Int), d])
  | d0 :: l, n, 0, d, h => by
    cases h
    rfl
  | d0 :: l, n, i + 1, d, h => by
    have := enD_at (l := l) (n := n + 1) (i := i) (d := d) h
    show (enD (n + 1) l)[i]? = _
    rw [this, show n + 1 + i = n + (i + 1) by omega]
  | [], _, _, _, h => by simp at h
theorem is_pair {Hs : Hp} {T : Addr} {x : V} {d : D} {i : Nat} (h : Hs T = none) (iv : Is K Hs x d) : Is K (upd Hs T (.tup [.int (i : Nat), x])) (.ref T) (.tup [.int (i : Int), d]) := by
  have e1 : Ex Hs (upd Hs T (.tup [.int (i : Nat), x])) := fun b o q => by
    rw [upd_ne (ne_of_none q h)]
    exact q
  exact .tup (Or.inl (Or.inl upd_same)) (.cons (.int _) (.cons (iv.mono e1) .nil))
theorem yl_enum {H1 : Hp} {a : Addr} {vs : List V} {ds : List D} (h : H1 a = some (.lst vs)) (hv : IsAll K H1 vs ds) : Yl K ρ (Ite K a) H1 (enD 0 ds) := by
  intro i Hs H e1 e2
  rw [enD_len]
  have hs : SqL K H a vs := Or.inl (Or.inl (e2 _ _ (e1 _ _ h)))
  refine ⟨fun hi => ?_, fun hi => ⟨vs, hs, by rw [hv.length]; exact Nat.le_of_eq hi.symm⟩⟩
  obtain ⟨v, q, iv⟩ := hv.at (List.getElem?_eq_getElem hi)
  refine ⟨⟨vs, v, hs, q⟩, fun x H' y => ?_⟩
  obtain ⟨T, x1, rfl, hT, rfl, y⟩ := y
  have q2 := y vs hs
  rw [q] at q2
  cases q2
  refine ⟨_, enD_at (List.getElem?_eq_getElem hi), Or.inr ⟨T, _, hT, rfl, ?_⟩⟩
  have hn : Hs T = none := by
    cases z : Hs T with
    | none => rfl
    | some o => rw [e2 _ _ z] at hT; cases hT
  rw [Nat.zero_add]
  exact is_pair hn (iv.mono e1)
theorem yl_enumT {H1 : Hp} {a : Addr} {vs : List V} {ds : List D} (h : SqT K H1 a vs) (hv : IsAll K H1 vs ds) : Yl K ρ (IteT K a) H1 (enD 0 ds) := by
  intro i Hs H e1 e2
  rw [enD_len]
  have hs : SqT K H a vs := ex_sqT e2 (ex_sqT e1 h)
  refine ⟨fun hi => ?_, fun hi => ⟨vs, hs, by rw [hv.length]; exact Nat.le_of_eq hi.symm⟩⟩
  obtain ⟨v, q, iv⟩ := hv.at (List.getElem?_eq_getElem hi)
  refine ⟨⟨vs, v, hs, q⟩, fun x H' y => ?_⟩
  obtain ⟨T, x1, rfl, hT, rfl, y⟩ := y
  have q2 := y vs hs
  rw [q] at q2
  cases q2
  refine ⟨_, enD_at (List.getElem?_eq_getElem hi), Or.inr ⟨T, _, hT, rfl, ?_⟩⟩
  have hn : Hs T = none := by
    cases z : Hs T with
    | none => rfl
    | some o => rw [e2 _ _ z] at hT; cases hT
  rw [Nat.zero_add]
  exact is_pair hn (iv.mono e1)
def enI : D → Option (List D)
  | .lst l => if l.length ≤ 1000000 then some (enD 0 l) else none
  | .tup l => if l.length ≤ 1000000 then some (enD 0 l) else none
  | _ => none
/-- enumerate(e), a list or a tuple -/
@[simp] def fEnum (fa : F S D) : F S (List D) := fun Γ => bnd (fa Γ) fun d => opt (enI d)
theorem fi_enum (hm : X.mg "enumerate" = none) (ha : ME X ρ W e (wF fa)) (hg : Gl X "enumerate" := by rfl) (hs : starEach [e] X.env = [(false, eval e X.env)] := by rfl) : MI X ρ W (.Tuple elts kk tpos) (.Call (.Name "enumerate" p) [e] [] pos) (wF (fEnum fa)) := by
  refine ⟨⟨fun pins st σ H R I q => (pi_enumA hg hm (pa_cons ha.pe pa_nil hs) hs).run pins st σ H R I ?_⟩⟩
  obtain ⟨H0, Hs, Γ, s, q, r, G, L, h, k, x⟩ := q
  simp only [wF, fEnum, post_bnd] at h
  refine ⟨H0, Hs, Γ, s, _, r, G, L, h, fun v d s1 Hs1 H1 R1 G1 I1 h1 => ?_, x⟩
  obtain ⟨l, hl, h1⟩ := post_opt h1
  unfold enI at hl
  split at hl
  · split at hl
    · rename_i hz
      cases hl
      cases I1 with
      | lst hq hv => exact ⟨_, _, rfl, Or.inl ⟨Or.inl (Or.inl (G1.ex _ _ hq)), k _ _ s1 Hs1 H1 R1 G1 (yl_enum hq hv) (by rw [enD_len]; exact size_le hz) h1⟩⟩
    · cases hl
  · split at hl
    · rename_i hz
      cases hl
      cases I1 with
      | tup hq hv => exact ⟨_, _, rfl, Or.inr ⟨ex_sqT G1.ex hq, k _ _ s1 Hs1 H1 R1 G1 (yl_enumT hq hv) (by rw [enD_len]; exact size_le hz) h1⟩⟩
    · cases hl
  · cases hl
end
end Mb
namespace Mb
open PySem PySem.Spec PyProof.Rows L2
open Evl (Ex)
/-! ### zip(a, b), of lists -/
section
variable {S : Type} {X : Cx} {ρ : Rs S} {W : WX} {e e2 : Expr} {pos p tpos : Pos} {K : PySem.W.Frag} {fa fb : F S D} {elts : List Expr} {kk : Nat}
def zpD : List D → List D → List D
  | x :: l, y :: m => .tup [x, y] :: zpD l m
  | _, _ => []
def zpI : D → D → Option (List D)
  | .lst l, .lst m => if l.length ≤ 1000000 then some (zpD l m) else none
  | _, _ => none
@[simp] theorem zpI_lst {l m : List D} : zpI (.lst l) (.lst m) = if l.length ≤ 1000000 then some (zpD l m) else none := rfl
def fZip (fl : F S (List D)) : F S (List D) := fun Γ => bnd (fl Γ) fun l => match l with
  | [d, e] => opt (zpI d e)
  | _ => mno
@[simp] theorem fZip_app {fl : F S (List D)} {Γ : Ctx} : fZip fl Γ = bnd (fl Γ) fun l => match l with
  | [d, e] => opt (zpI d e)
  | _ => mno := rfl
end
end Mb
namespace Mb
open PySem PySem.Spec PyProof.Rows L2
/-! ### is, is not of truth values -/
section
variable {K : PySem.W.Frag}
def pIsB (neg : Bool) (d e : D) : Option D := match d, e with
  | .bl a, .bl b => some (.bl (neg.xor (decide (a = b))))
  | _, _ => none
@[simp] theorem pIsB_bl {neg a b : Bool} : pIsB neg (.bl a) (.bl b) = some (.bl (neg.xor (decide (a = b)))) := rfl
end
end Mb
namespace Mb
open PySem PySem.Spec PyProof.Rows L2
open Evl (Ex)
/-! ### o.m(k = v, ..), m a method that may raise; its errors are not looked for -/
section
variable {S : Type} {X : Cx} {ρ : Rs S} {W : WX} {a o e : Expr} {pos p ap apos : Pos} {k : Nat} {f C : Addr} {fd : FuncData} {ps ks : List Str} {sp : Sp} {kws : List Keyword} {g : List Value → List Value → List Value} {gV : List V → List V → List V} {fa : F S D}
structure CalMKX (P : Program) (wd : World) (K : PySem.W.Frag) (mg : Str → Option Value) (base : Heap) (C : Addr) (m : Str) (ps ks : List Str) (ix : List Nat) (k : Nat) (sp : Sp) : Prop where
  it : ∃ f fd, FnOk P wd K mg base (L2.CX P wd) k f fd ps sp ∧ Meth K C m f ∧ KBinds K fd ps ks (gK 1 ix) (gK 1 ix)
  cl : Cls K C
end
end Mb
namespace Mb
open PySem PySem.Spec PyProof.Rows L2
open Evl (Ex)
/-! ### min and max of two texts -/
section
variable {prog : Program} {w : World} {A : Around} {E : Value → Shared → Prop} {s : Shared}
end
section
variable {X : Cx} {K : PySem.W.Frag}
def pMxS (f : Str → Str → Str) : List D → Option D
  | [.str x, .str y] => some (.str (f x y))
  | _ => none
@[simp] theorem pMxS_eq {f : Str → Str → Str} {x y : Str} : pMxS f [.str x, .str y] = some (.str (f x y)) := rfl
end
/-! ### x in y, y an instance with its own __contains__ -/
section
variable {X : Cx} {n : Nat} {C f : Addr} {fd : FuncData} {ps : List Str} {sp : Sp}
end
section
variable {S : Type} {X : Cx} {ρ : Rs S} {W : WX} {e a b : Expr} {pos p p2 : Pos} {fa fb : F S D} {C : Addr} {ps : List Str} {k : Nat} {mm : List D → M Unit Res}
def fInO (C : Addr) (neg : Bool) (m : List D → M S Res) (fa fb : F S D) : F S D := fun Γ => bnd (fa Γ) fun d => bnd (fb Γ) fun e => if isC C e = true then bnd (nox (m [e, d])) fun y => (match y with
  | .dat (.bl b) => ret (.bl (b != neg))
  | _ => mno) else mno
@[simp] theorem fInO_app {neg : Bool} {m : List D → M S Res} {Γ : Ctx} : fInO C neg m fa fb Γ = bnd (fa Γ) fun d => bnd (fb Γ) fun e => if isC C e = true then bnd (nox (m [e, d])) fun y => (match y with
  | .dat (.bl b) => ret (.bl (b != neg))
  | _ => mno) else mno := rfl
end
/-! ### isinstance of a caught error, a tuple of classes -/
section
variable {S : Type} {X : Cx} {ρ : Rs S} {W : WX} {K : PySem.W.Frag} {a : Expr} {fa : F S D} {x y : Str} {p p1 p2 p3 pos : Pos} {C1 C2 : Addr} {j : Nat}
end
/-! ### t[::-1], t a tuple -/
end Mb
namespace Mb
open PySem PySem.Spec PyProof.Rows L2
open Evl (Ex)
section
variable {S : Type} {X : Cx} {ρ : Rs S} {W : WX} {K : PySem.W.Frag} {e a : Expr} {es : List Expr} {kws : List Keyword} {pos p p1 p2 p3 : Pos} {f : F S (List D)} {fa : F S D} {C : Addr} {x : Str} {ps ks : List Str} {ix : List Nat} {k n j : Nat} {R : List D → D → Prop} {RX : List D → Exn → Prop}
/-! ### C(k = v, ..), all parameters given -/
/-! ### t[::-1] -/
def fRevT (fa : F S D) : F S D := fun Γ => bnd (fa Γ) fun d => match d with
  | .tup l => ret (.tup l.reverse)
  | _ => mno
@[simp] theorem fRevT_app {Γ : Ctx} : fRevT fa Γ = bnd (fa Γ) fun d => match d with
  | .tup l => ret (.tup l.reverse)
  | _ => mno := rfl
end
end Mb
namespace Mb
open PySem PySem.Spec PyProof.Rows L2
open Evl (Ex)
/-! ### a text is no dict; ({}, 'a') is in no tuple of tuples of texts -/
section
variable {A : Around} {s : Shared}
end

section
variable {X : Cx} {pins : List (Addr × Obj)} {σ : L2.St} {H : Hp} {s : Shared}
end
end Mb
namespace Mb
open PySem PySem.Spec PyProof.Rows L2
/-! ### super().__init__(..) of an error's class -/
section
variable {X : Cx} {pins : List (Addr × Obj)} {σ : L2.St} {H : Hp} {s : Shared} {f cda cc D a C : Addr} {fst : Str}
/-- what the text says of a method that names super() -/
structure SupT (K : PySem.W.Frag) (P : Program) (mg : Str → Option Value) (f cda cc D : Addr) (fst : Str) : Prop where
  fn : ∃ oc od fd osl ar, K.lookup f = some ⟨oc, od, .func fd, osl⟩ ∧ (fd.params.posonlyargs ++ fd.params.args).head? = some ar ∧ ar.arg = fst
  code : ∃ oc od vs osl file tf, K.lookup cda = some ⟨oc, od, .fields vs, osl⟩ ∧ vs[2]? = some (.str file tf) ∧ ((P.main.file : Str) == file) = true
  cell : ∃ oc od osl, K.lookup cc = some ⟨oc, od, .cell (some (.ref D)), osl⟩
  dcl : ∃ cd, PySem.W.clsIn K D = some cd
  ms : mg "super" = none
  top : (P.main.scope.names.lookup ("super" : Str)).isSome = false
  op : PySem.W.nsIn K cStatics "thirdparty.any" = some none
structure SupE (env : Env) (f cda cc : Addr) (fst : Str) : Prop where
  fn : env.func = some f
  code : env.code = .ref cda
  cell : env.cells.lookup ("__class__" : Str) = some cc
  sup : env.kindOf "super" = some .globalImplicit
  cls : env.kindOf "__class__" = some .free
  fst : env.kindOf fst = some .local
theorem super_at {body : List Stmt} {p0 p1 : Pos} {m : Str} {whole : Sem Value} {Q : Value → Shared → Prop} {E : Value → Shared → Prop} {i : Nat} {ox : Obj} (T : SupT X.K X.prog X.mg f cda cc D fst) (N : SupE X.env f cda cc fst) (I : Inv X pins σ H s) (hi : X.N[i]? = some fst) (hσ : σ[i]? = some (some (.ref a)))
    (ha : s.heap.get? a = some ox) (hac : ox.cls = .ref C) (hnc : ∀ c, ox.data ≠ .cls c) (hsub : PySem.W.mroIn X.K C (.ref D) = some true) (hm : (m == ("__class__" : Str)) = false)
    (h : ∀ s', Inv X ((s.heap.objs.size, PySem.W.ks_superObj D a C) :: pins) σ H s' → Q (.ref s.heap.objs.size) s') :
    _root_.PySem.wpAt (model X.prog X.w) X.A (.func body X.env) (attributeBase (.Call (.Name "super" p0) [] [] p1) m X.env whole) Q E s := by
  obtain ⟨oc, od, fd, osl, ar, hf, hp, har⟩ := T.fn
  obtain ⟨oc2, od2, vs, osl2, file, tf, hcode, hvs, hfile⟩ := T.code
  obtain ⟨oc3, od3, osl3, hcell⟩ := T.cell
  obtain ⟨cd, hcd⟩ := T.dcl
  obtain ⟨mb, hb1, hb2⟩ := I.mod.blt
  have KX := I.kIn
  obtain ⟨oD, hD1, hD2⟩ : ∃ oD, s.heap.get? D = some oD ∧ oD.data = .cls cd := by
    unfold PySem.W.clsIn at hcd
    split at hcd
    · rename_i c d cd' sl ho
      cases hcd
      exact ⟨_, KX _ _ ho, rfl⟩
    · cases hcd
  obtain ⟨mL, hn, look⟩ := I.loc
  obtain ⟨u, ru, lk⟩ := look i fst (.ref a) hi hσ (.inl N.fst)
  obtain rfl : u = Value.ref a := ru
  have hself : mL fst = some (.ref a) := by
    rcases lk with ⟨_, q⟩ | ⟨q, _⟩
    · exact q
    · rcases q with q | q <;> (rw [N.fst] at q; cases q)
  subst har
  refine PySem.ks_wpAt_super_base (env := X.env) N.sup N.cls hm N.fn (KX _ _ hf) rfl hp N.code (KX _ _ hcode) rfl hvs hfile T.top ?_
  refine PySem.W.ks_loadName_global I.ok.kind N.sup (Calls.loadGlobal_builtin (by rw [I.ok.glob]; exact I.mod.glob.keeps I.bk) T.ms (by rw [I.ok.blt]; exact hb1.keeps I.bk) ((hb2 "super" (by decide)).trans (by first | boot_by_name | rfl | kernel_rfl)) ⟨rfl, ?_⟩)
  refine wpAny_loadName_free I.ok.kind N.cls N.cell ⟨_, KX _ _ hcell, rfl⟩ ?_
  refine wpAny_loadName_local I.ok.kind N.fst hn hself ?_
  obtain ⟨hh, g, d, t, os⟩ := s
  refine PySem.ks_wpAny_isType_cls hD1 hD2 ⟨rfl, ?_⟩
  exact PySem.ks_wpAny_call_super hD1 hD2 ha hac hnc (PySem.W.looks_mroIn KX hsub) fun h' e k =>
    h _ (ClX.pin_new I k (Nat.le_refl _) e fun v z => nomatch z)
/-- the wrapper of ValueError.__init__, called -/
theorem init_mw {u : Addr} {us : List Value} {Q : Value → Shared → Prop} {E : Value → Shared → Prop} {A : Around} (TO : OexC X.K C) (I : Inv X ((u, PySem.W.kxs_mw "ValueError.__init__" a) :: pins) σ H s) (ea : H a = some (exo a C none)) (hz : us.length ≤ sizeLine)
    (h : ∀ s', Inv X ((u, PySem.W.kxs_mw "ValueError.__init__" a) :: pins) σ H s' → Q .none s') : wpAny (model X.prog X.w) A (call (.ref u) us) Q E s := by
  obtain ⟨nm, q, Nc, bs, bm, sn, sub, ab, col, dd, k0, k1, k2, k3, k5, hC, hbm⟩ := TO.cls
  obtain ⟨t1, hx⟩ := exo_at I.hok ea
  have hu := ClX.pin_at I
  have hCh := I.kIn _ _ hC
  obtain ⟨hp, g, d, t, os⟩ := s
  have FB := PySem.F.excBase_ValueError
  refine wpAny_call (codeAny_of_tree ?_)
  show wpAny _ A.in1 (callAny (.ref u) ⟨us, []⟩) _ _ _
  unfold callAny
  refine wpAny_bind (wpAny_load hu ?_)
  simp only [PySem.W.kxs_mw]
  refine PySem.W.KFB.if_so (by decide) ?_
  refine wpAny_bind (PySem.W.check_bound_init FB.toExcCallFacts hCh hx rfl ?_)
  refine wpAny_bind (wpAny_pure (wpAny_pure ⟨plainId_quiet FB.init.plain _, codeAny_builtin FB.initEntry ?_⟩))
  rw [Around.under_plainId FB.init.plain _]
  wp_walk
  refine h _ ?_
  have hid : upd H a (exo a C none) = H := by
    funext b
    by_cases hb : b = a
    · subst hb
      rw [upd_same, ea]
    · rw [upd_ne hb]
  have at_a := Heap.get?_update_self (a := a) (Obj.mapFields fun x => x.setIfInBounds 0 (Value.ref hp.objs.size)) (Heap.get?_push_of_some { cls := Value.type "tuple", data := Data.seq us.toArray } hx) rfl
  have J := I.write (t' := t) (x := a) (e := a) (o := exo a C none) (h' := (hp.push { cls := Value.type "tuple", data := Data.seq us.toArray }).update a (Obj.mapFields fun x => x.setIfInBounds 0 (Value.ref hp.objs.size)))
    (by rw [ea]; exact True.intro) (.inl rfl) (fun b o hb ho => (Heap.get?_update_other _ _ (Ne.symm hb)).trans (Heap.get?_push_of_some _ ho)) ⟨_, at_a⟩ (exo_ok (t1 := hp.objs.size) at_a)
  rw [hid] at J
  exact J
theorem sup_stmt {body : List Stmt} {e : Expr} {es : List Expr} {ta : TA} {p0 p1 p2 p3 p4 : Pos} {i : Nat} {Q : Hp → Prop} (T : SupT X.K X.prog X.mg f cda cc D fst) (N : SupE X.env f cda cc fst) (TO : OexC X.K C) (hs : PySem.W.ks_superIn X.K C D "__init__" = some (some (.builtin "ValueError.__init__")))
    (hsub : PySem.W.mroIn X.K C (.ref D) = some true) (hB : PySem.W.subIn X.K (.ref C) (.type "ValueError") = some true) (I : Inv X pins σ H s) (hi : X.N[i]? = some fst) (hσ : σ[i]? = some (some (.ref a))) (ea : H a = some (exo a C none)) (ha : PA X (e :: es) ta)
    (h : ta σ H fun vs H1 => vs.length ≤ 1000 ∧ H1 a = some (exo a C none) ∧ Q H1)
    (he : starEach (e :: es) X.env = (false, eval e X.env) :: starEach es X.env := by rfl) (hpl : (backTo p3 (starEach es X.env)).any (·.1) = false := by rfl)
    (hint : interactive X.env = false := by rfl) (hsw : swapsWith (.Call (.Attribute (.Call (.Name "super" p0) [] [] p1) "__init__" p2) (e :: es) [] p3) none p4.line X.env = pure false := by rfl)
    {pl : Sem Bool} (hev : eval (.Call (.Attribute (.Call (.Name "super" p0) [] [] p1) "__init__" p2) (e :: es) [] p3) X.env = (do
      let ov ← attributeBase (.Call (.Name "super" p0) [] [] p1) "__init__" X.env (eval (.Call (.Name "super" p0) [] [] p1) X.env)
      standAt p2.atName
      let (f, first) ← holding [ov] (getMethod ov "__init__" pl)
      callWith p3 f first (backTo p3 (starEach (e :: es) X.env)) []) := by rfl) :
    _root_.PySem.wpAt (model X.prog X.w) X.A (.func body X.env) (exec (.Expr (.Call (.Attribute (.Call (.Name "super" p0) [] [] p1) "__init__" p2) (e :: es) [] p3) p4) X.env) (fun fl s' => fl = .next ∧ ∃ H', Inv X pins σ H' s' ∧ Q H') X.xe s := by
  obtain ⟨t1, hx⟩ := exo_at I.hok ea
  refine PySem.ks_wpAt_Expr_any ?_ hint hsw
  refine PySem.ks_wpAt_MethodCall (pl := pl) ?_ hev
  refine super_at T N I hi hσ hx rfl (fun c z => nomatch z) hsub rfl fun s1 I1 => ?_
  obtain ⟨t2, hx1⟩ := exo_at I1.hok ea
  have KX := I1.kIn
  cases hc : PySem.W.clsIn X.K C with
  | none =>
    unfold PySem.W.ks_superIn at hs
    rw [hc] at hs
    cases hs
  | some cd =>
    unfold PySem.W.ks_superIn at hs
    rw [hc] at hs
    have IA : PySem.W.InstAt s1.heap a { cls := .ref C, dict := none, data := .fields #[.ref t2, .none, .none, .none, .bool false, .none] } C none := ⟨hx1, rfl, rfl, trivial⟩
    have hso := ClX.pin_at I1
    obtain ⟨hh, g, d, t, os⟩ := s1
    refine PySem.W.kxs_getMethod PySem.W.kxs_ValueError hso (PySem.W.looks_opaque KX T.op) (l₀ := cd.mro) (fun A Q E s k q => wpAny_bind ((PySem.W.looks_clsIn KX hc) A _ E s k (wpAny_pure q))) rfl KX hs (IA.type.andThen (PySem.W.looks_subIn KX hB)) (PySem.W.ks_ne KX IA hc) (by decide) ?_
    have I2 : Inv X ((hh.objs.size, PySem.W.kxs_mw "ValueError.__init__" a) :: (s.heap.objs.size, PySem.W.ks_superObj D a C) :: pins) σ H ⟨hh.push (PySem.W.kxs_mw "ValueError.__init__" a), g, d, t + 1, os⟩ :=
      ClX.pin_new (t' := t + 1) I1 (fun b o z => Heap.get?_push_of_some _ z) (Nat.le_refl _) (Heap.get?_push_size hh rfl) fun v z => nomatch z
    show wpAny _ _ (callWith p3 (Value.ref hh.objs.size) [] (backTo p3 (starEach (e :: es) X.env)) []) _ _ _
    have run : wpAny (model X.prog X.w) X.A (spliced (backTo p3 (starEach (e :: es) X.env))) (fun vs s₁ => PySem.W.KxsAt "ValueError.__init__" hh.objs.size a s₁.heap ∧ wpAny (model X.prog X.w) X.A (call (.ref hh.objs.size) vs) (fun _ s' => Flow.next = .next ∧ ∃ H', Inv X pins σ H' s' ∧ Q H') X.xe s₁) X.xe ⟨hh.push (PySem.W.kxs_mw "ValueError.__init__" a), g, d, t + 1, os⟩ :=
      thn (ha.run p3 _ _ σ H _ I2 h) fun us s3 ⟨vs, H1, I3, r3, hl, ea1, q⟩ => ⟨ClX.pin_at I3, init_mw TO I3 ea1 (by rw [← r3.length, sizeLine_eq]; omega) fun s4 I4 => ⟨rfl, H1, ClX.unpin (ClX.unpin I4), q⟩⟩
    rw [he] at run ⊢
    exact PySem.W.kxs_callWith (i := "ValueError.__init__") (x := a) (by show (false || (backTo p3 (starEach es X.env)).any (·.1)) = false; rw [hpl]; rfl) (PySem.Calls.evalArgs_plain run)
end
end Mb
namespace Mb
open PySem PySem.Spec PyProof.Rows L2
/-! ### an error's __init__: super().__init__(text), then its one field -/
abbrev eEnv (qual : Str) (sc : Scope) (L f cda cc : Addr) : Env := PySem.W.ksEnv qual sc L f (.ref cda) cc
@[reducible] def cxE (P : Program) (w : World) (K : PySem.W.Frag) (mg : Str → Option Value) (base : Heap) (fld qual : Str) (sc : Scope) (f cda cc : Addr) (A : Around) (outer : List Env) (s : Shared) (H : Hp) : Cx where
  prog := P
  w := w
  K := K
  mg := mg
  base := base
  A := A.deeper (eEnv qual sc s.heap.objs.size f cda cc)
  N := ["self", fld]
  s_0 := s
  H_0 := H
  env := eEnv qual sc s.heap.objs.size f cda cc
  outer := outer
  stack := eEnv qual sc s.heap.objs.size f cda cc :: outer
  ex := []
  fn := fun _ => false
  calm := true
  pn := []
  xe := fun _ _ => False
/-- the scope of such a method -/
structure EScope (fld : Str) (sc : Scope) : Prop where
  kind : sc.kind = .function
  co : sc.isCoroutine = false
  gen : sc.isGenerator = false
  ne : fld ≠ "self"
  s0 : sc.names.lookup ("self" : Str) = some .local
  s1 : sc.names.lookup fld = some .local
  s2 : sc.names.lookup ("super" : Str) = some .globalImplicit
  s3 : sc.names.lookup ("__class__" : Str) = some .free
  nc : ∀ x ∈ sc.names, x.2 ≠ .cell
  fr : ∀ x, sc.names.lookup x = some .free → x = ("__class__" : Str)
theorem one_cell {x : Str} {cc : Addr} {c : Addr} (h : ([(("__class__" : Str), cc)] : List (Str × Addr)).lookup x = some c) : x = "__class__" ∧ c = cc := by
  rw [List.lookup_cons] at h
  split at h
  · rename_i e
    exact ⟨by simpa using e, (Option.some.inj h).symm⟩
  · cases h
theorem inv_startE {P : Program} {w : World} {K : PySem.W.Frag} {mg : Str → Option Value} {base : Heap} {fld qual : Str} {sc : Scope} {f cda cc D : Addr} {A : Around} {outer : List Env} {s : Shared} {H : Hp} {u0 u1 : Value} {v0 v1 : V} {h1 : Heap} {t1 : Nat}
    (S : EScope fld sc) (hd : A.handled = none) (e0 : Env0 P w K mg base A outer s H) (hcc : ∃ oc od osl, K.lookup cc = some ⟨oc, od, .cell (some (.ref D)), osl⟩) (r0 : RelV v0 u0) (r1 : RelV v1 u1)
    (hn : h1.Ns s.heap.objs.size (fun y => ([(("self" : Str), u0), (fld, u1)] : List (Str × Value)).reverse.lookup y)) (hk : ∀ b o, s.heap.get? b = some o → h1.get? b = some o) :
    Inv (cxE P w K mg base fld qual sc f cda cc A outer s H) [] [some v0, some v1] H { s with heap := h1, toks := t1 } := by
  have noA : ∀ b : Addr, b ∉ (cxE P w K mg base fld qual sc f cda cc A outer s H).ex := fun b z => absurd (show b ∈ ([] : List Addr) from z) (by simp)
  obtain ⟨oc, od, osl, hcl⟩ := hcc
  have KX : K.In s.heap := e0.mod.kin.keeps fun b o e => (e0.bs b o e).1
  have hcb : base.get? cc = some ⟨oc, od, .cell (some (.ref D)), osl⟩ := e0.mod.kin _ _ hcl
  have l0 : ([(("self" : Str), u0), (fld, u1)] : List (Str × Value)).reverse.lookup ("self" : Str) = some u0 := by
    have ne : (("self" : Str) == fld) = false := beq_eq_false_iff_ne.mpr fun z => S.ne z.symm
    show ([(fld, u1), (("self" : Str), u0)] : List (Str × Value)).lookup _ = _
    rw [List.lookup_cons, ne]
    simp [List.lookup_cons]
  have l1 : ([(("self" : Str), u0), (fld, u1)] : List (Str × Value)).reverse.lookup fld = some u1 := by
    show ([(fld, u1), (("self" : Str), u0)] : List (Str × Value)).lookup _ = _
    simp [List.lookup_cons]
  refine ⟨⟨e0.mod, S.kind, rfl, rfl, Nat.le_refl _, fun y z c e1 e2 => ?_, fun y hy => ?_, fun y c hf _ => ?_, fun _ => hd, Around.frames_deeper e0.frames, .inr ⟨rfl, rfl⟩, fun b z => absurd z (noA b), e0.bs, e0.bsz, fun b _ _ => noA b, fun b z => absurd z (noA b), e0.funs, e0.frf⟩,
    rfl, e0.bare, Un.kept hk, ⟨_, hn, fun i y v e1 e2 e3 => ?_⟩, fun y c e => ?_, e0.hok.fresh (Nat.le_refl _), fun y c e => ?_, fun p hp => absurd (show p ∈ ([] : List (Addr × Obj)) from hp) (by simp), e0.hok.kept hk, rfl⟩
  · rw [(one_cell e1).1, (one_cell e2).1]
  · have hy' : sc.names.lookup y = some .cell ∨ sc.names.lookup y = some .free := hy
    rcases hy' with hy' | hy'
    · exact absurd rfl (S.nc _ (PySem.mem_of_lookup hy'))
    · rw [S.fr y hy']
      exact ⟨cc, by show ([(("__class__" : Str), cc)] : List (Str × Addr)).lookup _ = _; simp [List.lookup_cons]⟩
  · cases hf
  · match i with
    | 0 =>
      have ey : y = "self" := (Option.some.inj e1).symm
      have ev : v = v0 := (Option.some.inj (Option.some.inj e2)).symm
      subst ey ev
      exact ⟨u0, r0, .inl ⟨S.s0, l0⟩⟩
    | 1 =>
      have ey : y = fld := (Option.some.inj e1).symm
      have ev : v = v1 := (Option.some.inj (Option.some.inj e2)).symm
      subst ey ev
      exact ⟨u1, r1, .inl ⟨S.s1, l1⟩⟩
    | n + 2 => cases e1
  · obtain ⟨_, rfl⟩ := one_cell e
    exact ⟨some (.ref D), _, hk _ _ (KX _ _ hcl), rfl⟩
  · obtain ⟨_, rfl⟩ := one_cell e
    exact (e0.bs _ _ hcb).2
/-- what the __init__ promises: the field is set -/
def spErr (K : PySem.W.Frag) (D : Addr) (fld : Str) (Pm : V → Prop) : Sp := fun vs H Q _ => ∃ (a C : Addr) (y : V), vs = [.ref a, y] ∧ OexC K C ∧ PySem.W.ks_superIn K C D "__init__" = some (some (.builtin "ValueError.__init__")) ∧ PySem.W.mroIn K C (.ref D) = some true ∧
  PySem.W.subIn K (.ref C) (.type "ValueError") = some true ∧ PySem.W.findIn K (.ref C) fld = some none ∧ H a = some (exo a C none) ∧ Pm y ∧ ∀ dx, H dx = none → dx ≠ a → Q .non (upd (upd H dx (exd dx [(fld, y)])) a (exo a C (some dx)))
end Mb
namespace Mb
open PySem PySem.Spec PyProof.Rows L2
open Evl (Ex)
/-! ### the texts of errors -/
section
variable {X : Cx} {fld : Str} {j1 j2 : Nat} {p1 p2 p3 p4 pos : Pos} {a b m : Str}
end
/-! ### raise C(e), C an error with a field -/
structure CalR (P : Program) (wd : World) (K : PySem.W.Frag) (mg : Str → Option Value) (base : Heap) (x : Str) (C : Addr) (fld : Str) (k : Nat) (Pm : V → Prop) : Prop where
  it : ∃ (D fI : Addr) (fd : FuncData), OexC K C ∧ PySem.W.findIn K (.ref C) "__init__" = some (some (.ref fI)) ∧ PySem.W.typeIn K (.ref fI) = some (.type "function") ∧ FnOk P wd K mg base CX0 k fI fd ["self", fld] (spErr K D fld Pm) ∧ Binds K fd ["self", fld] [] ∧
    PySem.W.ks_superIn K C D "__init__" = some (some (.builtin "ValueError.__init__")) ∧ PySem.W.mroIn K C (.ref D) = some true ∧ PySem.W.subIn K (.ref C) (.type "ValueError") = some true ∧ PySem.W.findIn K (.ref C) fld = some none
  gl : mg x = some (.ref C)
section
variable {S : Type} {X : Cx} {ρ : Rs S} {W : WX} {e : Expr} {C : Addr} {x fld : Str} {k : Nat} {p pos : Pos} {Pm : V → Prop} {ta : TA}
/-- raise C(e) -/
def tRaiseF (C : Addr) (f : String) (ok : D → Bool) (fa : F S D) : T S := fun Γ s => match fa Γ s with
  | .ok d s' => if ok d = true then .ex ⟨.ref C, some (sl f, d)⟩ Γ s' else .no
  | .ex x s' => .ex x Γ s'
  | .no => .no
@[simp] theorem tRaiseF_app {C : Addr} {f : String} {ok : D → Bool} {fa : F S D} {Γ : Ctx} {s : S} : tRaiseF C f ok fa Γ s = match fa Γ s with
  | .ok d s' => if ok d = true then .ex ⟨.ref C, some (sl f, d)⟩ Γ s' else .no
  | .ex x s' => .ex x Γ s'
  | .no => .no := rfl
end
end Mb
namespace Mb
open PySem PySem.HandSPX Builtin Builtin.ObjectAttr
/-! ### C(name = v) of an error's class with an own __init__ -/
section
variable {prog : Program} {w : World} {A : Around} {E : Value → Shared → Prop} {R : Result → Shared → Prop} {h0 : Heap} {gs : Array GenState} {dr : Drawn} {tk : Nat} {os : OsState}
variable {nm q : Str} {C N : Addr} {bs bm bmB : List Value} {hdct : Bool} {sn : List Str} {sub : List Value} {ab : Bool} {col : Option Bool} {dd : Option Addr} {k0 k1 k2 k3 k5 : Option Value} {B newId initId : String} {kws : List (Str × Value)}
theorem check_new_kw {M : Model} (FB : ExcBaseFacts B newId initId bmB) (hTy : ∀ X : String, bm.contains (.type X) = bmB.contains (.type X)) {Q : Unit → Shared → Prop}
    (hcl : h0.get? C = some (excClassObj nm q C N bs bm hdct sn sub ab col dd k0 k1 k2 k3 k5 newId)) (fin : Q () ⟨h0, gs, dr, tk, os⟩) : wpAny M A (checkBuiltinCall newId ⟨[.ref C], kws⟩) Q E ⟨h0, gs, dr, tk, os⟩ := by
  have inB : (Value.ref C :: bm).contains (.type B) = true := by rw [List.contains_cons, hTy, FB.hasB, Bool.or_true]
  have nostar := FB.noStar
  simp only [checkBuiltinCall, FB.newKind, FB.newSplit, FB.newRow]
  repeat (first | refine wpAny_loadPart_at hcl ?_ | (refine wpAny_isSubtype_exc hcl ?_; rw [inB]) | refine wpAny_staticBase_exc hcl ?_ | refine wpAny_madeBy_exc hcl ?_ | simp only [bne_self_eq_false, Bool.false_eq_true, if_false] | wp_step)
  exact fin
theorem new_kw (FB : ExcBaseFacts B newId initId bmB) (hTy : ∀ X : String, bm.contains (.type X) = bmB.contains (.type X))
    (hcl : h0.get? C = some (excClassObj nm q C N bs bm hdct sn sub ab col dd k0 k1 k2 k3 k5 newId))
    (fin : R (.ok (.ret (.ref (h0.objs.size + 1)))) ⟨(h0.push (PySem.W.kdv_tup [])).push (excO C h0.objs.size), gs, dr, tk, os⟩) :
    codeAny (model prog w) A (.builtin newId ⟨[.ref C], kws⟩) R ⟨h0, gs, dr, tk, os⟩ := by
  have ends := FB.ends
  have inB : (Value.ref C :: bm).contains (.type B) = true := by rw [List.contains_cons, hTy, FB.hasB, Bool.or_true]
  have noA : (Value.ref C :: bm).contains (.type "AttributeError") = false := by
    rw [List.contains_cons, hTy, FB.noAttr]
    rfl
  have noN : (Value.ref C :: bm).contains (.type "NameError") = false := by
    rw [List.contains_cons, hTy, FB.noName]
    rfl
  have z0 : ([] : List Value).length ≤ sizeLine := Nat.zero_le _
  refine codeAny_builtinAt FB.entry ?_
  unfold Builtin.«BaseException.__new__»
  refine wpAt_bind ?_
  show _root_.PySem.wpAt _ _ _ (stack >>= _) _ _ _
  refine wpAt_bind (wpAt_stack fun fr below => wpAt_of_wpAny ?_)
  wp_walk
  refine wpAt_of_wpAny ?_
  rw [FB.owner]
  repeat (first | with_reducible refine wpAny_madeHere_exc FB.canon hcl ?_ | with_reducible refine wpAny_loadPart_at hcl ?_ | (with_reducible refine wpAny_isSubtype_exc hcl ?_; first | rw [inB] | rw [noA] | rw [noN]) | wp_step)
  show R _ _
  rw [Heap.size_push]
  exact fin
theorem type_call_kw (FB : ExcBaseFacts B newId initId bmB) (hTy : ∀ X : String, bm.contains (.type X) = bmB.contains (.type X)) {fI : Addr} {Q : Fin → Shared → Prop}
    (hcl : h0.get? C = some (excClassObj nm q C N bs bm hdct sn sub ab col dd k0 k1 k2 k3 k5 newId))
    (lk : W.Looks (model prog w) h0 (typeLookup (.ref C) "__init__") (some (.ref fI))) (bd : ∀ self, W.Looks (model prog w) h0 (bindSpecial (.ref fI) self) (.ref fI, [self]))
    (fin : codeAny (model prog w) A (.call (.ref fI) ⟨[.ref (h0.objs.size + 1)], kws⟩)
      (fun r s' => match r with | .ok (.ret v) => v = .none ∧ Q (.done (.ret (.ref (h0.objs.size + 1)))) s' | .ok _ => False | .error e => E e s')
      ⟨(h0.push (PySem.W.kdv_tup [])).push (excO C h0.objs.size), gs, dr, tk, os⟩) :
    wpAny (model prog w) A (Builtin.«type.__call__» ⟨[.ref C], kws⟩) Q E ⟨h0, gs, dr, tk, os⟩ := by
  repeat (first | with_reducible refine wpAny_loadPart_at hcl ?_ | with_reducible refine wpAny_madeBy_exc hcl ?_ | wp_step)
  refine codeAny_call_builtin_code (Code.quiet_builtin _ FB.quiet) (check_new_kw FB hTy hcl ?_)
  refine new_kw FB hTy hcl ?_
  show wpAny _ _ _ _ _ _
  have kp : ∀ b o, h0.get? b = some o → ((h0.push (PySem.W.kdv_tup [])).push (excO C h0.objs.size)).get? b = some o := fun b o e => Heap.get?_push_of_some _ (Heap.get?_push_of_some _ e)
  have hcl1 := kp _ _ hcl
  have got : ((h0.push (PySem.W.kdv_tup [])).push (excO C h0.objs.size)).get? (h0.objs.size + 1) = some (excO C h0.objs.size) := by heap_get
  have inC : (Value.ref C :: bm).contains (.ref C) = true := by simp
  have lk1 := lk.keeps kp
  have bd1 := (bd (.ref (h0.objs.size + 1))).keeps kp
  unfold isInstance
  repeat (first | with_reducible refine wpAny_loadPart_at got ?_ | (with_reducible refine wpAny_isSubtype_exc hcl1 ?_; rw [inC]) | wp_step)
  show wpAny _ _ (typeLookup (.ref C) _) _ _ _
  refine lk1.at ?_
  refine wpAny_holding (wpAny_bind (bd1.at ?_))
  refine wpAny_bind (wpAny_call (codeAny_mono fin fun r s' z => ?_))
  cases r with
  | error e => exact z
  | ok fl =>
    cases fl with
    | ret v =>
      obtain ⟨ev, z⟩ := z
      subst ev
      first
        | exact wpAny_pure (wpAny_pure z)
        | (wp_walk; exact z)
    | _ => exact z.elim
theorem call_exc_kw (FB : ExcBaseFacts B newId initId bmB) (hTy : ∀ X : String, bm.contains (.type X) = bmB.contains (.type X)) {fI : Addr}
    (hcl : h0.get? C = some (excClassObj nm q C N bs bm hdct sn sub ab col dd k0 k1 k2 k3 k5 newId))
    (lk : W.Looks (model prog w) h0 (typeLookup (.ref C) "__init__") (some (.ref fI))) (bd : ∀ self, W.Looks (model prog w) h0 (bindSpecial (.ref fI) self) (.ref fI, [self]))
    (fin : codeAny (model prog w) (A.under (.builtin "type.__call__" ⟨[.ref C], kws⟩)) (.call (.ref fI) ⟨[.ref (h0.objs.size + 1)], kws⟩) (W.InitBack (h0.objs.size + 1) R)
      ⟨(h0.push (PySem.W.kdv_tup [])).push (excO C h0.objs.size), gs, dr, tk, os⟩) :
    codeAny (model prog w) A (.call (.ref C) ⟨[], kws⟩) R ⟨h0, gs, dr, tk, os⟩ := by
  have l1 := tc_lookup
  have l2 := tc_bind (.ref C)
  have ty : (⟨h0, gs, dr, tk, os⟩ : Shared).TypeIs (.ref C) "type" := ⟨_, hcl, rfl⟩
  refine codeAny_of_tree ?_
  show wpAny _ _ (callAny (.ref C) _) _ _ _
  repeat (any_goals (first | assumption | with_reducible refine wpAny_loadPart_at hcl ?_ | wp_step))
  refine ⟨rfl, ?_⟩
  refine codeAny_call_builtin_at (Code.quiet_builtin _ (by decide +kernel)) entry_typeCall (wpAny_check_type_call_sub hcl (type_call_kw FB hTy hcl lk bd ?_))
  refine codeAny_mono fin fun r s' z => ?_
  cases r with
  | error e => exact z
  | ok fl =>
    cases fl with
    | ret v => exact z
    | _ => exact z
end
end Mb
namespace Mb
open PySem PySem.Spec PyProof.Rows PySem.W
/-! ### isinstance of an error that has a dict -/
section
variable {prog : Program} {w : World} {A : Around} {E : Value → Shared → Prop} {s : Shared} {K : Frag} {D x : Addr} {ox : Obj} {od : Option Obj}
theorem excT {hp : Heap} {M : Model} (C : L2.ExcC K D) (KX : K.In hp) (J : InstAt hp x ox D od) : Looks M hp (isInstance (.ref x) (.type "BaseException")) true := J.type.andThen (looks_subIn KX C.hs)
theorem class_of_exc {Q : Option Value → Shared → Prop} (C : L2.ExcC K D) (KX : K.In s.heap) (J : InstAt s.heap x ox D od) (ho : od.isSome = true) (h : Q (some (.ref D)) { s with toks := s.toks + 1 }) : wpAny (model prog w) A (getAttr? (.ref x) "__class__") Q E s := by
  obtain ⟨o, rfl⟩ := Option.isSome_iff_exists.mp ho
  obtain ⟨cd, hcd, _⟩ := any_some C.hd
  have fo : findObj K D (some o) "__class__" = some (.bind (.builtin "getset_descriptor.__get__") (.builtin "object.__class__")) := findObj_data (by rw [hcd]; rfl) C.ha C.hn C.ht
  obtain ⟨hp, g, d, t, os⟩ := s
  have ty := J.type (M := model prog w)
  have no : (Value.builtin "BaseException.__getattribute__" == Value.builtin "object.__getattribute__") = false := by decide +kernel
  have no1 : (onTheHeap (Value.ref D) && Value.builtin "BaseException.__getattribute__" == Value.builtin "object.__getattribute__") = false := by
    rw [no]
    rfl
  unfold getAttr? getAttrBy? getAttrBy
  refine wpAny_bind (wpAny_mkText ?_)
  refine wpAny_bind (wpAny_attempt (wpAny_holding ?_))
  refine wpAny_bind (ty.at ?_)
  refine wpAny_bind ((looks_findIn (M := model prog w) KX C.hg).at ?_)
  dsimp only
  rw [if_neg (by rw [no1]; decide)]
  unfold getAttrByItsOwn hookBefore
  refine wpAny_bind ?_
  rw [if_pos (by rfl : onTheHeap (Value.ref D) = true)]
  refine (looks_findIn (M := model prog w) KX C.hk).at ?_
  refine wpAny_bind (wpAny_attempt (wpAny_holding ?_))
  unfold callGetattribute
  rw [if_neg (by decide)]
  unfold boundAndCalled
  rw [PySem.F.excAttr_ValueError.ga.bind (.ref x)]
  refine wpAny_bind (wpAny_pure ?_)
  refine wpAny_call (codeAny_call_builtin PySem.F.excAttr_ValueError.ga.plain PySem.F.entry_bexc_ga ?_)
  have ki : builtinKind "BaseException.__getattribute__" = some .slot := by decide +kernel
  have si : splitId "BaseException.__getattribute__" = some ("BaseException", "__getattribute__") := by decide +kernel
  refine check_slot (M := model prog w) (i := "BaseException.__getattribute__") (owner := "BaseException") (n := "__getattribute__") (self := .ref x) (rest := [.str "__class__" t]) (kw := []) ki si (excT C KX J) (PySem.F.args_bexc_ga (.ref x) (.str "__class__" t)) ?_
  unfold Builtin.«object.__getattribute__»
  refine wpAny_bind (wpAny_of_eq (a := ((Value.ref x : Value), [Value.str "__class__" t])) (by first | rfl | (simp only [slotArgs]; rfl)) ?_)
  refine wpAny_bind (wpAny_pure ?_)
  refine wpAny_bind (ty.at ?_)
  refine wpAny_bind ((looks_find (M := model prog w) KX J fo).at ?_)
  dsimp only
  refine wpAny_bind (wpAny_holding (wpAny_call (class_get (s := ⟨hp, g, d, t + 1, os⟩) (ox := ox) (od := some o) KX J C.hm ?_)))
  refine wpAny_pure ?_
  show wpAny _ _ (handedOut (.ref D)) _ _ _
  rw [handedOut_of (v := .ref D) rfl]
  first
    | exact wpAny_pure (wpAny_pure h)
    | exact wpAny_pure h
    | exact wpAny_pure (wpAny_bind (wpAny_pure (wpAny_pure h)))
theorem kitx_excD (C : L2.ExcC K D) (ho : od.isSome = true) : KitX K (.ref x) (.ref D) (fun h => InstAt h x ox D od) := by
  have base := handS_kitx_exc (K := K) (D := D) (x := x) (ox := ox) C.hg C.hk C.hs C.hd C.ha C.hn C.ht C.hm
  exact { ty := fun _ _ _ I => I.type, it := fun _ _ KX J => by
            obtain ⟨cd, hcd, _⟩ := any_some C.hd
            unfold clsIn at hcd
            split at hcd
            · rename_i hl
              exact fun A' Q' E' s' k q => by
                unfold isType loadHead
                exact wpAny_bind (wpAny_loadPart (k _ _ (KX _ _ hl)) (wpAny_pure q))
            · cases hcd
          ne := base.ne, ca := fun KX J k => class_of_exc C KX J ho k }
end
end Mb
namespace Mb
open PySem PySem.Spec PyProof.Rows L2
open Evl (Ex)
/-! ### errors with their field, caught and noted -/
section
variable {S : Type} {X : Cx} {ρ : Rs S} {W : WX} {K : PySem.W.Frag} {s s' : S} {H0 Hs H : Hp} {σ : L2.St} {Γ : Ctx}
def errD (C : Addr) : Option (Str × D) → D
  | none => .err C [] []
  | some (f, d) => .err C [f] [d]
@[simp] theorem errD_n {C : Addr} : errD C none = .err C [] [] := rfl
@[simp] theorem errD_s {C : Addr} {f : Str} {d : D} : errD C (some (f, d)) = .err C [f] [d] := rfl
/-! ### isinstance of such an error -/
def rIsF (K : PySem.W.Frag) : List V → Hp → VK → Prop := fun xs H Q => ∃ (a D : Addr) (p : Option Addr) (c : V) (cv : Value) (b : Bool), xs = [.ref a, c] ∧ H a = some (errO D p a) ∧ (∀ q, p = some q → ∃ fs, H q = some (.xd fs)) ∧ ExcC K D ∧ (∀ u, RelV c u → u = cv) ∧ PySem.W.kitOne K (.ref D) cv = some b ∧ Q (.bl b) H
theorem inst_err {pins : List (Addr × Obj)} {sh : Shared} {a D : Addr} {p : Option Addr} (I : Inv X pins σ H sh) (ha : H a = some (errO D p a)) (hp : ∀ q, p = some q → ∃ fs, H q = some (.xd fs)) : ∃ (oe : Obj) (od : Option Obj), PySem.W.InstAt sh.heap a oe D od ∧ od.isSome = p.isSome := by
  obtain ⟨⟨oe, vs, hget, hz, hv⟩, _, _⟩ := I.hok a _ ha
  cases p with
  | none =>
    refine ⟨oe, none, ?_, rfl⟩
    obtain ⟨oc, od, oda, osl⟩ := oe
    obtain ⟨h1, h2⟩ := hz
    dsimp only at h1 h2 hv
    subst h1 h2 hv
    exact ⟨hget, rfl, rfl, trivial⟩
  | some q =>
    obtain ⟨fs, hq⟩ := hp q rfl
    have hx : ObjOk X.prog X.w H sh.heap q (.xd fs) := I.hok q _ hq
    obtain ⟨mA, ⟨od, es, ep, ho, hr⟩, _⟩ := hx
    exact ⟨oe, some od, ⟨hget, hz.1, by unfold PySem.W.notCls; rw [hv] <;> rfl, by rw [hz.2]; exact ho⟩, rfl⟩
theorem cr_isF : CallR X (.builtin "isinstance") (rIsF X.K) := by
  intro pins s σ H xs us Q I r h
  obtain ⟨a, D, p, c, cv, b, rfl, ha, hp, C, hcv, e, q⟩ := h
  cases r with
  | cons rx rr =>
    cases rr with
    | cons rt rr =>
      cases rr
      cases rx
      have ec := hcv _ rt
      subst ec
      obtain ⟨oe, od, J, ep⟩ := inst_err I ha hp
      cases od with
      | none => exact PySem.W.kia_one (PySem.W.handS_kitx_exc C.hg C.hk C.hs C.hd C.ha C.hn C.ht C.hm) I.kIn J e (fun z => nomatch z) fun tk => ⟨.bl b, H, I.kept (t' := tk) fun _ _ z => z, rfl, q⟩
      | some o => exact PySem.W.kia_one (kitx_excD C rfl) I.kIn J e (fun z => nomatch z) fun tk => ⟨.bl b, H, I.kept (t' := tk) fun _ _ z => z, rfl, q⟩
variable {a : Expr} {fa : F S D} {x : Str} {p p2 pos : Pos} {C : Addr}
def fIsF (tbl : List (Addr × Bool)) (fa : F S D) : F S D := fun Γ => bnd (fa Γ) fun d => match d with
  | .err D _ _ => opt ((tbl.lookup D).map .bl)
  | _ => mno
@[simp] theorem fIsF_app {tbl : List (Addr × Bool)} {fa : F S D} {Γ : Ctx} : fIsF tbl fa Γ = bnd (fa Γ) fun d => match d with
  | .err D _ _ => opt ((tbl.lookup D).map .bl)
  | _ => mno := rfl
theorem fe_isF_of {tbl : List (Addr × Bool)} {c : Expr} {v : V} {cv : Value} (hm : X.mg "isinstance" = none) (hv : ∀ u, RelV v u → u = cv) (hc : PE X c (tC v)) (ht : ∀ D b, (D, b) ∈ tbl → ExcC X.K D ∧ PySem.W.kitOne X.K (.ref D) cv = some b) (ha : ME X ρ W a (wF fa)) (hg : Gl X "isinstance")
    (h1 : starEach [a, c] X.env = (false, eval a X.env) :: starEach [c] X.env) (h2 : starEach [c] X.env = (false, eval c X.env) :: starEach [] X.env) (hpl : (backTo pos (starEach [c] X.env)).any (·.1) = false) : ME X ρ W (.Call (.Name "isinstance" p) [a, c] [] pos) (wF (fIsF tbl fa)) :=
  ⟨(pe_callB cr_isF hg hm (by decide +kernel) (pa_cons ha.pe (pa_cons hc pa_nil h2) h1) (he := h1) (hpl := hpl)).imp fun σ H Q ⟨H0, Hs, Γ, s, q, rx, G, L, h, k, xo⟩ => by
    simp only [wF, fIsF, post_bnd] at h
    refine ⟨H0, Hs, Γ, s, _, rx, G, L, h, fun v' d s1 Hs1 H1 R1 G1 I1 h1 => ?_, xo⟩
    split at h1
    · rename_i D ks ds
      obtain ⟨d', hd, h1⟩ := post_opt h1
      obtain ⟨b, hb, rfl⟩ := Option.map_eq_some_iff.mp hd
      obtain ⟨ec, kt⟩ := ht D b (lookup_in hb)
      cases I1 with
      | @err a0 _ pp _ _ _ hq hp2 hp3 hv2 => exact ⟨a0, D, pp, v, cv, b, rfl, G1.ex _ _ hq, fun q z => ⟨_, G1.ex _ _ (hp2 q z)⟩, ec, hv, kt, k (.bl b) (.bl b) s1 Hs1 H1 R1 G1 (.bl b) h1⟩
    · exact h1.elim⟩
theorem fe_isF {tbl : List (Addr × Bool)} (hm : X.mg "isinstance" = none) (hx : X.mg x = some (.ref C)) (ht : ∀ D b, (D, b) ∈ tbl → ExcC X.K D ∧ PySem.W.kitOne X.K (.ref D) (.ref C) = some b) (ha : ME X ρ W a (wF fa)) (hg : Gl X "isinstance" := by rfl) (hgx : Gl X x := by rfl) (hdb : (x == ("__debug__" : Str)) = false := by decide)
    (h1 : starEach [a, .Name x p2] X.env = (false, eval a X.env) :: starEach [.Name x p2] X.env := by rfl) (h2 : starEach [.Name x p2] X.env = (false, eval (.Name x p2) X.env) :: starEach [] X.env := by rfl) : ME X ρ W (.Call (.Name "isinstance" p) [a, .Name x p2] [] pos) (wF (fIsF tbl fa)) :=
  fe_isF_of hm (v := .ref C) (cv := .ref C) (fun u r => r) (pe_glob (v := .ref C) hgx hx rfl hdb) ht ha hg h1 h2 rfl
/-! ### its field -/
theorem pe_xfT {e : Expr} {te : TE} {n : Str} {pos : Pos} (he : PE X e te) (hb : attributeBase e n X.env (eval e X.env) = eval e X.env := by rfl) :
    PE X (.Attribute e n pos) (fun σ H Q => te σ H fun x H1 => ∃ (a C dd : Addr) (fs : List (Str × V)) (v : V), x = .ref a ∧ H1 a = some (errO C (some dd) a) ∧ XfC X.K C ∧ PySem.W.findIn X.K (.ref C) n = some none ∧ H1 dd = some (.xd fs) ∧ fs.lookup n = some v ∧ Q v H1) := by
  refine ⟨fun pins s σ H Q I h => ?_⟩
  refine attr_of hb (thn (he.run pins s σ H _ I h) fun u s1 hh => ?_)
  obtain ⟨x, H1, I1, rx, a, C, dd, fs, v, ex, ha, T, hno, ea, l, q⟩ := hh
  subst ex
  obtain rfl : u = Value.ref a := rx
  obtain ⟨⟨oe, vs, hget, hz, hv⟩, _, _⟩ := I1.hok a _ ha
  have hx : ObjOk X.prog X.w H1 s1.heap dd (.xd fs) := I1.hok dd _ ea
  obtain ⟨mA, hns, hr⟩ := hx
  obtain ⟨od, ho, hl⟩ := lookIn_ns hns
  obtain ⟨w, hw, rw'⟩ := RelO.some_of (v := v) (o := mA n) (by rw [← l]; exact hr n)
  have J : PySem.W.InstAt s1.heap a oe C (some od) := ⟨hget, hz.1, by unfold PySem.W.notCls; rw [hv] <;> rfl, by rw [hz.2]; exact ho⟩
  exact HandSPX.exc_get I1.kIn J T.ga T.gg T.exC (PySem.W.findObj_own T.hdC hno rfl (by rw [hl, hw])) (handed_of rw') ⟨v, H1, I1.tok _, rw', q⟩
/-- e.f, e an error of a class of cs -/
def fErrF (cs : List Addr) (f : String) (fa : F S D) : F S D := fun Γ => bnd (fa Γ) fun d => match d with
  | .err D [g] [y] => if g = sl f ∧ D ∈ cs then ret y else mno
  | _ => mno
@[simp] theorem fErrF_app {cs : List Addr} {f : String} {fa : F S D} {Γ : Ctx} : fErrF cs f fa Γ = bnd (fa Γ) fun d => match d with
  | .err D [g] [y] => if g = sl f ∧ D ∈ cs then ret y else mno
  | _ => mno := rfl
theorem fe_errF {cs : List Addr} {f : String} {e : Expr} (ht : ∀ C ∈ cs, XfC X.K C ∧ PySem.W.findIn X.K (.ref C) f = some none) (ha : ME X ρ W e (wF fa)) (hb : attributeBase e (f : Str) X.env (eval e X.env) = eval e X.env := by rfl) : ME X ρ W (.Attribute e f pos) (wF (fErrF cs f fa)) :=
  ⟨(pe_xfT ha.pe hb).imp fun σ H Q ⟨H0, Hs, Γ, s, q, rx, G, L, h, k, xo⟩ => by
    simp only [wF, fErrF, post_bnd] at h
    refine ⟨H0, Hs, Γ, s, _, rx, G, L, h, fun v' d s1 Hs1 H1 R1 G1 I1 h1 => ?_, xo⟩
    split at h1
    · rename_i D g y
      by_cases z : g = sl f ∧ D ∈ cs
      · rw [if_pos z] at h1
        obtain ⟨eg, hD⟩ := z
        obtain ⟨T, hno⟩ := ht D hD
        cases I1 with
        | @err a0 _ pp _ _ _ hq hp2 hp3 hv2 =>
          cases hv2 with
          | @cons v0 _ _ _ i0 i1 =>
            cases i1
            cases pp with
            | none => exact absurd (hp3.mp rfl) (by simp)
            | some qd => exact ⟨a0, D, qd, _, v0, rfl, G1.ex _ _ hq, T, hno, G1.ex _ _ (hp2 qd rfl), by rw [eg, sl_eq]; simp [List.lookup_cons], k v0 y s1 Hs1 H1 R1 G1 i0 h1⟩
      · rw [if_neg z] at h1
        exact h1.elim
    · exact h1.elim⟩
end
end Mb
namespace Mb
open PySem PySem.Spec PyProof.Rows L2
open Evl (Ex)
/-! ### {x} of values of several kinds -/
/-- what stands in such a tuple, and its text -/
inductive Sm : V → Str → Prop
  | str (y : Str) : (∀ c ∈ y.cps.toList, c < 16 ^ 8) → y.length ≤ 1000 → Sm (.str y) (reprText y)
  | int (i : Int) : i.natAbs.log2 < 1920 → Sm (.int i) (Str.ofString (toString i))
theorem Sm.len {v : V} {t : Str} (h : Sm v t) : t.length ≤ 10010 := by
  cases h with
  | str y h1 h2 =>
    have := StrLaws.reprText_len y h1
    omega
  | int i h =>
    have := int_text_len_1921 h
    omega
def SmAll : List V → List Str → Prop
  | [], [] => True
  | v :: vs, t :: ts => Sm v t ∧ SmAll vs ts
  | _, _ => False
theorem sm_repr {P : Program} {w : World} : ∀ {vs : List V} {us : List Value} {ts : List Str}, Vals vs us → SmAll vs ts → ReprAll P w us ts ∧ piled ts ≤ vs.length * 10012
  | [], _, ts, r, h => by
    cases r
    cases ts with
    | nil => exact ⟨.nil, Nat.zero_le _⟩
    | cons t ts => exact h.elim
  | v :: vs, _, ts, r, h => by
    cases r with
    | cons r1 r2 =>
      cases ts with
      | nil => exact h.elim
      | cons t ts =>
        obtain ⟨h1, h2⟩ := h
        obtain ⟨a, b⟩ := sm_repr (P := P) (w := w) r2 h2
        have l := h1.len
        have z : piled (t :: ts) ≤ (v :: vs).length * 10012 := by
          rw [piled_cons, List.length_cons, Nat.add_mul]
          omega
        refine ⟨?_, z⟩
        have sz : (10010 : Nat) ≤ sizeLine := by
          rw [sizeLine_eq]
          decide
        cases h1 with
        | str y c1 c2 =>
          obtain ⟨tk, rfl⟩ := r1
          exact .cons (ReprIs.str y tk (Nat.le_trans l sz)) a
        | int i c1 =>
          obtain ⟨tk, rfl⟩ := r1
          exact .cons (ReprIs.int tk c1) a
/-- a value that an f-string may tell -/
def fmtV (K : PySem.W.Frag) (H : Hp) (y : V) : Prop := y = .non ∨ (∃ b, y = .bl b) ∨ (∃ x : Str, y = .str x ∧ x.length ≤ 1000) ∨ (∃ i : Int, y = .int i ∧ i.natAbs.log2 < 1920) ∨ ∃ a l ts, y = .ref a ∧ SqT K H a l ∧ l.length ≤ 4 ∧ SmAll l ts
section
variable {X : Cx} {e : Expr} {te : TE} {pos : Pos} {k : Nat}
theorem pe_fmtV (hr : Room k X.A) (he : PE X e te) : PE X (.FormattedValue e (-1) none pos) (fun σ H Q => te σ H fun x H1 => fmtV X.K H1 x ∧ ∀ m : Str, m.length ≤ 50000 → Q (.str m) H1) := by
  refine ⟨fun pins s σ H Q I h => ?_⟩
  refine wpAny_FormattedValue_plain (thn (he.run pins s σ H _ I h) fun v s1 hv => ?_)
  obtain ⟨x, H1, I1, r1, hf, q⟩ := hv
  have sz : (50000 : Nat) ≤ sizeLine := by
    rw [sizeLine_eq]
    decide
  rcases hf with rfl | ⟨b, rfl⟩ | ⟨y, rfl, hy⟩ | ⟨i, rfl, hi⟩ | ⟨a, l, ts, rfl, ht, hl, hs⟩
  · obtain rfl : v = Value.none := r1
    exact wpAny_formatField_none ⟨.str "None", H1, (I1.tok _).tok _, ⟨_, rfl⟩, q _ (by decide +kernel)⟩
  · obtain rfl : v = Value.bool b := r1
    refine wpAny_formatField_bool ⟨.str (if b then "True" else "False"), H1, (I1.tok _).tok _, ⟨_, rfl⟩, q _ ?_⟩
    cases b
    · decide +kernel
    · decide +kernel
  · obtain ⟨t, rfl⟩ := r1
    exact wpAny_formatField_str ⟨.str y, H1, I1, ⟨t, rfl⟩, q _ (by omega)⟩ ⟨.str y, H1, I1.tok _, ⟨_, rfl⟩, q _ (by omega)⟩ (by omega)
  · obtain ⟨t, rfl⟩ := r1
    have := int_text_len_1921 hi
    exact wpAny_formatField_int hi ⟨.str (Str.ofString (toString i)), H1, I1.tok _, ⟨_, rfl⟩, q _ (by omega)⟩
  · obtain rfl : v = Value.ref a := r1
    obtain ⟨its, rv, ⟨o, ho, hcl, n, hd⟩, _⟩ := I1.tuple ht
    obtain ⟨ra, pz⟩ := sm_repr (P := X.prog) (w := X.w) rv hs
    have tx := fmt_text ts
    have hu := hr.units
    have : l.length * 10012 ≤ 4 * 10012 := Nat.mul_le_mul_right _ hl
    exact fmt_tuple (ts := ts) (by omega) ho hcl hd ra (by omega) fun m u tk hm => ⟨.str m, H1, I1.tok _, ⟨u, rfl⟩, q m (by omega)⟩
/-! ### messages over any heap -/
def tMsgH (Pm : Hp → V → Prop) : TE := fun σ H Q => ∃ y : V, σ[1]? = some (some y) ∧ Pm H y ∧ ∀ m : Str, Q (.str m) H
variable {fld : Str} {j1 j2 : Nat} {p1 p2 p3 p4 : Pos} {a b m : Str}
theorem msgH_c {Pm : Hp → V → Prop} : PE X (.Constant (.str m) j1 pos) (tMsgH Pm) := pe_str.imp fun σ H Q ⟨y, _, _, q⟩ => q m
theorem msgH_3 (hr : Room k X.A) (hN : X.N[1]? = some fld) (hv : Vis X.env.scope fld) (hd : (fld == ("__debug__" : Str)) = false) (hcd : (fld == ("__classdict__" : Str)) = false) (ha : a.length ≤ 1000) (hb : b.length ≤ 1000) :
    PE X (.JoinedStr [.Constant (.str a) j1 p1, .FormattedValue (.Name fld p2) (-1) none p3, .Constant (.str b) j2 p4] pos) (tMsgH (fmtV X.K)) :=
  (pe_joined (.cons pe_str (.cons (pe_fmtV hr (pe_var hN hv hd hcd)) (.cons pe_str .nil)))).imp fun σ H Q ⟨y, e, hf, q⟩ => by
    have z : ∀ x y : Str, (x ++ y).length = x.length + y.length := fun x y => Str.length_append x y
    have e0 : (Str.empty : Str).length = 0 := rfl
    refine ⟨_, rfl, ?_, y, e, hf, fun m hm => ⟨_, rfl, ?_, _, rfl, ?_, q _⟩⟩
    · rw [z, e0, sizeLine_eq]
      omega
    · rw [z, z, e0, sizeLine_eq]
      omega
    · rw [z, z, z, e0, sizeLine_eq]
      omega
theorem msgH_2 (hr : Room k X.A) (hN : X.N[1]? = some fld) (hv : Vis X.env.scope fld) (hd : (fld == ("__debug__" : Str)) = false) (hcd : (fld == ("__classdict__" : Str)) = false) (ha : a.length ≤ 1000) :
    PE X (.JoinedStr [.Constant (.str a) j1 p1, .FormattedValue (.Name fld p2) (-1) none p3] pos) (tMsgH (fmtV X.K)) :=
  (pe_joined (.cons pe_str (.cons (pe_fmtV hr (pe_var hN hv hd hcd)) .nil))).imp fun σ H Q ⟨y, e, hf, q⟩ => by
    have z : ∀ x y : Str, (x ++ y).length = x.length + y.length := fun x y => Str.length_append x y
    have e0 : (Str.empty : Str).length = 0 := rfl
    refine ⟨_, rfl, ?_, y, e, hf, fun m hm => ⟨_, rfl, ?_, q _⟩⟩
    · rw [z, e0, sizeLine_eq]
      omega
    · rw [z, z, e0, sizeLine_eq]
      omega
end
end Mb
namespace Mb
open PySem PySem.Spec PyProof.Rows L2
open Evl (Ex)
/-- what the __init__ promises: the field is set -/
def spErrH (K : PySem.W.Frag) (D : Addr) (fld : Str) (Pm : Hp → V → Prop) : Sp := fun vs H Q _ => ∃ (a C : Addr) (y : V), vs = [.ref a, y] ∧ OexC K C ∧ PySem.W.ks_superIn K C D "__init__" = some (some (.builtin "ValueError.__init__")) ∧ PySem.W.mroIn K C (.ref D) = some true ∧
  PySem.W.subIn K (.ref C) (.type "ValueError") = some true ∧ PySem.W.findIn K (.ref C) fld = some none ∧ H a = some (exo a C none) ∧ Pm H y ∧ ∀ dx, H dx = none → dx ≠ a → Q .non (upd (upd H dx (exd dx [(fld, y)])) a (exo a C (some dx)))
theorem fn_errH {P : Program} {wd : World} {K : PySem.W.Frag} {mg : Str → Option Value} {base : Heap} {x qual fld : Str} {st : Stmt} {kV doc pm ct oc : Value} {an od : Option Addr} {osl : Array (Option Value)} {f cda cc D : Addr} {k : Nat} {Pm : Hp → V → Prop} {msg : Expr} {p0 p1 p2 p3 p4 p5 p6 p7 p8 : Pos} {pl : Sem Bool}
    (lk : K.lookup f = some ⟨oc, od, .func (PySem.W.ksFn x qual (defArgs st) (defBody st) (defScope st) .none kV doc pm an (.ref cda) ct cc), osl⟩) (hcd : PySem.W.codeIn K (.ref cda) qual = true) (T : SupT K P mg f cda cc D "self") (S : EScope fld (defScope st))
    (hbd : defBody st = [.Expr (.Call (.Attribute (.Call (.Name "super" p0) [] [] p1) "__init__" p2) [msg] [] p3) p4, .Assign [.Attribute (.Name "self" p5) fld p6] (.Name fld p7) p8])
    (hdb : (fld == ("__debug__" : Str)) = false) (hcd2 : (fld == ("__classdict__" : Str)) = false)
    (hmsg : ∀ (A : Around) (outer : List Env) (s : Shared) (H : Hp), Room k (cxE P wd K mg base fld qual (defScope st) f cda cc A outer s H).A → PE (cxE P wd K mg base fld qual (defScope st) f cda cc A outer s H) msg (tMsgH Pm))
    (hst : ∀ env : Env, starEach [msg] env = (false, eval msg env) :: starEach [] env)
    (hsw : ∀ env : Env, swapsWith (.Call (.Attribute (.Call (.Name "super" p0) [] [] p1) "__init__" p2) [msg] [] p3) none p4.line env = pure false)
    (hsw2 : ∀ env : Env, swapsWith (.Name fld p7) (some (.Attribute (.Name "self" p5) fld p6)) p8.line env = pure false)
    (hev : ∀ env : Env, eval (.Call (.Attribute (.Call (.Name "super" p0) [] [] p1) "__init__" p2) [msg] [] p3) env = (do
      let ov ← attributeBase (.Call (.Name "super" p0) [] [] p1) "__init__" env (eval (.Call (.Name "super" p0) [] [] p1) env)
      standAt p2.atName
      let (f, first) ← holding [ov] (getMethod ov "__init__" pl)
      callWith p3 f first (backTo p3 (starEach [msg] env)) [])) :
    FnOk P wd K mg base CX0 (k + 1) f (PySem.W.ksFn x qual (defArgs st) (defBody st) (defScope st) .none kV doc pm an (.ref cda) ct cc) ["self", fld] (spErrH K D fld Pm) := by
  refine ⟨fun vs H Q E h => ?_, fun A outer s H args us vs Q E hr e0 hb r hsp => ?_⟩
  · obtain ⟨a, C, y, rfl, _⟩ := h
    rfl
  · obtain ⟨a, C, y, rfl, TO, hs, hsub, hB, hno, ea, py, hq⟩ := hsp
    cases r with
    | @cons _ u0 _ ur r0 rr =>
      cases rr with
      | @cons _ u1 _ ur2 r1 rr2 =>
        cases rr2
        have KX : K.In s.heap := e0.mod.kin.keeps fun b o e => (e0.bs b o e).1
        have lim : s.heap.NoLimit := e0.mod.nolimit.keeps fun b o e => (e0.bs b o e).1
        refine PySem.ks_codeAny_call_defAt (fd := PySem.W.ksFn x qual (defArgs st) (defBody st) (defScope st) .none kV doc pm an (.ref cda) ct cc) (body := defBody st) (binds := [(("self" : Str), u0), (fld, u1)]) hr.depth (KX _ _ lk) rfl lim (PySem.W.codeRec_of KX hcd) rfl hb S.nc
          (fun z hz => ?_) (fun h1 hn hk => ?_) S.co S.gen S.kind
        · rcases List.mem_cons.mp hz with rfl | hz
          · exact S.s0
          · rw [List.mem_singleton.mp hz]
            exact S.s1
        · have I := inv_startE (qual := qual) (f := f) (cda := cda) (t1 := s.toks + 2) S hr.hd e0 T.cell r0 r1 hn hk
          have N : SupE (cxE P wd K mg base fld qual (defScope st) f cda cc A outer s H).env f cda cc "self" := ⟨rfl, rfl, by show ([(("__class__" : Str), cc)] : List (Str × Addr)).lookup _ = _; simp [List.lookup_cons], S.s2, S.s3, S.s0⟩
          have hroom : Room k (cxE P wd K mg base fld qual (defScope st) f cda cc A outer s H).A := hr.deeper _
          have hargs : PA (cxE P wd K mg base fld qual (defScope st) f cda cc A outer s H) [msg] _ := pa_cons (hmsg A outer s H hroom) pa_nil (hst _)
          show _root_.PySem.wpAt (model P wd) (cxE P wd K mg base fld qual (defScope st) f cda cc A outer s H).A (.func (defBody st) (cxE P wd K mg base fld qual (defScope st) f cda cc A outer s H).env) (execs (defBody st) (cxE P wd K mg base fld qual (defScope st) f cda cc A outer s H).env) _ _ _
          rw [show execs (defBody st) = execs [.Expr (.Call (.Attribute (.Call (.Name "super" p0) [] [] p1) "__init__" p2) [msg] [] p3) p4, .Assign [.Attribute (.Name "self" p5) fld p6] (.Name fld p7) p8] from by rw [hbd]]
          refine PySem.ks_wpAt_execs_cons (PySem.ks_wpAt_mono (sup_stmt (Q := fun H1 => H1 = H) T N TO hs hsub hB I (i := 0) rfl rfl ea hargs ?_ (hst _) rfl ?_ (hsw _) (hev _)) (fun fl s1 ⟨efl, H1, I1, e1⟩ => ?_) fun e s1 z => z.elim)
          · exact ⟨y, rfl, py, fun m => ⟨(by decide : (1 : Nat) ≤ 1000), ea, rfl⟩⟩
          · show interactive (eEnv qual (defScope st) s.heap.objs.size f cda cc) = false
            unfold interactive
            simp [S.kind]
          · subst efl e1
            refine wpAt_of_wpAny ?_
            have P2 : PSs (cxE P wd K mg base fld qual (defScope st) f cda cc A outer s H1) [.Assign [.Attribute (.Name "self" p5) fld p6] (.Name fld p7) p8] _ := pss_one (ps_ost (X := cxE P wd K mg base fld qual (defScope st) f cda cc A outer s H1) (pv 0 rfl (.inl S.s0)) (pv 1 rfl (.inl S.s1) hdb hcd2) (hsw2 _))
            refine wpAny_mono (P2.run [] s1 _ H1 { nx := fun _ H' => Q .non H', rt := Q } I1 ?_) (fun fl s2 hs2 => ?_) fun e s2 z => z.elim
            · exact ⟨y, rfl, .ref a, rfl, a, C, rfl, TO, hno, Or.inl ⟨ea, fun dx n1 n2 => hq dx n1 n2⟩⟩
            · cases fl with
              | next =>
                obtain ⟨σ', H', J, q⟩ := hs2
                exact ⟨V.non, H', J.os, J.bare, J.base, J.hok, rfl, q⟩
              | ret u =>
                obtain ⟨v, σ', H', J, rv, q⟩ := hs2
                exact ⟨v, H', J.os, J.bare, J.base, J.hok, rv, q⟩
              | brk =>
                obtain ⟨_, _, _, q⟩ := hs2
                exact q.elim
              | cont =>
                obtain ⟨_, _, _, q⟩ := hs2
                exact q.elim
end Mb
namespace Mb
open PySem PySem.Spec PyProof.Rows L2
open Evl (Ex)
/-! ### an error as a value -/
section
variable {X : Cx} {e : Expr} {t : L2.St → Hp → XK → Prop}
/-- what is made may be kept -/
theorem pe_mk (h : PMk X e t) : PE X e (fun σ H Q => t σ H fun cls d H' => ∀ a, H' a = none → Q (.ref a) (upd H' a (exT cls d a))) := by
  refine ⟨fun pins s σ H Q I ht => ?_⟩
  refine wpAny_mono (h pins s σ H _ I ht) (fun u s1 hu => ?_) fun _ _ x => x
  obtain ⟨a, oe, vs, sI, H', cls, d, eu, J, k, hne, ha, hz, hd, h1, na, os, ag, r, q⟩ := hu
  subst eu
  have new : ObjOk X.prog X.w (upd H' a (exT cls d a)) s1.heap a (exT cls d a) := exT_ok ha hz hd
  have J2 := J.laidN (t' := s1.toks) k hne na new
  obtain ⟨hp, gs, dr, tk, os1⟩ := s1
  exact ⟨.ref a, upd H' a (exT cls d a), ⟨J2.ok, os.trans J2.os, ag, J2.base, J2.loc, J2.cell, J2.free, J2.freeC, J2.pin, J2.hok, J2.len⟩, rfl, q a na⟩
end
section
variable {X : Cx} {kws : List Keyword} {ta tk : TA} {x : Str} {p pos : Pos} {C fI : Addr} {k : Nat} {fd : FuncData} {ps ks : List Str} {sp : Sp} {g : List Value → List Value → List Value} {gV : List V → List V → List V} {CX : CXT}
def tMkOK (C : Addr) (sp : Sp) (gV : List V → List V → List V) (n : Nat) (tk : TA) : L2.St → Hp → XK → Prop := fun σ H Q => tk σ H fun zs H1 => zs.length = n ∧ ∀ a, H1 a = none → sp (gV [.ref a] zs) (upd H1 a (exo a C none))
  (fun v H2 => v = .non ∧ ∃ (d : Addr) (fs : List (Str × V)), H2 a = some (exo a C (some d)) ∧ H2 d = some (exd d fs) ∧ H1 d = none ∧ Q (.ref C) (some d) (upd (del H2 a) d (.xd fs))) (fun _ _ _ => False)
theorem pmk_oexK (TO : OexC X.K C) (iC : PySem.W.findIn X.K (.ref C) "__init__" = some (some (.ref fI))) (tI : PySem.W.typeIn X.K (.ref fI) = some (.type "function"))
    (F1 : FnOk X.prog X.w X.K X.mg X.base CX k fI fd ps sp) (hr : Room (k + 1) X.A) (hb : KBn X.K fd ps 1 ks g gV) (hx : Passes CX X (fun _ _ _ => False)) (hg : Gl X x) (hm : X.mg x = some (.ref C)) (hkw : PK X kws tk)
    (hall : (backToKw pos (keywordEach kws X.env)).all (·.1.isSome) = true := by rfl) (hks : (backToKw pos (keywordEach kws X.env)).filterMap (·.1) = ks := by rfl)
    (hdb : (x == ("__debug__" : Str)) = false := by decide)
    (hpl : ((backTo pos (starEach [] X.env)).any (·.1) || (backToKw pos (keywordEach kws X.env)).any (·.1.isNone)) = false := by rfl) :
    PMk X (.Call (.Name x p) [] kws pos) (tMkOK C sp gV ks.length tk) := by
  intro pins s σ H Q I h
  obtain ⟨nm, q, N, bs, bm, sn, sub, ab, col, dd, k0, k1, k2, k3, k5, hC, hbm⟩ := TO.cls
  refine wpAny_Call_Name_kw (ld_glob I hg hm ?_ hdb)
  refine PySem.W.callWith_KW0 (first := []) (h₀ := X.base) I.ok.mod.kin TO.kC hall (thn (hkw.run pos pins s σ H _ I h) fun ws s1 ⟨zs, H1, I1, rz, hzl, q1⟩ => ⟨I1.kIn, ?_⟩) hpl
  rw [hks]
  show wpAny _ _ (call (.ref C) [] (ks.zip ws)) _ _ _
  obtain ⟨hp, gs, dr, tk', os⟩ := s1
  have bigger : hp.objs.size ≤ hp.objs.size + 1 := Nat.le_succ _
  have fresh : H1 (hp.objs.size + 1) = none := I1.hok.fresh bigger
  have q2 := q1 (hp.objs.size + 1) fresh
  have kp : ∀ b o, hp.get? b = some o → ((hp.push (PySem.W.kdv_tup [])).push (PySem.HandSPX.excO C hp.objs.size)).get? b = some o := fun b o e => Heap.get?_push_of_some _ (Heap.get?_push_of_some _ e)
  have got : ((hp.push (PySem.W.kdv_tup [])).push (PySem.HandSPX.excO C hp.objs.size)).get? (hp.objs.size + 1) = some (PySem.HandSPX.excO C hp.objs.size) := by heap_get
  have I2 : Inv X pins σ (upd H1 (hp.objs.size + 1) (exo (hp.objs.size + 1) C none)) ⟨(hp.push (PySem.W.kdv_tup [])).push (PySem.HandSPX.excO C hp.objs.size), gs, dr, tk', os⟩ :=
    I1.laid (t' := tk') (a := hp.objs.size + 1) (o := exo (hp.objs.size + 1) C none) (h' := (hp.push (PySem.W.kdv_tup [])).push (PySem.HandSPX.excO C hp.objs.size)) kp bigger (exo_ok got)
  have r2 : Vals (gV [V.ref (hp.objs.size + 1)] zs) (g [Value.ref (hp.objs.size + 1)] ws) := hb.rel (.cons rfl .nil) rz
  refine wpAny_call (call_exc_kw F.excBase_ValueError (fun Y => PySem.HandSPX.refsVE_contains Y bm hbm) (I1.kIn _ _ hC) (PySem.W.looks_findIn I1.kIn iC) (fun self => PySem.W.bind_fn I1.kIn self tI)
    (codeAny_mono (F1.run _ X.stack _ _ ⟨[Value.ref (hp.objs.size + 1)], ks.zip ws⟩ (g [Value.ref (hp.objs.size + 1)] ws) _ _ (fun _ _ _ => False) (hr.make C [] (ks.zip ws)) (I2.env0.make C [] (ks.zip ws)) (hb.to _ [Value.ref (hp.objs.size + 1)] ws I2.kIn rfl (by rw [← rz.length]; exact hzl)) r2 q2) fun r s' hq' => ?_))
  cases r with
  | error er => exact hx pins σ _ _ er s' I2 hq'
  | ok fl =>
    cases fl with
    | ret u =>
      obtain ⟨v, H2, os2, bare2, un2, hok2, rv, ev, d, fs, ea, ed, hd1, q3⟩ := hq'
      subst ev
      obtain ⟨h2, g2, d2, t2, os'⟩ := s'
      exact ⟨rv, mk_end (raises_own TO.exC TO.tyC) I1 bigger kp un2 hok2 os2 bare2 ea ed hd1 q3⟩
    | next => exact False.elim hq'
    | brk => exact False.elim hq'
    | cont => exact False.elim hq'
end
end Mb
namespace Mb
open PySem PySem.Spec PyProof.Rows L2
open Evl (Ex)
/-! ### data that an f-string may tell -/
def okSm : D → Bool
  | .int i => decide (i.natAbs.log2 < 1920)
  | .str x => PyData.strOk x && decide (x.length ≤ 1000)
  | _ => false
def okFmtD : D → Bool
  | .non | .bl _ => true
  | .int i => decide (i.natAbs.log2 < 1920)
  | .str x => decide (x.length ≤ 1000)
  | .tup l => decide (l.length ≤ 4) && l.all okSm
  | _ => false
theorem sm_all {K : PySem.W.Frag} {H : Hp} : ∀ {vs : List V} {ds : List D}, IsAll K H vs ds → ds.all okSm = true → ∃ ts, SmAll vs ts
  | _, _, .nil, _ => ⟨[], trivial⟩
  | _, _, .cons (v := v) (d := d) i r, h => by
    rw [List.all_cons, Bool.and_eq_true] at h
    obtain ⟨ts, ht⟩ := sm_all r h.2
    have h1 := h.1
    cases i with
    | int i => exact ⟨_ :: ts, .int i (of_decide_eq_true h1), ht⟩
    | str x =>
      have h1 : (PyData.strOk x && decide (x.length ≤ 1000)) = true := h1
      rw [Bool.and_eq_true] at h1
      refine ⟨_ :: ts, .str x (fun c hc => ?_) (of_decide_eq_true h1.2), ht⟩
      have := h1.1
      unfold PyData.strOk at this
      have := Array.all_eq_true_iff_forall_mem.mp this c (by simpa using hc)
      have := of_decide_eq_true this
      omega
    | _ => cases h1
theorem fmtV_of {K : PySem.W.Frag} {Hs H : Hp} {v : V} {d : D} (ex : Ex Hs H) (i : Is K Hs v d) (h : okFmtD d = true) : fmtV K H v := by
  cases i with
  | non => exact Or.inl rfl
  | bl b => exact Or.inr (Or.inl ⟨b, rfl⟩)
  | int i => exact Or.inr (Or.inr (Or.inr (Or.inl ⟨i, rfl, of_decide_eq_true h⟩)))
  | str x => exact Or.inr (Or.inr (Or.inl ⟨x, rfl, of_decide_eq_true h⟩))
  | @tup a xs ds h1 h2 =>
    have h : (decide (ds.length ≤ 4) && ds.all okSm) = true := h
    rw [Bool.and_eq_true] at h
    obtain ⟨ts, ht⟩ := sm_all h2 h.2
    exact Or.inr (Or.inr (Or.inr (Or.inr ⟨a, xs, ts, rfl, Evl.ex_t ex h1, by rw [h2.length]; exact of_decide_eq_true h.1, ht⟩)))
  | _ => cases h
theorem fmtV_mono {K : PySem.W.Frag} {H H' : Hp} {v : V} (ex : Ex H H') (h : fmtV K H v) : fmtV K H' v := by
  rcases h with h | h | h | h | ⟨a, l, ts, h1, h2, h3⟩
  · exact Or.inl h
  · exact Or.inr (Or.inl h)
  · exact Or.inr (Or.inr (Or.inl h))
  · exact Or.inr (Or.inr (Or.inr (Or.inl h)))
  · exact Or.inr (Or.inr (Or.inr (Or.inr ⟨a, l, ts, h1, Evl.ex_t ex h2, h3⟩)))
/-- an error's class with a field, made as a value -/
structure CalV (P : Program) (wd : World) (K : PySem.W.Frag) (mg : Str → Option Value) (base : Heap) (x : Str) (C : Addr) (fld : Str) (k : Nat) : Prop where
  it : ∃ (D fI : Addr) (fd : FuncData), OexC K C ∧ PySem.W.findIn K (.ref C) "__init__" = some (some (.ref fI)) ∧ PySem.W.typeIn K (.ref fI) = some (.type "function") ∧ FnOk P wd K mg base CX0 k fI fd ["self", fld] (spErrH K D fld (fmtV K)) ∧ Binds K fd ["self", fld] [] ∧ KBn K fd ["self", fld] 1 [fld] (gK 1 [0]) (gK 1 [0]) ∧
    PySem.W.ks_superIn K C D "__init__" = some (some (.builtin "ValueError.__init__")) ∧ PySem.W.mroIn K C (.ref D) = some true ∧ PySem.W.subIn K (.ref C) (.type "ValueError") = some true ∧ PySem.W.findIn K (.ref C) fld = some none
  gl : mg x = some (.ref C)
section
variable {S : Type} {X : Cx} {ρ : Rs S} {W : WX} {e : Expr} {C D0 : Addr} {x fld : Str} {k : Nat} {p pos : Pos} {K : PySem.W.Frag}
/-- the promise of such an __init__ is met, and the error is told on -/
theorem spH_of {Q : XK} {y : V} {H1 : Hp} {a : Addr} (TO : OexC K C) (hs : PySem.W.ks_superIn K C D0 "__init__" = some (some (.builtin "ValueError.__init__"))) (hsub : PySem.W.mroIn K C (.ref D0) = some true) (hB : PySem.W.subIn K (.ref C) (.type "ValueError") = some true) (hno : PySem.W.findIn K (.ref C) fld = some none)
    (py : fmtV K H1 y) (na : H1 a = none) (q : ∀ dx, H1 dx = none → dx ≠ a → Q (.ref C) (some dx) (upd H1 dx (.xd [(fld, y)]))) : spErrH K D0 fld (fmtV K) [.ref a, y] (upd H1 a (exo a C none))
    (fun v H2 => v = .non ∧ ∃ (d : Addr) (fs : List (Str × V)), H2 a = some (exo a C (some d)) ∧ H2 d = some (exd d fs) ∧ H1 d = none ∧ Q (.ref C) (some d) (upd (del H2 a) d (.xd fs))) (fun _ _ _ => False) := by
  refine ⟨a, C, y, rfl, TO, hs, hsub, hB, hno, upd_same, fmtV_mono (fun b o z => by rw [upd_ne (ne_of_none z na)]; exact z) py, fun dx n1 n2 => ?_⟩
  rw [upd_ne n2] at n1
  refine ⟨rfl, dx, [(fld, y)], upd_same, by rw [upd_ne n2, upd_same], n1, ?_⟩
  have eH : upd (del (upd (upd (upd H1 a (exo a C none)) dx (exd dx [(fld, y)])) a (exo a C (some dx))) a) dx (.xd [(fld, y)]) = upd H1 dx (.xd [(fld, y)]) := by
    funext b
    by_cases hb : b = dx
    · subst hb
      rw [upd_same, upd_same]
    · rw [upd_ne hb, upd_ne hb]
      by_cases hba : b = a
      · subst hba
        rw [del_same, na]
      · rw [del_ne hba, upd_ne hba, upd_ne hb, upd_ne hba]
  rw [eH]
  exact q dx n1 n2
/-- what is kept of such an error reads as data -/
theorem err_is {σ : L2.St} {s : S} {Hs H : Hp} {v : V} {d : D} {dx a : Addr} (G : Gd ρ s Hs H) (i : Is K Hs v d) (n : H dx = none) (na : upd H dx (.xd [(fld, v)]) a = none) :
    Gd ρ s (upd (upd Hs dx (.xd [(fld, v)])) a (exT (.ref C) (some dx) a)) (upd (upd H dx (.xd [(fld, v)])) a (exT (.ref C) (some dx) a)) ∧ Rel ρ Hs H (upd (upd Hs dx (.xd [(fld, v)])) a (exT (.ref C) (some dx) a)) (upd (upd H dx (.xd [(fld, v)])) a (exT (.ref C) (some dx) a)) ∧
    Is K (upd (upd Hs dx (.xd [(fld, v)])) a (exT (.ref C) (some dx) a)) (.ref a) (.err C [fld] [d]) := by
  have g1 := G.new (o := .xd [(fld, v)]) n
  have g2 := g1.1.new (o := exT (.ref C) (some dx) a) na
  have r := g1.2.trans g2.2
  refine ⟨g2.1, r, ?_⟩
  have nd : dx ≠ a := fun z => by
    subst z
    rw [upd_same] at na
    cases na
  refine .err (p := some dx) (xs := [v]) upd_same (fun q z => ?_) ⟨fun z => (nomatch z), fun z => (nomatch z)⟩ (.cons (i.mono r.s) .nil)
  cases z
  rw [upd_ne nd, upd_same]
  rfl
def fErrV (C : Addr) (f : String) (fa : F S D) : F S D := fun Γ => bnd (fa Γ) fun d => chk (okFmtD d = true) (ret (.err C [sl f] [d]))
@[simp] theorem fErrV_app {f : String} {fa : F S D} {Γ : Ctx} : fErrV C f fa Γ = bnd (fa Γ) fun d => chk (okFmtD d = true) (ret (.err C [sl f] [d])) := rfl
theorem fe_errV {f : String} {fa : F S D} (c : CalV X.prog X.w X.K X.mg X.base x C f k) (hr : Room (k + 1) X.A) (ha : ME X ρ W e (wF fa)) (hg : Gl X x := by rfl) (hdb : (x == ("__debug__" : Str)) = false := by decide)
    (he : starEach [e] X.env = (false, eval e X.env) :: starEach [] X.env := by rfl) (hpl : (backTo pos (starEach [] X.env)).any (·.1) = false := by rfl) : ME X ρ W (.Call (.Name x p) [e] [] pos) (wF (fErrV C f fa)) := by
  obtain ⟨D0, fI, fd, TO, iC, tI, F, hb, _, hs, hsub, hB, hno⟩ := c.it
  have h := pe_mk (pmk_oex (CX := CX0) (ds := []) (dvs := []) (x := x) (p := p) TO iC tI F hr hb .nil pass0 hg c.gl (pa_cons ha.pe pa_nil he) hdb he hpl)
  refine ⟨h.imp fun σ H Q ⟨H0, Hs, Γ, s, q, rx, G, L, h, kq, xo⟩ => ?_⟩
  simp only [wF, fErrV, post_bnd] at h
  refine ⟨H0, Hs, Γ, s, _, rx, G, L, h, fun v d s1 Hs1 H1 R1 G1 I1 h1 => ?_, xo⟩
  obtain ⟨ok, h1⟩ := post_chk h1
  refine ⟨(by decide : (1 : Nat) ≤ 1000), fun a na => ?_⟩
  refine spH_of (Q := fun cls d H' => ∀ a, H' a = none → Q (.ref a) (upd H' a (exT cls d a))) TO hs hsub hB hno (fmtV_of G1.ex I1 ok) na fun dx n1 n2 a' na' => ?_
  obtain ⟨g, r, i⟩ := err_is (σ := σ) (C := C) G1 I1 n1 na'
  exact kq _ _ s1 _ _ (R1.trans r) g (by rw [sl_eq] at *; exact i) h1
def fErrVK (C : Addr) (f : String) (fl : F S (List D)) : F S D := fun Γ => bnd (fl Γ) fun l => match l with
  | [d] => chk (okFmtD d = true) (ret (.err C [sl f] [d]))
  | _ => mno
@[simp] theorem fErrVK_app {f : String} {fl : F S (List D)} {Γ : Ctx} : fErrVK C f fl Γ = bnd (fl Γ) fun l => match l with
  | [d] => chk (okFmtD d = true) (ret (.err C [sl f] [d]))
  | _ => mno := rfl
theorem fe_errVK {f : String} {fl : F S (List D)} {kws : List Keyword} (c : CalV X.prog X.w X.K X.mg X.base x C f k) (hr : Room (k + 1) X.A) (hw : MKw X ρ W kws (wF fl)) (hg : Gl X x := by rfl)
    (hall : (backToKw pos (keywordEach kws X.env)).all (·.1.isSome) = true := by rfl) (hks : (backToKw pos (keywordEach kws X.env)).filterMap (·.1) = [(f : Str)] := by rfl) (hdb : (x == ("__debug__" : Str)) = false := by decide)
    (hpl : ((backTo pos (starEach [] X.env)).any (·.1) || (backToKw pos (keywordEach kws X.env)).any (·.1.isNone)) = false := by rfl) : ME X ρ W (.Call (.Name x p) [] kws pos) (wF (fErrVK C f fl)) := by
  obtain ⟨D0, fI, fd, TO, iC, tI, F, _, hb, hs, hsub, hB, hno⟩ := c.it
  have h := pe_mk (pmk_oexK (CX := CX0) (x := x) (p := p) TO iC tI F hr hb pass0 hg c.gl hw.pk hall hks hdb hpl)
  refine ⟨h.imp fun σ H Q ⟨H0, Hs, Γ, s, q, rx, G, L, h, kq, xo⟩ => ?_⟩
  simp only [wF, fErrVK, post_bnd] at h
  refine ⟨H0, Hs, Γ, s, _, rx, G, L, h, fun vs l s1 Hs1 H1 R1 G1 I1 h1 => ?_, xo⟩
  split at h1
  · rename_i d
    obtain ⟨ok, h1⟩ := post_chk h1
    cases I1 with
    | @cons v _ _ _ i r =>
      cases r
      refine ⟨rfl, fun a na => ?_⟩
      have eg : gK 1 [0] [V.ref a] [v] = [V.ref a, v] := rfl
      rw [eg]
      refine spH_of (Q := fun cls d H' => ∀ a, H' a = none → Q (.ref a) (upd H' a (exT cls d a))) TO hs hsub hB hno (fmtV_of G1.ex i ok) na fun dx n1 n2 a' na' => ?_
      obtain ⟨g, r, i⟩ := err_is (σ := σ) (C := C) G1 i n1 na'
      exact kq _ _ s1 _ _ (R1.trans r) g (by rw [sl_eq] at *; exact i) h1
  · exact h1.elim
end
end Mb
namespace Mb
open PySem PySem.Spec PyProof.Rows L2
open Evl (Ex)
/-! ### a plain error as a value -/
section
variable {X : Cx} {pins : List (Addr × Obj)} {σ : L2.St} {H : Hp} {s : Shared} {a : Addr}
/-- what is tracked of an object of ours may be told in other words -/
theorem inv_swap {φ ψ : Heap → Prop} (I : Inv X pins σ (upd H a (.ext φ)) s) (na : H a = none) (new : ObjOk X.prog X.w (upd H a (.ext ψ)) s.heap a (.ext ψ)) : Inv X pins σ (upd H a (.ext ψ)) s := by
  have ht : ∀ {b : Addr} {u : HO}, upd H a (.ext φ) b = some u → b ≠ a → upd H a (.ext ψ) b = some u := fun {b u} e ne => by
    rw [upd_ne ne] at e ⊢
    exact e
  have nn : ∀ {b : Addr}, upd H a (.ext φ) b = none → upd H a (.ext ψ) b = none := fun {b} e => by
    by_cases z : b = a
    · subst z
      rw [upd_same] at e
      cases e
    · rw [upd_ne z] at e ⊢
      exact e
  have nt : ∀ {b : Addr} {xs : List V}, upd H a (.ext φ) b = some (.tup xs) → b ≠ a := fun {b xs} e z => by
    subst z
    rw [upd_same] at e
    cases e
  have nf : ∀ {b : Addr} {o : Obj} {u : HO}, upd H a (.ext φ) b = some (.frz o u) → b ≠ a := fun {b o u} e z => by
    subst z
    rw [upd_same] at e
    cases e
  have nb : ∀ {b : Addr} {ps : Array Value}, upd H a (.ext φ) b = some (.tbl ps) → b ≠ a := fun {b ps} e z => by
    subst z
    rw [upd_same] at e
    cases e
  have no : ∀ {b x : Addr}, upd H a (.ext φ) b = some (.own x) → b ≠ a := fun {b x} e z => by
    subst z
    rw [upd_same] at e
    cases e
  refine ⟨I.ok, I.os, I.bare, ⟨I.base.keep, I.base.slot, fun b u e n hx => nn (I.base.free b u e n hx), I.base.there, fun b xs e => ht (I.base.tups b xs e) (nt (I.base.tups b xs e)), fun b u z e => ht (I.base.frzs b u z e) (nf (I.base.frzs b u z e)), fun b ps e => ?_⟩, I.loc, I.cell, nn I.free, fun x c e => nn (I.freeC x c e), fun p hp => ?_, fun b u e => ?_, I.len⟩
  · obtain ⟨m, q⟩ := I.base.tbls b ps e
    exact ⟨m, ht q (nb q)⟩
  · obtain ⟨e1, e2, e3, e4, e5⟩ := I.pin p hp
    exact ⟨e1, nn e2, e3, e4, e5⟩
  · by_cases hb : b = a
    · subst hb
      rw [upd_same] at e
      cases e
      exact new
    · have e' : upd H a (.ext φ) b = some u := by
        rw [upd_ne hb] at e ⊢
        exact e
      exact (I.hok b u e').stay (fun c v _ q => q) (fun c q => ht q (no q)) fun c xs q => ht q (nt q)
end
section
variable {S : Type} {X : Cx} {ρ : Rs S} {W : WX} {e : Expr} {C : Addr} {x : Str} {p pos : Pos} {fa : F S D}
def fErrP (C : Addr) (fa : F S D) : F S D := fun Γ => bnd (fa Γ) fun _ => ret (.err C [] [])
@[simp] theorem fErrP_app {Γ : Ctx} : fErrP C fa Γ = bnd (fa Γ) fun _ => ret (.err C [] []) := rfl
/-- such an error, told in fewer words -/
def swE (C : Addr) (Q : V → Hp → Prop) (v : V) (H2 : Hp) : Prop := ∃ a H1, v = .ref a ∧ H1 a = none ∧ H2 = upd H1 a (ExO (.ref C) a) ∧ Q (.ref a) (upd H1 a (exT (.ref C) none a))
theorem pe_excS {te : TE} (c : ErrC X.K C) (gC : X.mg x = some (.ref C)) (he : PE X e te) (hg : Gl X x := by rfl) (hdb : (x == ("__debug__" : Str)) = false := by decide) (hs : starEach [e] X.env = (false, eval e X.env) :: starEach [] X.env := by rfl) :
    PE X (.Call (.Name x p) [e] [] pos) (fun σ H Q => te σ H fun _ H1 => ∀ a, H1 a = none → swE C Q (.ref a) (upd H1 a (ExO (.ref C) a))) := by
  have h := pe_exc1 (x := x) (p := p) (pos := pos) PySem.F.excBase_ValueError c.q gC c.kp hg he hs hdb
  refine ⟨fun pins s σ H Q I ht => ?_⟩
  refine thn (h.run pins s σ H (swE C Q) I ht) fun u s1 ⟨v, H2, I2, r, a, H1, ev, na, eH, q⟩ => ?_
  subst ev eH
  obtain ⟨⟨oe, vs, ho, hz, hd, h1, _⟩, _, _⟩ := I2.hok a _ upd_same
  exact ⟨.ref a, upd H1 a (exT (.ref C) none a), inv_swap I2 na (exT_ok ho hz hd), r, q⟩
theorem fe_errP (c : ErrC X.K C) (gC : X.mg x = some (.ref C)) (ha : ME X ρ W e (wF fa)) (hg : Gl X x := by rfl) (hdb : (x == ("__debug__" : Str)) = false := by decide) (hs : starEach [e] X.env = (false, eval e X.env) :: starEach [] X.env := by rfl) :
    ME X ρ W (.Call (.Name x p) [e] [] pos) (wF (fErrP C fa)) := by
  refine ⟨(pe_excS c gC ha.pe hg hdb hs).imp fun σ H Q ⟨H0, Hs, Γ, s, q, rx, G, L, h, kq, xo⟩ => ?_⟩
  simp only [wF, fErrP, post_bnd] at h
  refine ⟨H0, Hs, Γ, s, _, rx, G, L, h, fun v d s1 Hs1 H1 R1 G1 I1 h1 a na => ?_, xo⟩
  have g := G1.new (o := exT (.ref C) none a) na
  exact ⟨a, H1, rfl, na, rfl, kq _ _ s1 _ _ (R1.trans g.2) g.1 (.err (p := none) upd_same (fun q z => nomatch z) ⟨fun _ => rfl, fun _ => rfl⟩ .nil) h1⟩
end
end Mb
namespace Mb
open PySem PySem.Spec PyProof.Rows L2
open Evl (Ex)
/-! ### lists of numbers -/
def toInts : List D → Option (List Int)
  | [] => some []
  | .int i :: l => (toInts l).map (i :: ·)
  | _ :: _ => none
@[simp] theorem toInts_map : ∀ ns : List Int, toInts (ns.map D.int) = some ns
  | [] => rfl
  | n :: ns => by simp [toInts, toInts_map ns]
def remD (l : List D) (d : D) : Option (List D) := match d with
  | .int k => (toInts l).bind fun ns => if k ∈ ns then some ((ns.erase k).map D.int) else none
  | _ => none
def idxD (d k : D) : Option D := match d, k with
  | .lst l, .int k => (toInts l).bind fun ns => if k ∈ ns then some (.int (ns.idxOf k : Nat)) else none
  | _, _ => none
section
variable {S : Type} {X : Cx} {ρ : Rs S} {W : WX} {e o : Expr} {fa fb : F S D} {p p2 p3 p4 pos : Pos}
/-- xs.remove(e), xs of one's own -/
def tRem (i : Nat) (fa : F S D) : T S := fun Γ s => match Γ[i]? with
  | some (.ow .lst l) => (fa Γ s).run Γ fun d s1 => match remD l d with
    | some l' => .nx (Γ.set i (.own l')) s1
    | none => .no
  | _ => .no
@[simp] theorem tRem_app {i : Nat} {fa : F S D} {Γ : Ctx} {s : S} : tRem i fa Γ s = match Γ[i]? with
  | some (.ow .lst l) => (fa Γ s).run Γ fun d s1 => match remD l d with
    | some l' => .nx (Γ.set i (.own l')) s1
    | none => .no
  | _ => .no := rfl
/-! ### xs.index(k) -/
def fIdx (fo fa : F S D) : F S D := fun Γ => bnd (fo Γ) fun d => match d with
  | .lst l => bnd (fa Γ) fun k => opt (idxD (.lst l) k)
  | _ => mno
@[simp] theorem fIdx_app {fo fa : F S D} {Γ : Ctx} : fIdx fo fa Γ = bnd (fo Γ) fun d => match d with
  | .lst l => bnd (fa Γ) fun k => opt (idxD (.lst l) k)
  | _ => mno := rfl
/-! ### xs + ys, kept as one's own -/
def fAddO (fo fa : F S D) : F S (List D) := fun Γ => bnd (fo Γ) fun d => bnd (fa Γ) fun e => match d, e with
  | .lst l, .lst m => chk (l.length + m.length ≤ 1000000) (ret (l ++ m))
  | _, _ => mno
@[simp] theorem fAddO_app {fo fa : F S D} {Γ : Ctx} : fAddO fo fa Γ = bnd (fo Γ) fun d => bnd (fa Γ) fun e => match d, e with
  | .lst l, .lst m => chk (l.length + m.length ≤ 1000000) (ret (l ++ m))
  | _, _ => mno := rfl
/-- xs + e, xs of one's own -/
def fCatV (i : Nat) (fa : F S D) : F S (List D) := fun Γ s => match Γ[i]? with
  | some (.ow .lst l) => bnd (fa Γ) (fun d => match d with
    | .lst m => chk (l.length + m.length ≤ 1000000) (ret (l ++ m))
    | _ => mno) s
  | _ => .no
@[simp] theorem fCatV_app {i : Nat} {fa : F S D} {Γ : Ctx} {s : S} : fCatV i fa Γ s = match Γ[i]? with
  | some (.ow .lst l) => bnd (fa Γ) (fun d => match d with
    | .lst m => chk (l.length + m.length ≤ 1000000) (ret (l ++ m))
    | _ => mno) s
  | _ => .no := rfl
theorem fo_catV (i : Nat) {x : Str} (ha : ME X ρ W e (wF fa)) (hN : X.N[i]? = some x := by rfl) (hv : Vis X.env.scope x := by first | exact Or.inl rfl | exact Or.inr (Or.inl rfl) | exact Or.inr (Or.inr rfl)) (hd : (x == ("__debug__" : Str)) = false := by decide)
    (hcd : (x == ("__classdict__" : Str)) = false := by decide) : MO X ρ W (.BinOp (.Name x p) .Add e pos) (wF (fCatV i fa)) :=
  ⟨(pe_op op_cat (pv i hN hv hd hcd) ha.pe).imp fun σ H Q ⟨H0, Hs, Γ, s, q, rx, G, L, h, k, xo⟩ => by
    unfold wF fCatV at h
    split at h
    case h_2 => exact h.elim
    rename_i l hl
    rw [post_bnd] at h
    obtain ⟨a, vs, e0, hav, hvs, hn, h0, ho⟩ := L.getOwn hl
    refine ⟨_, e0, H0, Hs, Γ, s, _, rx, G, L, h, fun v d s1 Hs1 H1 R1 G1 I1 h1 => ?_, xo⟩
    split at h1
    case h_2 => exact h1.elim
    rename_i m
    obtain ⟨hz, h1⟩ := post_chk h1
    cases I1 with
    | @lst _ us _ hq hv2 =>
      refine ⟨a, _, vs, us, rfl, rfl, R1.h a _ ho hav, G1.ex _ _ hq, by rw [hvs.length, hv2.length, sizeLine_eq]; omega, fun pp hp => ?_⟩
      have n := G1.put (o := .lst (vs ++ us)) hp
      exact k pp _ _ s1 Hs1 _ (R1.trans n.2) n.1 upd_same ((hvs.mono R1.s).app hv2) (G1.freeS hp) (back_none R1 hp) h1⟩
/-! ### str(i) -/
end
end Mb
namespace Mb
open PySem PySem.Spec PyProof.Rows L2
/-! ### a number that an error tells -/
def okN : D → Bool
  | .int i => decide (i.natAbs < 1000000000)
  | _ => false
@[simp] theorem okN_int {i : Int} : okN (.int i) = decide (i.natAbs < 1000000000) := rfl
end Mb
namespace Mb
open PySem PySem.Spec PyProof.Rows L2
/-! ### an error's class, by what the written part says -/
def oexB (K : PySem.W.Frag) (C : Addr) : Bool := match K.lookup C with
  | some ⟨.type "type", _, .cls cd, sl⟩ => (match cd.mro, sl.toList with
    | .ref C' :: bm, [_, _, _, _, some (.builtin n), _] => C' == C && n == "ValueError.__new__" && !cd.hasDel && cd.hasDict && PySem.HandSPX.refsVE bm
    | _, _ => false)
  | _ => false
theorem oexB_cls {K : PySem.W.Frag} {C : Addr} (q : oexB K C = true) : ∃ nm q N bs bm sn sub ab col dd k0 k1 k2 k3 k5, K.lookup C = some (excClassObj nm q C N bs bm true sn sub ab col dd k0 k1 k2 k3 k5 "ValueError.__new__") ∧ PySem.HandSPX.refsVE bm = true := by
  unfold oexB at q
  split at q
  · rename_i dd cd sl ho
    split at q
    · rename_i C' bm k0 k1 k2 k3 n k5 hm hs
      simp only [Bool.and_eq_true, beq_iff_eq, Bool.not_eq_true'] at q
      obtain ⟨⟨⟨⟨rfl, rfl⟩, hdel⟩, hdct⟩, ht⟩ := q
      obtain ⟨nm, bs, mro, ns, qn, hd, sn, sub, ab, col, del⟩ := cd
      dsimp only at hm hdel hdct
      subst hm hdel hdct
      have hsl : sl = #[k0, k1, k2, k3, some (.builtin "ValueError.__new__"), k5] := by
        obtain ⟨l⟩ := sl
        simp only at hs
        rw [hs]
      subst hsl
      exact ⟨nm, qn, ns, bs, bm, sn, sub, ab, col, dd, k0, k1, k2, k3, k5, ho, ht⟩
    · cases q
  · cases q
theorem sup_mk {K : PySem.W.Frag} {P : Program} {mg : Str → Option Value} {f cda cc D : Addr} {x qual : Str} {st : Stmt} {kV doc pm ct oc oc2 oc3 : Value} {an od od2 od3 : Option Addr} {osl osl2 osl3 : Array (Option Value)} {vs2 : Array Value} {file : Str} {tf : Tok} {cd : ClassData} {ar : Arg}
    (lk : K.lookup f = some ⟨oc, od, .func (PySem.W.ksFn x qual (defArgs st) (defBody st) (defScope st) .none kV doc pm an (.ref cda) ct cc), osl⟩) (hp : ((defArgs st).posonlyargs ++ (defArgs st).args).head? = some ar) (har : ar.arg = "self")
    (l2 : K.lookup cda = some ⟨oc2, od2, .fields vs2, osl2⟩) (h2 : vs2[2]? = some (.str file tf)) (hf : ((P.main.file : Str) == file) = true) (l3 : K.lookup cc = some ⟨oc3, od3, .cell (some (.ref D)), osl3⟩) (hd : PySem.W.clsIn K D = some cd) (hm : mg "super" = none)
    (ht : (P.main.scope.names.lookup ("super" : Str)).isSome = false) (ho : PySem.W.nsIn K cStatics "thirdparty.any" = some none) : SupT K P mg f cda cc D "self" :=
  ⟨⟨oc, od, _, osl, ar, lk, hp, har⟩, ⟨oc2, od2, vs2, osl2, file, tf, l2, h2, hf⟩, ⟨oc3, od3, osl3, l3⟩, ⟨cd, hd⟩, hm, ht, ho⟩
end Mb
namespace Mb
open PySem PySem.Spec PyProof.Rows L2
open Evl (Ex)
/-! ### isinstance of a caught error with its field, a tuple of classes -/
section
variable {S : Type} {X : Cx} {ρ : Rs S} {W : WX} {K : PySem.W.Frag} {a : Expr} {fa : F S D} {x y : Str} {p p1 p2 p3 pos : Pos} {C1 C2 : Addr} {j : Nat}
end
end Mb
namespace Mb
open PySem PySem.Spec PyProof.Rows L2
/-! ### many errors' classes at once -/
section
variable {K : PySem.W.Frag} {cs : List Addr} {c C D : Addr} {v : Value}
def kitsB (K : PySem.W.Frag) (cs : List Addr) : Bool := cs.all fun D => cs.all fun c => decide (PySem.W.kitOne K (.ref D) (.ref c) = some (D == c))
def kitsV (K : PySem.W.Frag) (cs : List Addr) (v : Value) : Bool := cs.all fun D => decide (PySem.W.kitOne K (.ref D) v = some true)
def excB (K : PySem.W.Frag) (C : Addr) : Bool := decide (PySem.W.findIn K (.ref C) "__getattribute__" = some (some (.builtin "BaseException.__getattribute__"))) && (decide (PySem.W.findIn K (.ref C) "__getattr__" = some none) && (decide (PySem.W.subIn K (.ref C) (.type "BaseException") = some true) && (PySem.W.hasDictIn K C &&
  (decide (PySem.W.findIn K (.ref C) "__class__" = some (some (.builtin "object.__class__"))) && (decide (PySem.W.specialIn K (.builtin "object.__class__") "__get__" = some (some (.builtin "getset_descriptor.__get__"))) && (decide (PySem.W.takesIn K (.builtin "object.__class__") = some true) && decide (PySem.W.mroIn K C (.type "object") = some true)))))))
def excsB (K : PySem.W.Frag) (cs : List Addr) : Bool := cs.all (excB K)
theorem exc_of (h : excB K C = true) : ExcC K C := by
  unfold excB at h
  simp only [Bool.and_eq_true, decide_eq_true_eq] at h
  obtain ⟨h1, h2, h3, h4, h5, h6, h7, h8⟩ := h
  exact ⟨h1, h2, h3, h4, h5, h6, h7, h8⟩
theorem exc_at (h : excsB K cs = true) (hC : C ∈ cs) : ExcC K C := exc_of (List.all_eq_true.mp h C hC)
theorem xf_at (h : excsB K cs = true) (hC : C ∈ cs) : XfC K C := by
  have e := exc_at h hC
  exact ⟨e.hg, e.hk, e.hs, e.hd⟩
theorem kits_at (h : kitsB K cs = true) (hx : excsB K cs = true) (hc : c ∈ cs) : ∀ D b, (D, b) ∈ cs.map (fun D => (D, D == c)) → ExcC K D ∧ PySem.W.kitOne K (.ref D) (.ref c) = some b := fun D b hm => by
  obtain ⟨D', hD, e⟩ := List.mem_map.mp hm
  cases e
  exact ⟨exc_at hx hD, of_decide_eq_true (List.all_eq_true.mp (List.all_eq_true.mp h _ hD) c hc)⟩
theorem kitv_at (h : kitsV K cs v = true) (hx : excsB K cs = true) : ∀ D b, (D, b) ∈ cs.map (fun D => (D, true)) → ExcC K D ∧ PySem.W.kitOne K (.ref D) v = some b := fun D b hm => by
  obtain ⟨D', hD, e⟩ := List.mem_map.mp hm
  cases e
  exact ⟨exc_at hx hD, of_decide_eq_true (List.all_eq_true.mp h _ hD)⟩
theorem look_at {f : Addr → Bool} : ∀ {cs : List Addr}, D ∈ cs → (cs.map fun D => (D, f D)).lookup D = some (f D)
  | c :: cs, h => by
    rw [List.map_cons, List.lookup_cons]
    by_cases z : D = c
    · subst z
      rw [beq_self_eq_true]
    · rw [beq_false_of_ne z]
      exact look_at (List.mem_of_ne_of_mem z h)
theorem calV_mk {P : Program} {wd : World} {mg : Str → Option Value} {base : Heap} {x fld : Str} {fI : Addr} {fd : FuncData} (hox : oexB K C = true) (sa : PySem.W.findIn K (.ref C) "__setattr__" = some (some (.builtin "object.__setattr__"))) (exC : PySem.W.subIn K (.ref C) (.type "BaseException") = some true)
    (tyC : PySem.W.typeIn K (.ref C) = some (.type "type")) (kC : PySem.W.keepIn K (.ref C) = true) (hi : PySem.W.findIn K (.ref C) "__init__" = some (some (.ref fI))) (hti : PySem.W.typeIn K (.ref fI) = some (.type "function")) (F : FnOk P wd K mg base CX0 1 fI fd ["self", fld] (spErrH K C fld (fmtV K)))
    (b : Binds K fd ["self", fld] []) (bk : KBn K fd ["self", fld] 1 [fld] (gK 1 [0]) (gK 1 [0])) (su : PySem.W.ks_superIn K C C "__init__" = some (some (.builtin "ValueError.__init__"))) (mr : PySem.W.mroIn K C (.ref C) = some true) (sb : PySem.W.subIn K (.ref C) (.type "ValueError") = some true) (ff : PySem.W.findIn K (.ref C) fld = some none) (gl : mg x = some (.ref C)) : CalV P wd K mg base x C fld 1 :=
  ⟨⟨C, fI, fd, ⟨oexB_cls hox, sa, exC, tyC, kC⟩, hi, hti, F, b, bk, su, mr, sb, ff⟩, gl⟩
end
end Mb
namespace Mb
open PySem PySem.Spec PyProof.Rows L2
open Evl (Ex)
/-! ### defs that are entered while no built-in guards against coming back (what repr asks for) -/
structure FnG (P : Program) (w : World) (K : PySem.W.Frag) (mg : Str → Option Value) (base : Heap) (CX : CXT) (k : Nat) (f : Addr) (fd : FuncData) (ps : List Str) (sp : Sp) : Prop where
  len : ∀ vs H Q E, sp vs H Q E → vs.length = ps.length
  run : ∀ (A : Around) (outer : List Env) (s : Shared) (H : Hp) (args : Args) (us : List Value) (vs : List V) (Q : VK) (E : XK), A.guards = some [] → Room k A → Env0 P w K mg base A outer s H → BindsTo s fd args (ps.zip us) → Vals vs us → sp vs H Q E →
    codeAny (model P w) A (.call (.ref f) args) (CR CX outer P w H s Q E) s
theorem _root_.L2.FnOk.g {P : Program} {w : World} {K : PySem.W.Frag} {mg : Str → Option Value} {base : Heap} {CX : CXT} {k : Nat} {f : Addr} {fd : FuncData} {ps : List Str} {sp : Sp} (F : FnOk P w K mg base CX k f fd ps sp) : FnG P w K mg base CX k f fd ps sp :=
  ⟨F.len, fun A outer s H args us vs Q E _ => F.run A outer s H args us vs Q E⟩
theorem okG {P : Program} {w : World} {K : PySem.W.Frag} {mg : Str → Option Value} {base : Heap} {x qual : Str} {st : Stmt} {f : Addr} {fd : FuncData} {N ps : List Str} {k : Nat} {sp : Sp} (F : Fun K x qual st f fd) (S : FnScope N ps (defScope st)) (len : ∀ vs H Q E, sp vs H Q E → vs.length = ps.length)
    (hbody : ∀ (cdv : Value) (A : Around) (outer : List Env) (s : Shared) (H : Hp) (vs : List V) (Q : VK) (E : XK), A.guards = some [] → Room k (A.deeper (envOfC qual (defScope st) s.heap.objs.size f cdv)) → sp vs H Q E →
      ∃ t, PSs (cxOf CX0 P w K mg base N qual (defScope st) f cdv A outer s H E).nox (defBody st) t ∧ t { nx := fun _ H' => Q .non H', rt := Q } (L2.start N vs) H) : FnG P w K mg base CX0 (k + 1) f fd ps sp := by
  obtain ⟨oc, od, kV, doc, pm, an, cdv, ct, osl, rfl, lk, hcd⟩ := F.ex
  refine ⟨len, fun A outer s H args us vs Q E hgd hr e0 hb r hsp => ?_⟩
  have hl := len _ _ _ _ hsp
  have old : ∀ b o, base.get? b = some o → s.heap.get? b = some o := fun b o e => (e0.bs b o e).1
  have KX : K.In s.heap := e0.mod.kin.keeps old
  refine codeAny_call_function hr.depth (KX _ _ lk) rfl S.co S.gen rfl (PySem.W.codeRec_of KX hcd) (hb _ _ _ _ (wpAny_newFunctionEnv_cells S.kind (fun y hy => ?_) fun env he s1 x => ?_))
  · rcases S.par y.1 (List.of_mem_zip hy).1 with q | q
    · exact .inl q
    · exact .inr ⟨q, PySem.W.cellsFrom_some _ _ _ (.inl q)⟩
  subst he
  refine ⟨(e0.mod.nolimit.keeps old).keeps x.toInCall.keep, codeAny_func ?_⟩
  obtain ⟨t, ht, hq⟩ := hbody cdv A outer s H vs Q E hgd (hr.deeper _) hsp
  have I : Inv (cxOf CX0 P w K mg base N qual (defScope st) f cdv A outer s H E) [] (L2.start N vs) H s1 := inv_start S hr.hd e0 hl r x
  refine wpAny_mono (ht.nox.run [] s1 (L2.start N vs) H _ I hq) (fun fl s' hs => ?_) fun e s' hs => hs
  cases fl with
  | ret u =>
    obtain ⟨v, σ', H', J, rv, q⟩ := hs
    exact ⟨v, H', J.os, J.bare, J.base, J.hok, rv, q⟩
  | next =>
    obtain ⟨σ', H', J, q⟩ := hs
    exact ⟨.non, H', J.os, J.bare, J.base, J.hok, rfl, q⟩
  | brk =>
    obtain ⟨_, _, _, q⟩ := hs
    exact q.elim
  | cont =>
    obtain ⟨_, _, _, q⟩ := hs
    exact q.elim
/-- the top's call of the law -/
theorem law_callG {P : Program} {w : World} {K : PySem.W.Frag} {mg mb : Str → Option Value} {k : Nat} {fa a : Addr} {fd : FuncData} {x : Str} {sp : Sp} {s₁ : Shared} {vs : List Value} {ns : List Int}
    (KX : K.In s₁.heap) (hns : s₁.heap.Ns mainGlobals mg) (hb : s₁.heap.Ns builtinsNs mb) (hbb : ∀ x : Str, x ≠ "__name__" → mb x = bootBuiltins x) (hlim : s₁.heap.NoLimit) (hg : s₁.gens = #[])
    (ha : s₁.heap.get? a = some { cls := .type "list", data := .seq vs.toArray }) (hi : IntsAre vs ns) (hl : ns.length ≤ sizeLine) (hr : Room k callerA)
    (F : ∀ base : Heap, K.In base → base.Ns mainGlobals mg → FnG P w K mg base CX0 k fa fd [x] sp) (hbind : ∀ (s : Shared) (u : Value), BindsTo s fd ⟨[u], []⟩ [(x, u)])
    (hsp : ∀ H : Hp, Only H → SqL K H a (ns.map V.int) → sp [.ref a] H (fun v _ => v = .bl true) fun _ _ _ => False) :
    codeAny (model P w) callerA (.call (.ref fa) ⟨[.ref a], []⟩) (fun r s' => r = .ok (.ret (.bool true)) ∧ OldK s₁.heap s'.heap ∧ s'.os = s₁.os ∧ AllBare s'.gens) s₁ := by
  have rv := vals_ints hi
  obtain ⟨H, hO, hS, hok, hA, hK⟩ : ∃ H : Hp, Only H ∧ SqL K H a (ns.map V.int) ∧ L2.HOk P w H s₁.heap ∧ (∀ b, H b ≠ none → b = a) ∧ (H a ≠ none → K.lookup a = none) := by
    cases hk : K.lookup a with
    | some o =>
      have e := (KX a o hk).symm.trans ha
      have e := Option.some.inj e
      subst e
      exact ⟨fun _ => none, fun _ => .inl rfl, .inr ⟨_, vs.toArray, _, hk, rfl, rfl, rfl, by rw [List.size_toArray, hi.length]; exact hl, by simpa using rv⟩, (fun b u z => by
        have z' : (none : Option HO) = some u := z
        cases z'), fun b z => absurd rfl z, fun z => absurd rfl z⟩
    | none =>
      have same : (upd (fun _ => none) a (.frz { cls := .type "list", data := .seq vs.toArray } (.lst (ns.map V.int))) : Hp) a = some (.frz { cls := .type "list", data := .seq vs.toArray } (.lst (ns.map V.int))) := upd_same
      refine ⟨upd (fun _ => none) a (.frz { cls := .type "list", data := .seq vs.toArray } (.lst (ns.map V.int))), fun b => ?_, .inl (.inr ⟨_, same⟩), fun b u z => ?_, fun b z => ?_, fun _ => rfl⟩
      · by_cases e : b = a
        · subst e
          exact .inr ⟨_, _, same⟩
        · exact .inl (upd_ne e)
      · by_cases e : b = a
        · subst e
          have z' := Option.some.inj (same.symm.trans z)
          subst z'
          exact ⟨ha, by rw [List.length_map]; exact hl, vs, _, rv, ha⟩
        · rw [upd_ne e] at z
          cases z
      · exact Decidable.byContradiction fun e => z (upd_ne e)
  have hid : ∀ {b : Addr} {o : Obj}, s₁.heap.get? b = some o → H b = none → (hidT s₁.heap H).get? b = some o := fun e n => hidT_get e n
  have offD : ∀ {b : Addr} {o : Obj} {es : Array DictEntry} {ep : Nat}, s₁.heap.get? b = some o → o.data = .dict es ep → H b = none := fun {b o es ep} e d => Decidable.byContradiction fun n => by
    have eb := hA b n
    subst eb
    have eo := Option.some.inj (e.symm.trans ha)
    subst eo
    cases d
  have nsK : ∀ {b : Addr} {m : Str → Option Value}, s₁.heap.Ns b m → (hidT s₁.heap H).Ns b m := fun {b m} ⟨o, es, ep, e, d, r⟩ => ⟨o, es, ep, hid e (offD e d), d, r⟩
  have hKb : K.In (hidT s₁.heap H) := fun b o e => hid (KX b o e) (Decidable.byContradiction fun n => by
    have eb := hA b n
    subst eb
    rw [hK n] at e
    cases e)
  have hM : Mod K mg (hidT s₁.heap H) := ⟨hKb, nsK hns, ⟨mb, nsK hb, hbb⟩, let ⟨mc, h1, h2⟩ := hlim; ⟨mc, nsK h1, h2⟩⟩
  have e0 : Env0 P w K mg (hidT s₁.heap H) callerA [] s₁ H := ⟨rfl, hM, fun b o e => of_hidT e, Nat.le_of_eq (hidT_size _ _), trivial, fun b hb => absurd hb List.not_mem_nil, hok, .of_eq hg⟩
  refine codeAny_mono ((F _ hKb (nsK hns)).run callerA [] s₁ H ⟨[.ref a], []⟩ [.ref a] [.ref a] _ _ rfl hr e0 (hbind s₁ (.ref a)) (.cons rfl .nil) (hsp H hO hS)) fun r s' h => ?_
  cases r with
  | error e => exact h.elim
  | ok fl =>
    cases fl with
    | next => exact h.elim
    | brk => exact h.elim
    | cont => exact h.elim
    | ret u =>
      obtain ⟨v, H', os, bare, un, hok', r', q⟩ := h
      have q' : v = .bl true := q
      subst q'
      have r2 : u = Value.bool true := r'
      subst r2
      refine ⟨rfl, OldK.of_keep fun b o e => ?_, os, bare⟩
      cases q : H b with
      | none => exact un.keep b o e q List.not_mem_nil List.not_mem_nil
      | some z =>
        rcases hO b with n | ⟨ob, xs, z2⟩
        · rw [q] at n
          cases n
        · obtain ⟨e1, _⟩ := hok b _ z2
          obtain ⟨e2, _⟩ := hok' b _ (un.frzs b ob _ z2)
          have eo := Option.some.inj (e.symm.trans e1)
          rw [eo]
          exact e2
theorem walk_ofG {l : PySem.W.OpenLaw} {n k : Nat} {q : Program} {loose : List Str} {XP : (Str → Option Value) → Heap → Prop} {YP : World → Heap → Prop} {d : DefRec} {K : Params → PySem.W.Frag} {sp : World → Sp} {x : Str}
    (hn : l.most = some n) (hn2 : n ≤ sizeLine) (hdf : d.params.defaults = []) (hr : Room k callerA)
    (hY : ∀ (w : World) (h : Heap), YP w h → (K w.params).In h)
    (F : ∀ (w : World) (mg : Str → Option Value) (fa : Addr) (h : Heap), (K w.params).In h → h.Ns mainGlobals mg → mg d.name = some (.ref fa) →
      ∃ fd : FuncData, (∀ (s : Shared) (u : Value), BindsTo s fd ⟨[u], []⟩ [(x, u)]) ∧
        ∀ base : Heap, (K w.params).In base → base.Ns mainGlobals mg → FnG l.prog w (K w.params) mg base CX0 k fa fd [x] (sp w))
    (hsp : ∀ (w : World) (H : Hp) (a : Addr) (ns : List Int), ns.length ≤ n → Only H → SqL (K w.params) H a (ns.map V.int) → sp w [.ref a] H (fun v _ => v = .bl true) fun _ _ _ => False) :
    PySem.W.WalkO q loose XP YP l.row.toRowW d [] (fun f vs => PySem.call f vs) := by
  refine Att.attach_call hn hdf fun w s₀ s₁ mg mb fa o pm cd doc a vs ns G Y ho hd hcd hmg hobj hints hlen hg => ?_
  have KX := hY w _ Y
  obtain ⟨fd, hb, hF⟩ := F w mg fa _ KX G.T.g hmg
  exact law_callG KX G.T.g G.T.b G.T.builtins G.T.nolimit hg hobj hints (Nat.le_trans hlen hn2) hr hF hb fun H hO hS => hsp w H a ns hlen hO hS
end Mb
namespace Mb
open PySem PySem.Spec PyProof.Rows L2
open Evl (Ex)
/-! ### repr of a list or a tuple of data -/
def rRepr (K : PySem.W.Frag) : List V → Hp → VK → Prop := fun vs H Q => ∃ (a : Addr) (d : PyData), vs = [V.ref a] ∧ Dp K H (.ref a) d ∧ d.showable = true ∧ d.hasDict = false ∧ d.depth ≤ 60 ∧ d.shown.length ≤ 1000000 ∧ Q (.str d.shown) H
theorem cr_repr {X : Cx} (hu : X.A.units + 65 < cLine) (hg : X.A.guards = some []) : CallR X (.builtin "repr") (rRepr X.K) := by
  intro pins s σ H vs us Q I r ⟨a, d, e0, hd, hs, hn, hdp, hz, q⟩
  subst e0
  rw [Vals.ref1 r]
  obtain ⟨as, rd⟩ := Dp.reads I d _ _ hd (show RelV (.ref a) (.ref a) from rfl)
  refine repr_of_reads' rd hs (PyData.noDict_hsm hn) hg (by omega) (fun _ _ e => e) (fun h' u tk hk => ?_) (by rw [sizeLine_eq]; omega)
  exact ⟨.str d.shown, H, I.kept (t' := tk) hk, ⟨u, rfl⟩, q⟩
/-! what can be shown, of at most this weight -/
structure ShowOk (d : D) (n : Nat) : Prop where
  short : d.py.leavesShort 40 = true
  show_ : d.py.showable = true
  wt : d.py.weight ≤ n
theorem ShowOk.mono {d : D} {n m : Nat} (h : ShowOk d n) (e : n ≤ m) : ShowOk d m := ⟨h.short, h.show_, Nat.le_trans h.wt e⟩
theorem sh_str {x : Str} {n : Nat} (h : PyData.strOk x = true) (hl : x.length ≤ n) : ShowOk (.str x) n := by
  refine ⟨?_, rfl, hl⟩
  show PyData.leavesShort 40 (.str x) = true
  simp only [PyData.leavesShort, List.all_eq_true, decide_eq_true_eq]
  intro c hc
  unfold PyData.strOk at h
  rw [Array.all_eq_true'] at h
  have := h c (by simpa using hc)
  have := of_decide_eq_true this
  omega
theorem sh_int {i : Int} {n : Nat} (h : i.natAbs < 65536) (hn : 17 ≤ n) : ShowOk (.int i) n := by
  have hl : i.natAbs.log2 < 17 := by
    by_cases e : i.natAbs = 0
    · rw [e]
      decide
    · exact (Nat.log2_lt e).mpr (by omega)
  refine ⟨?_, ?_, ?_⟩
  · show PyData.leavesShort 40 (.int i) = true
    simp only [PyData.leavesShort, decide_eq_true_eq]
    have := int_text_length_le (a := i) (k := 17) (by decide) hl
    have e : (PyData.shown (.int i)).length = (toString i).length := by
      show (Str.ofString (toString i)).length = _
      exact PySem.ofString_length _
    omega
  · show decide (i.natAbs.log2 < 1920) = true
    exact decide_eq_true (by omega)
  · show (if i == 0 then 0 else i.natAbs.log2 + 1) ≤ n
    split <;> omega
theorem sh_all : ∀ {l : List D} {n : Nat}, (∀ d ∈ l, ShowOk d n) → PyData.leavesShortAll 40 (D.pys l) = true ∧ PyData.showableAll (D.pys l) = true ∧ PyData.weightAll (D.pys l) ≤ l.length * (n + 1)
  | [], _, _ => ⟨rfl, rfl, Nat.zero_le _⟩
  | d :: l, n, h => by
    obtain ⟨a, b, c⟩ := sh_all (l := l) fun e he => h e (List.mem_cons_of_mem _ he)
    obtain ⟨a1, b1, c1⟩ := h d List.mem_cons_self
    have e : D.pys (d :: l) = d.py :: D.pys l := rfl
    rw [e, PyData.leavesShortAll, PyData.showableAll, PyData.weightAll, a, b, a1, b1]
    refine ⟨rfl, rfl, ?_⟩
    rw [List.length_cons, Nat.add_mul]
    omega
theorem sh_tup {l : List D} {n m : Nat} (h : ∀ d ∈ l, ShowOk d n) (e : l.length * (n + 1) ≤ m) : ShowOk (.tup l) m := by
  obtain ⟨a, b, c⟩ := sh_all h
  exact ⟨a, b, Nat.le_trans c e⟩
/-! ### the mirror -/
def shD (d : D) : Str := d.py.shown
def okShow (d : D) : Bool := D.pl 60 d && (d.py.leavesShort 40 && (d.py.showable && decide (d.py.weight ≤ 20000)))
theorem okShow_of {d : D} (h : ShowOk d 20000) (p : D.pl 60 d = true) : okShow d = true := by
  unfold okShow
  rw [p, h.short, h.show_, decide_eq_true h.wt]
  rfl
def gRepr : G1 := fun ds q => ∃ d l, ds = [d] ∧ (d = .lst l ∨ d = .tup l) ∧ okShow d = true ∧ q (.str (shD d))
theorem snd_repr {K : PySem.W.Frag} : SndC K (rRepr K) gRepr := fun Hs H xs ds q Q ex ia ⟨d, l, e, hd, ok, h⟩ k _ => by
  subst e
  obtain ⟨x, rfl, i1⟩ := one_arg ia
  unfold okShow at ok
  simp only [Bool.and_eq_true, decide_eq_true_eq] at ok
  obtain ⟨p, s1, s2, w⟩ := ok
  have P := pl_of 60 _ p
  obtain ⟨c1, c2⟩ := P.can
  have z := PyData.shown_le 40 (by decide) d.py s1
  have i2 := (i1.mono ex).dp P
  have fin : ∃ a, x = .ref a := by
    rcases hd with rfl | rfl
    · cases i1
      exact ⟨_, rfl⟩
    · cases i1
      exact ⟨_, rfl⟩
  obtain ⟨a, rfl⟩ := fin
  exact ⟨a, d.py, rfl, i2, s2, PyData.hasDict_of_canLay _ c1, c2, by omega, k _ _ h (.str _)⟩
/-- two texts compared, whatever they are -/
def gNeS : G2 := fun d e q => ∃ x y : Str, d = .str x ∧ e = .str y ∧ q (.bl (!decide (x = y)))
@[simp] def pNeS : D → D → Option D
  | .str x, .str y => some (.bl (!decide (x = y)))
  | _, _ => none
theorem br_neS : Br2 gNeS pNeS := fun d e v q h k => by
  unfold pNeS at h
  split at h
  · cases h
    exact ⟨_, _, rfl, rfl, k⟩
  · cases h
theorem snd_neS {K : PySem.W.Frag} : SndB K rNe gNeS := fun Hs H x y d e q Q ex i1 i2 ⟨a, b, e1, e2, h⟩ k _ => by
  subst e1 e2
  cases i1
  cases i2
  refine ⟨rfl, ?_⟩
  have e : decide (V.str a = V.str b) = decide (a = b) := by
    rw [Bool.eq_iff_iff]
    simp
  rw [e]
  exact k _ _ h (.bl _)
end Mb
namespace Mb
open PySem PySem.Spec PyProof.Rows L2
open Evl (Ex)
/-! ### repr of data of any kind: scalars, lists and tuples, the empty dict -/
def rReprA (K : PySem.W.Frag) : List V → Hp → VK → Prop := fun vs H Q => rRepr K vs H Q ∨ (∃ i : Int, vs = [.int i] ∧ i.natAbs.log2 < 1920 ∧ Q (.str (PyData.shown (.int i))) H) ∨ (∃ b : Bool, vs = [.bl b] ∧ Q (.str (PyData.shown (.bool b))) H) ∨
  (vs = [.non] ∧ Q (.str (PyData.shown .none)) H) ∨ (∃ x : Str, vs = [.str x] ∧ (PyData.shown (.str x)).length ≤ sizeLine ∧ Q (.str (PyData.shown (.str x))) H) ∨ ∃ a : Addr, vs = [.ref a] ∧ H a = some (.dK []) ∧ Q (.str (PyData.shown (.dict []))) H
theorem cr_reprA {X : Cx} (hu : X.A.units + 65 < cLine) (hg : X.A.guards = some []) : CallR X (.builtin "repr") (rReprA X.K) := by
  intro pins s σ H vs us Q I r h
  rcases h with h | ⟨i, rfl, hz, q⟩ | ⟨b, rfl, q⟩ | ⟨rfl, q⟩ | ⟨x, rfl, hz, q⟩ | ⟨a, rfl, ha, q⟩
  · exact cr_repr hu hg pins s σ H vs us Q I r h
  · obtain ⟨u, rfl, t, rfl⟩ := vals1 r
    exact PySem.P.repr_of_int hz ⟨.str _, H, I.tok _, ⟨_, rfl⟩, q⟩
  · obtain ⟨u, rfl, t⟩ := vals1 r
    cases t
    refine PySem.P.repr_of_bool ⟨.str _, H, I.tok _, ⟨_, rfl⟩, ?_⟩
    cases b <;> exact q
  · obtain ⟨u, rfl, t⟩ := vals1 r
    cases t
    exact PySem.P.repr_of_none ⟨.str _, H, I.tok _, ⟨_, rfl⟩, q⟩
  · obtain ⟨u, rfl, t, rfl⟩ := vals1 r
    exact PySem.P.repr_of_str ⟨.str _, H, I.tok _, ⟨_, rfl⟩, q⟩ hz
  · rw [Vals.ref1 r]
    obtain ⟨_, hs, kvs, kv, dd⟩ := dk_of I.hok ha
    cases kv
    obtain ⟨o, es, ep, h1, h2, h3, h4, pr, _⟩ := dd
    have he : es.toList = [] := by
      generalize es.toList = l at pr
      cases pr
      rfl
    have rd : Reads s.heap (.ref a) (.dict []) (a :: [] ++ []) := .dict h1 h2.1 h3 (by rw [he]; exact .nil) (by rw [he]; exact .nil)
    refine repr_of_reads' rd rfl (fun _ z => ?_) hg (by show X.A.units + (1 + 1) < cLine; omega) (fun _ _ e => e) (fun h' u tk hk => ?_) (by decide)
    · rw [beq_eq_false_iff_ne] at hs
      simp at z
      exact hs z.symm
    · exact ⟨.str _, H, I.kept (t' := tk) hk, ⟨u, rfl⟩, q⟩
def okShowS (d : D) : Bool := match d with
  | .lst _ | .tup _ => okShow d
  | .int i => decide (i.natAbs.log2 < 1920)
  | .bl _ | .non => true
  | .str x => PyData.strOk x && decide (x.length ≤ 1000)
  | .dic [] [] => true
  | _ => false
def shDS : D → Str
  | .dic [] [] => PyData.shown (.dict [])
  | d => shD d
def gReprA : G1 := fun ds q => ∃ d, ds = [d] ∧ okShowS d = true ∧ q (.str (shDS d))
def pReprA : List D → Option D
  | [d] => if okShowS d = true then some (.str (shDS d)) else none
  | _ => none
theorem br_reprA : Br1 gReprA pReprA := fun d v q h k => by
  unfold pReprA at h
  split at h
  · split at h
    · cases h
      exact ⟨_, rfl, by assumption, k⟩
    · cases h
  · cases h
theorem repr_A {d : D} (h : okShowS d = true) : pReprA [d] = some (.str (shDS d)) := if_pos h
theorem snd_reprA {K : PySem.W.Frag} : SndC K (rReprA K) gReprA := fun Hs H xs ds q Q ex ia ⟨d, e, ok, h⟩ k k2 => by
  subst e
  obtain ⟨x, rfl, i1⟩ := one_arg ia
  cases d with
  | lst l => exact Or.inl (snd_repr Hs H _ _ q Q ex ia ⟨_, l, rfl, Or.inl rfl, ok, h⟩ k k2)
  | tup l => exact Or.inl (snd_repr Hs H _ _ q Q ex ia ⟨_, l, rfl, Or.inr rfl, ok, h⟩ k k2)
  | int i =>
    cases i1
    exact Or.inr (Or.inl ⟨i, rfl, of_decide_eq_true ok, k _ _ h (.str _)⟩)
  | bl b =>
    cases i1
    exact Or.inr (Or.inr (Or.inl ⟨b, rfl, k _ _ h (.str _)⟩))
  | non =>
    cases i1
    exact Or.inr (Or.inr (Or.inr (Or.inl ⟨rfl, k _ _ h (.str _)⟩)))
  | str x =>
    cases i1
    unfold okShowS at ok
    simp only [Bool.and_eq_true, decide_eq_true_eq] at ok
    have sh := sh_str (n := 1000) ok.1 ok.2
    have z := PyData.shown_le 40 (by decide) (D.py (.str x)) sh.short
    have w := sh.wt
    have z : (PyData.shown (.str x)).length ≤ sizeLine := by
      rw [sizeLine_eq]
      have e : (D.py (.str x)) = .str x := rfl
      rw [e] at z w
      omega
    exact Or.inr (Or.inr (Or.inr (Or.inr (Or.inl ⟨x, rfl, z, k _ _ h (.str _)⟩))))
  | dic ks l =>
    cases ks with
    | cons k ks => simp [okShowS] at ok
    | nil =>
      cases l with
      | cons d l => simp [okShowS] at ok
      | nil =>
        cases i1 with
        | dic ha hi =>
          cases hi
          exact Or.inr (Or.inr (Or.inr (Or.inr (Or.inr ⟨_, rfl, ex _ _ ha, k _ _ h (.str _)⟩))))
  | _ => cases ok
end Mb
namespace Mb
open PySem PySem.Spec PyProof.Rows L2
open Evl (Ex)
/-! ### y = [.. for .. in x], x lent, y a list of one's own, y a plain local name -/
section
variable {S : Type} {X : Cx} {ρ : Rs S} {W : WX} {K : PySem.W.Frag}
end
end Mb
namespace Mb
open PySem PyProof.Rows L2
open Evl (Ex)
/-! ### more that is shared: tables of code objects; a caller's state -/
section
variable {S : Type} {K : PySem.W.Frag} {ρ ρ' : Rs S} {s s' : S} {Hs H Hs' H' : Hp} {T : List (Addr × Str)}
/-- ρ' shares more than ρ -/
structure Up (ρ ρ' : Rs S) : Prop where
  down : ∀ {s : S} {Hs H : Hp}, Gd ρ' s Hs H → Gd ρ s Hs H
  own : ∀ b, ρ.own b → ρ'.own b
  up : ∀ {s s' : S} {Hs H Hs' H' : Hp}, Gd ρ' s Hs H → Rel ρ Hs H Hs' H' → Gd ρ s' Hs' H' → Gd ρ' s' Hs' H'
theorem Up.refl : Up ρ ρ := ⟨fun g => g, fun _ h => h, fun _ _ g => g⟩
theorem Up.trans {ρ2 : Rs S} (u : Up ρ ρ') (u2 : Up ρ' ρ2) (e : ∀ {Hs H Hs' H' : Hp}, Rel ρ Hs H Hs' H' → Rel ρ' Hs H Hs' H') : Up ρ ρ2 :=
  ⟨fun g => u.down (u2.down g), fun b h => u2.own b (u.own b h), fun g R g' => u2.up g (e R) (u.up (u2.down g) R g')⟩
theorem Up.rel (u : Up ρ ρ') (R : Rel ρ Hs H Hs' H') : Rel ρ' Hs H Hs' H' := ⟨R.s, fun b o n e => R.h b o (fun z => n (u.own b z)) e, R.n, R.k⟩
theorem Up.low (u : Up ρ ρ') {F : FW S} {vs : List V} {Q : VK} {E : XK} (h : spW K ρ' F vs H Q E) : spW K ρ F vs H Q E := by
  obtain ⟨Hs, s, ds, q, r, G, I, h, k, x⟩ := h
  refine ⟨Hs, s, ds, q, r, u.down G, I, h, fun v y s' Hs' H' R' G' i' h' => k v y s' Hs' H' (u.rel R') (u.up G R' G') ?_ h', fun y c p s' Hs' H' R' G' e' h' => x y c p s' Hs' H' (u.rel R') (u.up G R' G') e' h'⟩
  cases y with
  | dat d => exact i'
  | ow k l =>
    obtain ⟨a, vs, e, h1, h2, h3, h4, _⟩ := i'
    exact ⟨a, vs, e, h1, h2, h3, h4, G.notOwn h4⟩
theorem _root_.L2.FnOk.lift {P : Program} {w : World} {mg : Str → Option Value} {base : Heap} {CX : CXT} {k : Nat} {f : Addr} {fd : FuncData} {ps : List Str} {F : FW S} (h : FnOk P w K mg base CX k f fd ps (spW K ρ F)) (u : Up ρ ρ') : FnOk P w K mg base CX k f fd ps (spW K ρ' F) :=
  h.imp fun _ _ _ _ q => u.low q
/-- the table at P: its code objects bear the name q, and are known -/
def tabS (Hs H : Hp) (P : Addr) (q : Str) : Prop := ∃ ps : Array Value, H P = some (.tbl ps) ∧ TriplesOk ps.toList ∧ ∀ (pos : Pos) (cv : Value), codeAmong pos ps.toList = some cv → ∃ c, cv = .ref c ∧ Hs c = some (LamX.CodeO c q)
def tabR (T : List (Addr × Str)) (ρ : Rs S) : Rs S where
  own := fun b => ρ.own b ∨ b ∈ T.map (·.1)
  inv := fun s Hs H => ρ.inv s Hs H ∧ ∀ p ∈ T, ¬ ρ.own p.1 ∧ tabS Hs H p.1 p.2
  loc := fun s Hs H H' h ⟨h1, h2⟩ => ⟨ρ.loc s Hs H H' (fun b z => h b (Or.inl z)) h1, fun p hp => let ⟨a, ps, b, c⟩ := h2 p hp; ⟨a, ps, (h p.1 (Or.inr (List.mem_map.mpr ⟨p, hp, rfl⟩))).trans b, c⟩⟩
  mono := fun s Hs Hs' H e ⟨h1, h2⟩ => ⟨ρ.mono s Hs Hs' H e h1, fun p hp => let ⟨a, ps, b, t, c⟩ := h2 p hp; ⟨a, ps, b, t, fun pos cv z => let ⟨c0, e1, e2⟩ := c pos cv z; ⟨c0, e1, e _ _ e2⟩⟩⟩
  dom := fun s Hs H b ⟨h1, h2⟩ z => by
    rcases z with z | z
    · exact ρ.dom s Hs H b h1 z
    · obtain ⟨p, hp, rfl⟩ := List.mem_map.mp z
      obtain ⟨_, ps, b, _⟩ := h2 p hp
      exact ⟨_, b⟩
theorem codeO_lst {c : Addr} {q : Str} {vs : List V} (h : some (HO.lst vs) = some (LamX.CodeO c q)) : False := by
  unfold LamX.CodeO at h
  cases h
instance [ρ.Flat] : Rs.Flat (tabR T ρ) := ⟨fun s0 H0 s Hs Hs2 H p ⟨i1, _⟩ n ⟨vs, hv⟩ e ⟨j1, j2⟩ => ⟨Rs.Flat.down s0 H0 s Hs Hs2 H p i1 n ⟨vs, hv⟩ e j1, fun y hy => by
  obtain ⟨a, ps, b, t, c⟩ := j2 y hy
  refine ⟨a, ps, b, t, fun pos cv z => ?_⟩
  obtain ⟨c0, e1, e2⟩ := c pos cv z
  refine ⟨c0, e1, ?_⟩
  have nb : c0 ≠ p := fun q => by
    rw [q, hv] at e2
    exact codeO_lst e2
  rw [off_ne nb]
  exact e2⟩⟩
/-- a caller's state, as it was at the call -/
def lamR (ρ : Rs S) (HsC HC : Hp) : Rs S where
  own := fun b => ρ.own b ∨ (HC b ≠ none ∧ HsC b = none)
  inv := fun s Hs H => ρ.inv s Hs H ∧ Ex HsC Hs ∧ ∀ b o, ¬ ρ.own b → HsC b = none → HC b = some o → H b = some o
  loc := fun s Hs H H' h ⟨h1, h2, h3⟩ => ⟨ρ.loc s Hs H H' (fun b z => h b (Or.inl z)) h1, h2, fun b o n e1 e2 => (h b (Or.inr ⟨by rw [e2]; exact (fun z => nomatch z), e1⟩)).trans (h3 b o n e1 e2)⟩
  mono := fun s Hs Hs' H e ⟨h1, h2, h3⟩ => ⟨ρ.mono s Hs Hs' H e h1, h2.trans e, h3⟩
  dom := fun s Hs H b ⟨h1, h2, h3⟩ z => by
    rcases z with z | ⟨z1, z2⟩
    · exact ρ.dom s Hs H b h1 z
    · by_cases ho : ρ.own b
      · exact ρ.dom s Hs H b h1 ho
      · cases e : HC b with
        | none => exact (z1 e).elim
        | some o => exact ⟨o, h3 b o ho z2 e⟩
variable {HsC HC : Hp}
instance [ρ.Flat] : Rs.Flat (lamR ρ HsC HC) := ⟨fun s0 H0 s Hs Hs2 H p ⟨i1, i2, _⟩ n v e ⟨j1, j2, j3⟩ => ⟨Rs.Flat.down s0 H0 s Hs Hs2 H p i1 n v e j1, (i2.trans (off_ex e n)), j3⟩⟩
end
end Mb
namespace Mb
open PySem PyProof.Rows L2
open Evl (Ex)
/-! ### a lambda is made: exactly what becomes of the heap -/
section
variable {X : Cx} {pins : List (Addr × Obj)} {σ : L2.St} {H : Hp} {s : Shared}
abbrev lamQ (X : Cx) : Str := X.env.qual ++ "<lambda>"
abbrev lamO (X : Cx) (params : Arguments) (body : Expr) (scope : Scope) (pm : Value) (c' : Addr) (ctv : Value) : Obj := PySem.W.kla_obj "<lambda>" (lamQ X) params body scope (cloFrom X.env.cells scope.names []) pm c' ctv
/-- the heap behind it: the code object was in the table, or is put there -/
inductive LamH (H : Hp) (P : Addr) (q : Str) (pos : Pos) (ps : Array Value) (c' : Addr) : Hp → Prop
  | hit : codeAmong pos ps.toList = some (.ref c') → LamH H P q pos ps c' H
  | miss : codeAmong pos ps.toList = none → H c' = none → LamH H P q pos ps c' (upd (upd H P (.tbl (ps ++ #[rawInt pos.line, rawInt pos.col, .ref c']))) c' (LamX.CodeO c' q))
end
section
variable {S : Type} {ρ : Rs S} {s : S} {Hs H H1 : Hp} {T : List (Addr × Str)} {P c' : Addr} {q : Str} {pos : Pos} {ps : Array Value}
end
end Mb
namespace Mb
open PySem PyProof.Rows L2
open Evl (Ex)
/-! ### a def that calls the lambda it got -/
section
variable {S : Type} {ρ : Rs S} {X : Cx}
/-- slot i holds the lambda at f: what its body does -/
def fAct (i : Nat) (f : Addr) (m : M S D) : F S D := fun Γ s => match Γ[i]? with
  | some (.dat (.adr b)) => if b = f then m s else .no
  | _ => .no
@[simp] theorem fAct_eq {i : Nat} {f : Addr} {m : M S D} {Γ : Ctx} {s : S} (h : Γ[i]? = some (.dat (.adr f))) : fAct i f m Γ s = m s := by
  unfold fAct
  rw [h]
  exact if_pos rfl
end
end Mb
namespace Mb
open PySem PyProof.Rows L2
open Evl (Ex)
/-! ### x(lambda: body) -/
section
variable {S : Type} {ρ : Rs S} {X : Cx} {W : WX}
/-- the def that calls the lambda: its text -/
structure LamF (X : Cx) (x qg : Str) (st : Stmt) (a : Str) (Ng : List Str) : Prop where
  sc : FnScope Ng [a] (defScope st)
  hN : Ng[0]? = some a
  vis : Vis (defScope st) a
  it : ∃ g fd, Fun X.K x qg st g fd ∧ Binds X.K fd [a] [] ∧ X.mg x = some (.ref g)
/-- its body, whatever the lambda does -/
abbrev LamBody (P : Program) (wd : World) (K : PySem.W.Frag) (mg : Str → Option Value) (base : Heap) (ρ : Rs S) (st : Stmt) (a qg : Str) (Ng : List Str) (k : Nat) (tg : Addr → M S D → T S) : Prop :=
  ∀ (g : Addr) (cdv : Value) (A : Around) (outer : List Env) (s : Shared) (H : Hp) (ρ' : Rs S) (f : Addr) (m : M S D), Room k (A.deeper (envOfC qg (defScope st) s.heap.objs.size g cdv)) → Up ρ ρ' →
    (∀ (W : WX) (pn : List (Addr × Obj)) (xe : Value → Shared → Prop) (p1 p2 : Pos), Takes ((cxOf CX0 P wd K mg base Ng qg (defScope st) g cdv A outer s H E0).nox.tr pn xe) W → ME ((cxOf CX0 P wd K mg base Ng qg (defScope st) g cdv A outer s H E0).nox.tr pn xe) ρ' W (.Call (.Name a p1) [] [] p2) (wF (fAct 0 f m))) →
    MB (cxOf CX0 P wd K mg base Ng qg (defScope st) g cdv A outer s H E0).nox ρ' WF (defBody st) (sF (tg f m))
/-- the same, called from A only -/
abbrev LamBodyA (P : Program) (wd : World) (K : PySem.W.Frag) (mg : Str → Option Value) (base : Heap) (ρ : Rs S) (st : Stmt) (a qg : Str) (Ng : List Str) (k : Nat) (tg : Addr → M S D → T S) (A : Around) : Prop :=
  ∀ (g : Addr) (cdv : Value) (outer : List Env) (s : Shared) (H : Hp) (ρ' : Rs S) (f : Addr) (m : M S D), Room k (A.deeper (envOfC qg (defScope st) s.heap.objs.size g cdv)) → Up ρ ρ' →
    (∀ (W : WX) (pn : List (Addr × Obj)) (xe : Value → Shared → Prop) (p1 p2 : Pos), Takes ((cxOf CX0 P wd K mg base Ng qg (defScope st) g cdv A outer s H E0).nox.tr pn xe) W → ME ((cxOf CX0 P wd K mg base Ng qg (defScope st) g cdv A outer s H E0).nox.tr pn xe) ρ' W (.Call (.Name a p1) [] [] p2) (wF (fAct 0 f m))) →
    MB (cxOf CX0 P wd K mg base Ng qg (defScope st) g cdv A outer s H E0).nox ρ' WF (defBody st) (sF (tg f m))
theorem LamBody.at {P : Program} {wd : World} {K : PySem.W.Frag} {mg : Str → Option Value} {base : Heap} {st : Stmt} {a qg : Str} {Ng : List Str} {k : Nat} {tg : Addr → M S D → T S} (B : LamBody P wd K mg base ρ st a qg Ng k tg) (A : Around) : LamBodyA P wd K mg base ρ st a qg Ng k tg A := fun g cdv => B g cdv A
end
end Mb
namespace Mb
open PySem PySem.Spec PyProof.Rows L2
open Evl (Ex)
/-! ### defs that make lambdas; the law's def -/
/-- a def whose code object is at c -/
structure FunC (K : PySem.W.Frag) (x qual : Str) (st : Stmt) (f : Addr) (fd : FuncData) (c : Addr) : Prop where
  ex : ∃ (oc : Value) (od : Option Addr) (kV doc pm : Value) (an : Option Addr) (ct : Value) (osl : Array (Option Value)),
    fd = PySem.W.fnOf x qual (defArgs st) (defBody st) (defScope st) .none kV doc pm an (.ref c) ct ∧ K.lookup f = some ⟨oc, od, .func fd, osl⟩ ∧ PySem.W.codeIn K (.ref c) qual = true
  kp : PySem.W.keepIn K (.ref f) = true
theorem FunC.fn {K : PySem.W.Frag} {x qual : Str} {st : Stmt} {f : Addr} {fd : FuncData} {c : Addr} (F : FunC K x qual st f fd c) : Fun K x qual st f fd := by
  obtain ⟨oc, od, kV, doc, pm, an, ct, osl, h1, h2, h3⟩ := F.ex
  exact ⟨⟨oc, od, kV, doc, pm, an, _, ct, osl, h1, h2, h3⟩, F.kp⟩
section
variable {S : Type} {K : PySem.W.Frag} {ρ : Rs S}
end
end Mb
namespace Mb
open PySem PySem.Spec PyProof.Rows L2
open Evl (Ex)
/-! ### the law's call, with tables of code objects, where repr is asked for -/
section
variable {P : Program} {w : World} {K : PySem.W.Frag} {mg mb : Str → Option Value} {k : Nat} {fa a : Addr} {cs : List (Addr × Addr)} {fd : FuncData} {x : Str} {sp : Sp} {s₁ : Shared} {vs : List Value} {ns : List Int}
/-- what is tracked at the law's call: the tables, the script or nothing -/
structure Trk (K : PySem.W.Frag) (cs : List (Addr × Addr)) (a : Addr) (vs : List Value) (ns : List Int) (H : Hp) : Prop where
  tb : ∀ p ∈ cs, H p.2 = some (.tbl #[])
  all : ∀ b u, H b = some u → (b ∈ cs.map (·.2) ∧ u = .tbl #[]) ∨ b = a ∧ u = .frz { cls := .type "list", data := .seq vs.toArray } (.lst (ns.map V.int)) ∧ K.lookup a = none
  sq : SqL K H a (ns.map V.int)
end
end Mb
namespace Mb
open PySem PySem.Spec PyProof.Rows L2
open Evl (Ex)
/-! ### a comprehension whose element knows the state at the block's entry -/
section
variable {X : Cx}
end
end Mb
namespace Mb
open PySem PySem.Spec PyProof.Rows L2
open Evl (Ex)
section
variable {X : Cx}
end
end Mb
namespace Mb
open PySem PyProof.Rows L2
open Evl (Ex)
/-! ### lambdas that are kept: the object is tracked -/
def FnO (f : Addr) (o : Obj) : HO := .ext fun h => h.get? f = some o
section
variable {S : Type} {ρ : Rs S} {X : Cx}
end
end Mb
namespace Mb
open PySem PyProof.Rows L2
open Evl (Ex)
section
variable {S : Type} {ρ : Rs S} {X : Cx} {W : WX}
/-- the lambda at b: known, its body does m -/
def LamAt (X : Cx) (ρ : Rs S) (k : Nat) (HsC : Hp) (Γ : Ctx) (b : Addr) (m : M S D) : Prop := ∃ (params : Arguments) (body : Expr) (scope : Scope) (pm : Value) (c' : Addr) (ctv : Value) (fb : F S D),
  m = fb Γ ∧ LamX.LamS X.env.scope scope ∧ HsC b = some (FnO b (lamO X params body scope pm c' ctv)) ∧ HsC c' = some (LamX.CodeO c' (lamQ X)) ∧ bindArgs (PySem.W.kla_fn "<lambda>" (lamQ X) params body scope (cloFrom X.env.cells scope.names []) pm (.ref c') ctv) ⟨[], []⟩ = pure [] ∧
  ∀ (A : Around) (outer : List Env) (s : Shared) (H : Hp) (E : XK) (f c' : Addr), Room k (A.deeper (LamX.lamEnv X scope s.heap.objs.size f c')) → ME (LamX.lamCx X A outer s H E scope f c') ρ (fun cls d _ H' => E cls d H') body (wF fb)
end
end Mb
namespace Mb
open PySem PyProof.Rows L2
open Evl (Ex)
/-! ### [e for w in works], the element calls lambdas -/
def Sl.data : Sl → Sl
  | .ow _ _ => .emp
  | x => x
@[simp] theorem data_emp : Sl.data .emp = .emp := rfl
@[simp] theorem data_dat {d : D} : Sl.data (.dat d) = .dat d := rfl
@[simp] theorem data_ow {k : Ok} {l : List D} : Sl.data (.ow k l) = .emp := rfl
@[simp] def Ctx.data (Γ : Ctx) : Ctx := List.map Sl.data Γ
theorem Ctx.data_le : ∀ Γ : Ctx, Ctx.le Γ.data Γ
  | [] => True.intro
  | .emp :: r => ⟨True.intro, Ctx.data_le r⟩
  | .dat d :: r => ⟨rfl, Ctx.data_le r⟩
  | .ow k l :: r => ⟨True.intro, Ctx.data_le r⟩
section
variable {S : Type} {ρ ρ' : Rs S} {X : Cx} {W : WX} {K : PySem.W.Frag}
theorem Slots.data {H0 Hs H : Hp} {σ : L2.St} {Γ : Ctx} (L : Slots K ρ H0 σ Hs H Γ) : Slots K ρ' H0 σ Hs H Γ.data := by
  have L1 := L.weak (Ctx.data_le Γ)
  have no : ∀ (i : Nat) (k : Ok) (l : List D), Γ.data[i]? ≠ some (.ow k l) := fun i k l e => by
    have e : (List.map Sl.data Γ)[i]? = some (.ow k l) := e
    rw [List.getElem?_map] at e
    cases z : Γ[i]? with
    | none =>
      rw [z] at e
      cases e
    | some x =>
      rw [z] at e
      cases x with
      | emp => cases e
      | dat d => cases e
      | ow k l => cases e
  refine ⟨L1.len, fun i sl x e1 e2 => ?_, fun i j k k' l l' a e1 _ _ _ => (no i k l e1).elim⟩
  cases sl with
  | emp => exact True.intro
  | dat d => exact L1.ok i _ x e1 e2
  | ow k l => exact (no i k l e1).elim
/-- what is known of the caller's state at the block's entry -/
structure AtW (X : Cx) (ρ : Rs S) (HsC HC : Hp) (Γ : Ctx) (fp : List Addr) (s3 : Shared) (H3 : Hp) : Prop where
  it : ∃ (pins : List (Addr × Obj)) (σ : L2.St) (H0 : Hp), Inv X pins σ H3 s3 ∧ Slots X.K ρ H0 σ HsC HC Γ
  fp : ∃ (pins : List (Addr × Obj)), ∀ b ∈ fp, FpOk X pins H3 b
/-! ### the lambdas that are kept, beside ρ -/
/-- a lambda: where it is, what it is, where its code is -/
structure Lm where
  f : Addr
  o : Obj
  c : Addr
def fnR (fs : List (Lm × Str)) (ρ : Rs S) : Rs S where
  own := ρ.own
  inv := fun s Hs H => ρ.inv s Hs H ∧ ∀ p ∈ fs, Hs p.1.f = some (FnO p.1.f p.1.o) ∧ Hs p.1.c = some (LamX.CodeO p.1.c p.2)
  loc := fun s Hs H H' h ⟨h1, h2⟩ => ⟨ρ.loc s Hs H H' h h1, h2⟩
  mono := fun s Hs Hs' H e ⟨h1, h2⟩ => ⟨ρ.mono s Hs Hs' H e h1, fun p hp => ⟨e _ _ (h2 p hp).1, e _ _ (h2 p hp).2⟩⟩
  dom := fun s Hs H b ⟨h1, _⟩ z => ρ.dom s Hs H b h1 z
theorem fnO_lst {f : Addr} {o : Obj} {vs : List V} (h : some (HO.lst vs) = some (FnO f o)) : False := by
  unfold FnO at h
  cases h
instance {fs : List (Lm × Str)} [ρ.Flat] : Rs.Flat (fnR fs ρ) := ⟨fun s0 H0 s Hs Hs2 H p ⟨i1, _⟩ n ⟨vs, hv⟩ e ⟨j1, j2⟩ => ⟨Rs.Flat.down s0 H0 s Hs Hs2 H p i1 n ⟨vs, hv⟩ e j1, fun y hy => by
  obtain ⟨a, b⟩ := j2 y hy
  refine ⟨?_, ?_⟩
  · rw [off_ne (fun q => by
      rw [q, hv] at a
      exact fnO_lst a)]
    exact a
  · rw [off_ne (fun q => by
      rw [q, hv] at b
      exact codeO_lst b)]
    exact b⟩⟩
end
end Mb
namespace Mb
open PySem PyProof.Rows L2
open Evl (Ex)
/-! ### a lambda that is kept -/
section
variable {X : Cx}
end
end Mb
namespace Mb
open PySem PyProof.Rows L2
open Evl (Ex)
/-! ### statements that begin with more known (ρ' = fnR fs ρ), and end at ρ -/
section
variable {S : Type} {ρ : Rs S} {X : Cx} {W : WX} {K : PySem.W.Frag} {fs : List (Lm × Str)}
def tS2 (K : PySem.W.Frag) (fs : List (Lm × Str)) (ρ : Rs S) (W : WX) (w : WS S) : TS := fun D σ H => ∃ (H0 Hs0 Hs : Hp) (Γ : Ctx) (s : S) (E : En S),
  Rel ρ Hs0 H0 Hs H ∧ Gd (fnR fs ρ) s Hs H ∧ Slots K ρ H0 σ Hs H Γ ∧ w Γ s E ∧ Abs K ρ W H0 Hs0 E D
structure MB2 (X : Cx) (fs : List (Lm × Str)) (ρ : Rs S) (W : WX) (sts : List Stmt) (w : WS S) : Prop where
  pss : PSs X sts (tS2 X.K fs ρ W w)
end
end Mb
namespace Mb
open PySem PyProof.Rows L2
open Evl (Ex)
section
variable {S : Type} {ρ : Rs S} {X : Cx} {W : WX} {fs : List (Lm × Str)} {TT : List (Addr × Str)}
/-- for all lambdas: what the rest says -/
structure LamN where
  f : Addr
  c : Addr
  pm : Value
  ctv : Value
end
end Mb
namespace Mb
open PySem PyProof.Rows L2
open Evl (Ex)
section
variable {S : Type} {ρ : Rs S} {X : Cx} {W : WX} {fs : List (Lm × Str)} {TT : List (Addr × Str)}
end
end Mb
namespace Mb
open PySem PyProof.Rows L2
open Evl (Ex)
section
variable {S : Type} {ρ ρ' : Rs S} {K : PySem.W.Frag} {P : Program} {wd : World} {mg : Str → Option Value} {base : Heap} {x : Str} {ps : List Str} {k : Nat} {F : FW S}
theorem Cal.lift (h : Cal P wd K mg base x ps k (spW K ρ F)) (u : Up ρ ρ') : Cal P wd K mg base x ps k (spW K ρ' F) := by
  obtain ⟨f, fd, h1, h2, h3, h4⟩ := h.it
  exact ⟨⟨f, fd, h1.lift u, h2, h3, h4⟩⟩
end
end Mb
namespace Mb
open PySem PySem.Spec PyProof.Rows L2
open Evl (Ex)
/-! ### defs that ask for repr, and their callers -/
structure CalG (P : Program) (wd : World) (K : PySem.W.Frag) (mg : Str → Option Value) (base : Heap) (x : Str) (ps : List Str) (k : Nat) (sp : Sp) : Prop where
  it : ∃ f fd, FnG P wd K mg base CX0 k f fd ps sp ∧ mg x = some (.ref f) ∧ PySem.W.keepIn K (.ref f) = true ∧ Binds K fd ps []
theorem FnG.imp {P : Program} {w : World} {K : PySem.W.Frag} {mg : Str → Option Value} {base : Heap} {CX : CXT} {k : Nat} {f : Addr} {fd : FuncData} {ps : List Str} {sp sp' : Sp} (F : FnG P w K mg base CX k f fd ps sp)
    (h : ∀ vs H Q E, sp' vs H Q E → sp vs H Q E) : FnG P w K mg base CX k f fd ps sp' :=
  ⟨fun vs H Q E q => F.len vs H Q E (h _ _ _ _ q), fun A outer s H args us vs Q E hgd hr he hb hv hs => F.run A outer s H args us vs Q E hgd hr he hb hv (h _ _ _ _ hs)⟩
section
variable {S : Type} {X : Cx} {ρ ρ' : Rs S} {W : WX} {e : Expr} {es : List Expr} {pos p : Pos} {x : Str} {ps : List Str} {k : Nat} {F : FW S} {w : WO S} {sp : Sp} {t : TA} {f : Addr} {fd : FuncData}
end
section
variable {S : Type} {ρ ρ' : Rs S} {K : PySem.W.Frag} {P : Program} {wd : World} {mg : Str → Option Value} {base : Heap} {x qual : Str} {ps N : List Str} {k : Nat} {F : FW S} {w : WS S} {st : Stmt} {f c : Addr} {fd : FuncData}
theorem CalG.lift (h : CalG P wd K mg base x ps k (spW K ρ F)) (u : Up ρ ρ') : CalG P wd K mg base x ps k (spW K ρ' F) := by
  obtain ⟨f, fd, h1, h2, h3, h4⟩ := h.it
  exact ⟨⟨f, fd, h1.imp fun _ _ _ _ q => u.low q, h2, h3, h4⟩⟩
end
end Mb
namespace Mb
open PySem PySem.Spec PyProof.Rows L2
open Evl (Ex)
/-! ### the script is kept: its length may be asked for -/
section
variable {S : Type} {K : PySem.W.Frag} {ρ ρ' : Rs S} {T : List (Addr × Str)} {a : Addr} {ns : List Int}
def scrS (K : PySem.W.Frag) (a : Addr) (ns : List Int) (ρ : Rs S) : Rs S where
  own := ρ.own
  inv := fun s Hs H => ρ.inv s Hs H ∧ SqL K Hs a (intsV ns)
  loc := fun s Hs H H' h ⟨h1, h2⟩ => ⟨ρ.loc s Hs H H' h h1, h2⟩
  mono := fun s Hs Hs' H e ⟨h1, h2⟩ => ⟨ρ.mono s Hs Hs' H e h1, Evl.ex_l e h2⟩
  dom := fun s Hs H b ⟨h1, _⟩ z => ρ.dom s Hs H b h1 z
instance [ρ.Flat] : Rs.Flat (scrS K a ns ρ) := ⟨fun s0 H0 s Hs Hs2 H p ⟨i1, i2⟩ n v e ⟨j1, j2⟩ => ⟨Rs.Flat.down s0 H0 s Hs Hs2 H p i1 n v e j1, Evl.ex_l (off_ex e n) i2⟩⟩
end
section
variable {S : Type} {X : Cx} {ρ : Rs S} {W : WX} {T : List (Addr × Str)} {a : Addr} {ns : List Int} {pos p p2 : Pos}
def fLenS (a : Addr) (n i : Nat) : F S D := fun Γ s => match Γ[i]? with
  | some (.dat (.adr b)) => if b = a then .ok (.int (n : Int)) s else .no
  | _ => .no
@[simp] theorem fLenS_app {n i : Nat} {Γ : Ctx} {s : S} : (fLenS a n i : F S D) Γ s = match Γ[i]? with
  | some (.dat (.adr b)) => if b = a then .ok (.int (n : Int)) s else .no
  | _ => .no := rfl
end
end Mb
namespace Mb
open PySem PySem.Spec PyProof.Rows L2
open Evl (Ex)
/-! ### a, b, c = x, y, z: three plain local names, the third perhaps a list of one's own -/
section
variable {S : Type} {X : Cx} {ρ : Rs S} {W : WX} {a b c : Expr} {pos : Pos} {K : PySem.W.Frag} {wa wb : WE S} {wr : WR S}
@[simp] def sPar3 (i j l : Nat) (wa wb : WE S) (wr : WR S) : WS S := fun Γ s E => wa Γ s (fun d1 s1 => wb Γ s1 (fun d2 s2 => wr Γ s2 (fun y s3 => E.nx (((Γ.set i (.dat d1)).set j (.dat d2)).set l y.sl) s3) (fun x s1 => E.ex x Γ s1)) (fun x s1 => E.ex x Γ s1)) (fun x s1 => E.ex x Γ s1)
@[simp] def tPar3 (i j l : Nat) (f1 f2 : F S D) (f3 : F S Res) : T S := fun Γ s => (f1 Γ s).run Γ fun d1 s1 => (f2 Γ s1).run Γ fun d2 s2 => (f3 Γ s2).run Γ fun y s3 => .nx (((Γ.set i (.dat d1)).set j (.dat d2)).set l y.sl) s3
end
end Mb
namespace Mb
open PySem PySem.Spec PyProof.Rows L2
open PySem.W (dataLe alike alikeAll AllAlike Sortable EachIs dataKind SortsAt)
open Evl (Ex)
/-! ### data as keys -/
mutual
def dkey : PyData → Option NestedKey
  | .none => some .none
  | .int i => some (.num i)
  | .str x => some (.text x)
  | .tuple l => (dkeys l).map .tup
  | .bool _ => none
  | .list _ => none
  | .dict _ => none
def dkeys : List PyData → Option (List NestedKey)
  | [] => some []
  | d :: l => (dkey d).bind fun k => (dkeys l).map (k :: ·)
end
mutual
theorem dkey_is {h : Heap} : ∀ (d : PyData) {k : NestedKey} {u : Value} {as : List Addr}, dkey d = some k → Reads h u d as → NestedIs h k u
  | .none, _, _, _, e, r => by
    cases r
    cases e
    exact .none
  | .int i, _, _, _, e, r => by
    cases r
    cases e
    exact .int _ _
  | .str x, _, _, _, e, r => by
    cases r
    cases e
    exact .text _ _
  | .tuple l, _, _, _, e, r => by
    rw [dkey] at e
    obtain ⟨ks, e1, e2⟩ := Option.map_eq_some_iff.mp e
    subst e2
    cases r with
    | tuple h1 h2 h3 h4 => exact .tup h1 h2 h3 (dkeys_is l e1 h4)
  | .bool _, _, _, _, e, _ => nomatch e
  | .list _, _, _, _, e, _ => by rw [dkey] at e; cases e
  | .dict _, _, _, _, e, _ => by rw [dkey] at e; cases e
theorem dkeys_is {h : Heap} : ∀ (l : List PyData) {ks : List NestedKey} {us : List Value} {as : List Addr}, dkeys l = some ks → ReadsAll h us l as → NestedAll h ks us
  | [], _, _, _, e, r => by
    cases r
    rw [dkeys] at e
    cases e
    exact .nil
  | d :: l, _, _, _, e, r => by
    rw [dkeys] at e
    obtain ⟨k, e1, e2⟩ := Option.bind_eq_some_iff.mp e
    obtain ⟨ks, e3, e4⟩ := Option.map_eq_some_iff.mp e2
    subst e4
    cases r with
    | cons r1 r2 => exact .cons (dkey_is d e1 r1) (dkeys_is l e3 r2)
end
/-! ### the new dict: its keys, and where they stand; all values are True -/
abbrev Ent := NestedKey × Addr
/-- a key that may stand in the dict -/
def KeyAt (K : PySem.W.Frag) (H : Hp) (b : Addr) (k : NestedKey) : Prop := ∃ d, Dp K H (.ref b) d ∧ dkey d = some k ∧ k.depth ≤ 8
section
variable {X : Cx} {pins : List (Addr × Obj)} {σ : L2.St} {H : Hp} {s : Shared}
theorem KeyAt.is (I : Inv X pins σ H s) {b : Addr} {k : NestedKey} (h : KeyAt X.K H b k) : (nestedKind X.prog X.w).is s.heap k b := by
  obtain ⟨d, h1, h2, h3⟩ := h
  obtain ⟨as, r⟩ := Dp.reads I d _ _ h1 (rfl : RelV (.ref b) (.ref b))
  exact ⟨dkey_is d h2 r, h3⟩
end
/-! ### sorted of such a dict -/
end Mb
namespace Mb
open PySem PySem.Spec PyProof.Rows L2
open PySem.W (dataLe dataLt alike alikeAll AllAlike Sortable EachIs dataKind SortsAt)
open Evl (Ex)
/-! ### sorted, by data -/
/-! ### sorted({x: True for ..}): the keys tuples -/
def okKey (d : D) : Bool := match d with
  | .tup l => D.pl 60 (.tup l) && (match dkey (D.py (.tup l)) with
    | some k => decide (k.depth ≤ 8)
    | none => false)
  | _ => false
theorem okKey_of {d : D} (h : okKey d = true) : Pl 60 d ∧ ∃ k, dkey d.py = some k ∧ k.depth ≤ 8 := by
  unfold okKey at h
  split at h
  · rw [Bool.and_eq_true] at h
    obtain ⟨h1, h2⟩ := h
    refine ⟨pl_of 60 _ h1, ?_⟩
    split at h2
    · exact ⟨_, by assumption, of_decide_eq_true h2⟩
    · cases h2
  · cases h
inductive KS (K : PySem.W.Frag) (Hs : Hp) : List Ent → List D → Prop
  | nil : KS K Hs [] []
  | cons {k : NestedKey} {b : Addr} {d : D} {xs : List Ent} {acc : List D} : Is K Hs (.ref b) d → okKey d = true → dkey d.py = some k → KS K Hs xs acc → KS K Hs ((k, b) :: xs) (d :: acc)
section
variable {K : PySem.W.Frag} {Hs Hs' H : Hp}
theorem KS.mono (e : Ex Hs Hs') : ∀ {xs : List Ent} {acc : List D}, KS K Hs xs acc → KS K Hs' xs acc
  | _, _, .nil => .nil
  | _, _, .cons i o n t => .cons (i.mono e) o n (KS.mono e t)
theorem KS.len : ∀ {xs : List Ent} {acc : List D}, KS K Hs xs acc → xs.length = acc.length
  | _, _, .nil => rfl
  | _, _, .cons _ _ _ t => congrArg (· + 1) (KS.len t)
theorem KS.snoc : ∀ {xs : List Ent} {acc : List D} {k : NestedKey} {b : Addr} {d : D}, KS K Hs xs acc → Is K Hs (.ref b) d → okKey d = true → dkey d.py = some k → KS K Hs (xs ++ [(k, b)]) (acc ++ [d])
  | _, _, _, _, _, .nil, i, o, n => .cons i o n .nil
  | _, _, _, _, _, .cons i' o' n' t, i, o, n => .cons i' o' n' (KS.snoc t i o n)
theorem KS.any : ∀ {xs : List Ent} {acc : List D} {k : NestedKey} {x : D}, KS K Hs xs acc → dkey x.py = some k → (xs.any fun e => decide (e.1 = k)) = acc.any fun e => decide (dkey e.py = dkey x.py)
  | _, _, _, _, .nil, _ => rfl
  | _, _, k, x, .cons (k := k') (d := d) _ _ n t, e => by
    rw [List.any_cons, List.any_cons, KS.any t e, n, e]
    congr 1
    exact decide_eq_decide.mpr ⟨fun z => congrArg some z, fun z => Option.some.inj z⟩
theorem KS.keys (ex : Ex Hs H) : ∀ {xs : List Ent} {acc : List D}, KS K Hs xs acc → ∀ x ∈ xs, KeyAt K H x.2 x.1
  | _, _, .nil, x, h => nomatch h
  | _, _, .cons i o n t, x, h => by
    rcases List.mem_cons.mp h with rfl | h
    · obtain ⟨p, k', n', dp⟩ := okKey_of o
      rw [n] at n'
      cases n'
      exact ⟨_, (i.mono ex).dp p, n, dp⟩
    · exact KS.keys ex t x h
end
section
variable {S : Type} {X : Cx} {ρ : Rs S} {W : WX} {e a b c tg : Expr} {wa wb wc : WE S} {pos : Pos}
end
end Mb
namespace Mb
open PySem PySem.Spec PyProof.Rows L2
open Evl (Ex)
section
variable {S : Type} {X : Cx} {ρ : Rs S} {W : WX} {e a b c tg : Expr} {pos : Pos}
/-! as functions -/
end
/-! on data of a known form -/
section
variable {S τ : Type} [DecidableEq τ]
end
end Mb
namespace Mb
open PySem PySem.Spec PyProof.Rows L2
open Evl (Ex)
/-! ### dicts that stay for good: read, walked -/
def lookK (k : Key) : List (Key × D) → Option D
  | [] => none
  | (k', d) :: r => if k' = k then some d else lookK k r
section
variable {S : Type} {X : Cx} {ρ : Rs S} {W : WX} {e a b c tg : Expr} {pos p p1 p2 : Pos} {K : PySem.W.Frag} {fa fb : F S D} {f : F S Res}
/-! what such a dict holds -/
/-! walked -/
end
end Mb
namespace Mb
open PySem PySem.Spec PyProof.Rows L2
open Evl (Ex)
/-! ### lists of bools: count, index -/
def bls? : List D → Option (List Bool)
  | [] => some []
  | .bl b :: l => (bls? l).map (b :: ·)
  | _ => none
@[simp] theorem bls_map : ∀ bs : List Bool, bls? (bs.map D.bl) = some bs
  | [] => rfl
  | b :: bs => by
    show (bls? (bs.map D.bl)).map (b :: ·) = _
    rw [bls_map bs]
    rfl
def bk (b : Bool) (v : Value) : Bool := match v with
  | .bool c => c == b
  | _ => false
section
variable {X : Cx}
end
def cntD (d k : D) : Option D := match d, k with
  | .lst l, .bl b => (bls? l).map fun bs => .int (bs.count b : Nat)
  | _, _ => none
def idxB (d k : D) : Option D := match d, k with
  | .lst l, .bl b => (bls? l).bind fun bs => if b ∈ bs then some (.int (bs.idxOf b : Nat)) else none
  | _, _ => none
section
variable {S : Type} {X : Cx} {ρ : Rs S} {W : WX} {K : PySem.W.Frag} {e o a b c : Expr} {es : List Expr} {pos p : Pos} {fo fa fb fc : F S D} {f : F S (List D)}
def fCnt (fo fa : F S D) : F S D := fun Γ => bnd (fo Γ) fun d => match d with
  | .lst l => bnd (fa Γ) fun k => opt (cntD (.lst l) k)
  | _ => mno
@[simp] theorem fCnt_app {Γ : Ctx} : fCnt fo fa Γ = bnd (fo Γ) fun d => match d with
  | .lst l => bnd (fa Γ) fun k => opt (cntD (.lst l) k)
  | _ => mno := rfl
def fIdxB (fo fa : F S D) : F S D := fun Γ => bnd (fo Γ) fun d => match d with
  | .lst l => bnd (fa Γ) fun k => opt (idxB (.lst l) k)
  | _ => mno
@[simp] theorem fIdxB_app {Γ : Ctx} : fIdxB fo fa Γ = bnd (fo Γ) fun d => match d with
  | .lst l => bnd (fa Γ) fun k => opt (idxB (.lst l) k)
  | _ => mno := rfl
/-! ### d.get(k, x) -/
def dGetD (d k x : D) : Option D := match d with
  | .dic ks l => if ks.length = l.length then (keyOf k).map fun y => (lookK y (ks.zip l)).getD x else none
  | .dif ks l => if ks.length = l.length then (keyOf k).map fun y => (lookK y (ks.zip l)).getD x else none
  | _ => none
def isDD : D → Bool
  | .dic _ _ => true
  | .dif _ _ => true
  | _ => false
def fGet2 (fa fb fc : F S D) : F S D := fun Γ => bnd (fa Γ) fun d => chk (isDD d = true) (bnd (fb Γ) fun k => bnd (fc Γ) fun x => opt (dGetD d k x))
@[simp] theorem fGet2_app {Γ : Ctx} : fGet2 fa fb fc Γ = bnd (fa Γ) fun d => chk (isDD d = true) (bnd (fb Γ) fun k => bnd (fc Γ) fun x => opt (dGetD d k x)) := rfl
/-! ### sum -/
def pSum : List D → Option D
  | [.lst l] => (ints? l).map fun ns => .int ns.sum
  | _ => none
@[simp] theorem pSum_lst {l : List D} : pSum [.lst l] = (ints? l).map fun ns => .int ns.sum := rfl
/-! ### a, b, c = x, y, z: the first a list of one's own -/
@[simp] def sPar3F (i j l : Nat) (wo : WO S) (wb wc : WE S) : WS S := fun Γ s E => wo Γ s (fun l1 s1 => wb Γ s1 (fun d2 s2 => wc Γ s2 (fun d3 s3 => E.nx (((Γ.set i (.own l1)).set j (.dat d2)).set l (.dat d3)) s3) (fun x s1 => E.ex x Γ s1)) (fun x s1 => E.ex x Γ s1)) (fun x s1 => E.ex x Γ s1)
@[simp] def tPar3F (i j l : Nat) (f1 : F S (List D)) (f2 f3 : F S D) : T S := fun Γ s => (f1 Γ s).run Γ fun l1 s1 => (f2 Γ s1).run Γ fun d2 s2 => (f3 Γ s2).run Γ fun d3 s3 => .nx (((Γ.set i (.own l1)).set j (.dat d2)).set l (.dat d3)) s3
end
end Mb
namespace Mb
open PySem PyProof.Rows L2
open Evl (Ex)
section
variable {S : Type} {ρ : Rs S} {X : Cx} {W : WX} {TT : List (Addr × Str)} {fs : List (Lm × Str)}
/-- slot i forgotten -/
def SO.wp (i : Nat) : SO S → SO S
  | .nx Γ s => .nx (List.set Γ i .emp) s
  | o => o
def SO.go (o : SO S) (t : T S) : SO S := match o with
  | .nx Γ s => t Γ s
  | o => o
@[simp] theorem SO.wp_nx {i : Nat} {Γ : Ctx} {s : S} : SO.wp i (.nx Γ s) = .nx (List.set Γ i .emp) s := rfl
@[simp] theorem SO.go_nx {t : T S} {Γ : Ctx} {s : S} : SO.go (.nx Γ s) t = t Γ s := rfl
@[simp] theorem SO.wp_rt {i : Nat} {y : Res} {s : S} : SO.wp i (.rt y s : SO S) = .rt y s := rfl
@[simp] theorem SO.go_rt {t : T S} {y : Res} {s : S} : SO.go (.rt y s : SO S) t = .rt y s := rfl
theorem MB2.imp {sts : List Stmt} {w w' : WS S} (h : MB2 X fs ρ W sts w) (f : ∀ Γ s E, w' Γ s E → w Γ s E) : MB2 X fs ρ W sts w' := ⟨h.pss.imp fun D σ H ⟨H0, Hs0, Hs, Γ, s, E, R, G, L, h, A⟩ => ⟨H0, Hs0, Hs, Γ, s, E, R, G, L, f _ _ _ h, A⟩⟩
end
end Mb
namespace Mb
open PySem PyProof.Rows L2
open Evl (Ex)
section
variable {S : Type} {ρ : Rs S} {X : Cx} {W : WX} {TT : List (Addr × Str)} {fs : List (Lm × Str)}
/-- what is known of the lambdas that are kept -/
abbrev PW (fs : List (Lm × Str)) : Hp → Ctx → Prop := fun Hs _ => ∀ p ∈ fs, Hs p.1.f = some (FnO p.1.f p.1.o) ∧ Hs p.1.c = some (LamX.CodeO p.1.c p.2)
/-- the lambdas, what they do -/
inductive LamAll (X : Cx) (ρ : Rs S) (k : Nat) (HsC : Hp) (Γ : Ctx) : List (Lm × Str) → List (M S D) → Prop
  | nil : LamAll X ρ k HsC Γ [] []
  | cons {p : Lm × Str} {fs : List (Lm × Str)} {m : M S D} {ms : List (M S D)} : LamAt X ρ k HsC Γ p.1.f m → LamAll X ρ k HsC Γ fs ms → LamAll X ρ k HsC Γ (p :: fs) (m :: ms)
end
end Mb
namespace Mb
open PySem PySem.W
/-! ### isinstance of classes of one's own, by what the heap says -/
end Mb
namespace Mb
open PySem PySem.Spec PyProof.Rows L2
open Evl (Ex)
/-! ### the law's def, entered from the top -/
theorem law_ofG {P : Program} {wd : World} {K : PySem.W.Frag} {mg : Str → Option Value} {base : Heap} {x0 qual xs xd xb : Str} {st : Stmt} {rest : List Stmt} {f : Addr} {fd : FuncData} {N ps bps : List Str} {k : Nat} {p1 p2 p3 p4 p5 : Pos} (t : Dr → T DS) (c : Nat)
    (hb : defBody st = .Assign [.Name xd p1] (.Call (.Name xb p2) [.Name xs p3] [] p4) p5 :: rest) (Fk : Fun K x0 qual st f fd) (Sc : FnScope N ps (defScope st)) (hps : ps.length = 1) (cb : Cal P wd K mg base xb bps 2 (spBeg K)) (hk2 : 2 ≤ k) (hc : c ≤ 2 ^ 40) (hN : 2 ≤ N.length)
    (hlaw : ∀ (dr : Dr) (a : Addr) (s : DS), (0 ≤ s.tn ∧ s.tn + c ≤ 2 ^ 40 ∧ s.gr.length < 1000) → ∃ s', t dr ((startC N.length [.adr a]).set 1 (.dat (.adr dr.d))) s = .rt (.dat (.bl true)) s')
    (hbody : ∀ (cdv : Value) (A : Around) (outer : List Env) (s : Shared) (H : Hp) (E : XK), A.guards = some [] → Room k (A.deeper (envOfC qual (defScope st) s.heap.objs.size f cdv)) →
      (∀ (te : TE), PE (cxOf CX0 P wd K mg base N qual (defScope st) f cdv A outer s H E).nox (.Call (.Name xb p2) [.Name xs p3] [] p4) te → PS (cxOf CX0 P wd K mg base N qual (defScope st) f cdv A outer s H E).nox (.Assign [.Name xd p1] (.Call (.Name xb p2) [.Name xs p3] [] p4) p5) (L2.tAsg te (gName 1))) ∧
      (∀ (sp : Sp) (fb : Addr) (fdb : FuncData), FnOk P wd K mg base CX0 2 fb fdb bps sp → mg xb = some (.ref fb) → PySem.W.keepIn K (.ref fb) = true → Binds K fdb bps [] → PE (cxOf CX0 P wd K mg base N qual (defScope st) f cdv A outer s H E).nox (.Call (.Name xb p2) [.Name xs p3] [] p4) (tCall sp [] E0 (tCons (tVar 0) tNil))) ∧
      ∀ dr, MB (cxOf CX0 P wd K mg base N qual (defScope st) f cdv A outer s H E).nox (dsR dr) WF rest (sF (t dr))) : FnG P wd K mg base CX0 (k + 1) f fd ps (spTrue K) := by
  refine okG Fk Sc (fun vs H Q E h => ?_) (fun cdv A outer s H vs Q E hgd hr h => ?_)
  · obtain ⟨a, ns, rfl, _⟩ := h
    exact hps.symm
  · obtain ⟨a, ns, rfl, hq, hl, kq⟩ := h
    rw [hb]
    obtain ⟨m1, m2, m3⟩ := hbody cdv A outer s H E hgd hr
    obtain ⟨fb, fdb, Fb, hmg, hkp, hbd⟩ := cb.it
    refine ⟨_, pss_cons (m1 _ (m2 _ fb fdb Fb hmg hkp hbd)) (pss_ex (α := Dr) fun dr => (m3 dr).pss), ?_⟩
    have L0 : Slots K (dsR ⟨0, 1, 0, [], by decide⟩) H (L2.start N [.ref a]) H H (startC N.length [.adr a]) := slots_start (.cons (.adr a) .nil)
    obtain ⟨u, e0, i0⟩ := L0.get (i := 0) (d := .adr a) rfl
    have eu : u = .ref a := by
      cases i0
      rfl
    subst eu
    refine ⟨_, e0, H, a, ns, rfl, Ex.refl _, hq, hl, fun dr sd Hs' H' ex G ht hg _ => ⟨dr, H', Hs', Hs', (startC N.length [.adr a]).set 1 (.dat (.adr dr.d)), sd, { nx := fun _ _ => False, rt := fun y _ => y = .dat (.bl true), ex := fun _ _ _ => False }, Rel.refl _ _, G, ?_, ?_, ⟨fun _ _ _ _ _ _ _ _ z => z.elim, fun _ _ _ _ _ _ _ _ z => z.elim, fun _ _ _ _ _ _ _ _ z => z.elim, fun v y s2 Hs2 H2 R2 G2 r2 e2 => ?_, fun _ _ _ _ _ _ _ _ _ _ _ _ z => z.elim⟩⟩⟩
    · have L1 : Slots K (dsR dr) H' (L2.start N [.ref a]) Hs' H' (startC N.length [.adr a]) := slots_start (.cons (.adr a) .nil)
      exact L1.set (i := 1) (v := .ref dr.d) (d := .adr dr.d) (.adr _)
    · obtain ⟨s', e⟩ := hlaw dr a sd ⟨by rw [ht]; decide, by rw [ht]; omega, by omega⟩
      show (t dr _ sd).post _
      rw [e]
      rfl
    · subst e2
      have i : Is K Hs2 v (.bl true) := r2
      cases i
      exact kq _
end Mb
namespace Mb
open PySem PySem.Spec PyProof.Rows L2
/-! ### loops with a statement about the slots -/
section
variable {S τ : Type}
theorem forL_inv {g : FG} {b : T S} (enc : τ → D) (I : List τ → Ctx → S → Prop) : ∀ (ts pre : List τ) (Γ : Ctx) (s : S), I pre Γ s →
    (∀ (p : List τ) (t : τ) (q : List τ) (Γ : Ctx) (s : S), pre ++ ts = p ++ t :: q → I p Γ s → ∃ Γ1, g (enc t) Γ = some Γ1 ∧ ∃ Γ2 s2, (b Γ1 s = .nx Γ2 s2 ∨ b Γ1 s = .ct Γ2 s2) ∧ I (p ++ [t]) Γ2 s2) →
    ∃ Γ' s', forL g b (ts.map enc) Γ s = .nx Γ' s' ∧ I (pre ++ ts) Γ' s'
  | [], pre, Γ, s, h, _ => ⟨Γ, s, rfl, by rw [List.append_nil]; exact h⟩
  | t :: ts, pre, Γ, s, h, step => by
    obtain ⟨Γ1, e1, Γ2, s2, e2, h2⟩ := step pre t ts Γ s rfl h
    obtain ⟨Γ', s', e3, h3⟩ := forL_inv enc I ts (pre ++ [t]) Γ2 s2 h2 fun p u q Γ s e => step p u q Γ s (by rw [← e]; simp)
    refine ⟨Γ', s', ?_, by simpa using h3⟩
    rw [List.map_cons]
    unfold forL
    rw [e1]
    dsimp only
    rcases e2 with e2 | e2
    · rw [e2]
      exact e3
    · rw [e2]
      exact e3
end
end Mb
namespace Mb
open PySem PySem.Spec PyProof.Rows L2
def t_l_next (dr : Dr) : T DS :=
  (tSeq (tWhile 1000 (fAnd (fTest (fBin pEq (fDg dr 0 fun s => .int s.dg) (fC (.int 0)))) (fTest (fDg dr 0 fun s => .bl (decide (s.gr ≠ []))))) (tDg dr 0 (fPop dr 0)))
  (tSeq (tIf (fTest (fBin pGt (fDg dr 0 fun s => .int s.dg) (fC (.int 0)))) (tSeq (tAsg (fBin pMod (fCall pIntC (fCons (fDg dr 0 fun s => .int s.dg) fNil)) (fVar 1)) (hN 2))
  (tSeq (tDg dr 0 (fBin pFdiv (fDg dr 0 fun s => .int s.dg) (fVar 1)))
  (tRet (fVar 2)))) tNx)
  (tSeq (tTn dr 0 1)
  (tSeq (tAsg (fDg dr 0 fun s => .int s.tn) (hN 3))
  (tSeq (tAsg (fC (.int 0)) (hN 4))
  (tSeq (tIf (fTest (fBin pNe (fDg dr 0 fun _ => .lst (intsD' dr.ls)) (fFrz (fLst fNil)))) (tAsg (fBin pIx (fDg dr 0 fun _ => .lst (intsD' dr.ls)) (fBin pMod (fCall pIntC (fCons (fVar 3) fNil)) (fCall pLen (fCons (fDg dr 0 fun _ => .lst (intsD' dr.ls)) fNil)))) (hN 4)) tNx)
  (tSeq (tAsg (fBin pMod (fCall pIntC (fCons (fBin pPow (fBin pAdd (fBin pMod (fCall pIntC (fCons (fVar 4) fNil)) (fC (.int 2147483629))) (fBin pMul (fC (.int 40009)) (fVar 3))) (fC (.int 3))) fNil)) (fC (.int 2147483647))) (hN 5))
  (tRet (fBin pMod (fCall pIntC (fCons (fBin pFdiv (fBin pMod (fCall pIntC (fCons (fBin pPow (fBin pAdd (fVar 5) (fBin pMul (fC (.int 104729)) (fVar 3))) (fC (.int 5))) fNil)) (fC (.int 2147483629))) (fC (.int 11))) fNil)) (fVar 1))))))))))
def m_l_next (dr : Dr) : List D → M DS Res := toM 6 (t_l_next dr)
theorem e_l_next (dr : Dr) (x0 x1 : D) : m_l_next dr [x0, x1] = fun s => (t_l_next dr [.dat x0, .dat x1, .emp, .emp, .emp, .emp] s).fin := rfl
def t_l_pick (dr : Dr) : T DS :=
  (tRet (fBin pIx (fVar 1) (fFn (m_l_next dr) (fCons (fVar 0) (fCons (fCall pLen (fCons (fVar 1) fNil)) fNil)))))
def m_l_pick (dr : Dr) : List D → M DS Res := toM 2 (t_l_pick dr)
theorem e_l_pick (dr : Dr) (x0 x1 : D) : m_l_pick dr [x0, x1] = fun s => (t_l_pick dr [.dat x0, .dat x1] s).fin := rfl
end Mb
namespace Mb
open PySem PySem.Spec PyProof.Rows L2
end Mb
namespace Mb
open PySem PySem.Spec PyProof.Rows L2
abbrev errL (A : Adr) : List Addr := [A.NoHistory, A.NoVersion, A.NoChange, A.NoTest, A.Cheaper, A.TooMany, A.NoOperation, A.NoJournal, A.NoText, A.NoOrder, A.NoCause, A.NoTheory, A.NoCase, A.NoCosts, A.NoLie, A.NoLimit, A.NoCauses, A.NoClaim, A.NoChanges, A.NoSuspects, A.NoState, A.NoPlan, A.NoNumber, A.NothingLeft]
noncomputable section
def t_l_with_fields_0 (A : Adr) : T Unit :=
  (tSetO (fLst (fCons (fTup (fCons (fErrV A.NoHistory "at" (fVar 0)) (fCons (fErrF [A.NoHistory] "at" (fErrV A.NoHistory "at" (fVar 0))) fNil))) (fCons (fTup (fCons (fErrVK A.NoHistory "at" (fCons (fVar 0) fNil)) (fCons (fErrF [A.NoHistory] "at" (fErrVK A.NoHistory "at" (fCons (fVar 0) fNil))) fNil))) fNil))) 1)
def t_l_with_fields_1 (A : Adr) : T Unit :=
  (tApp 1 (fTup (fCons (fErrV A.NoVersion "version" (fVar 0)) (fCons (fErrF [A.NoVersion] "version" (fErrV A.NoVersion "version" (fVar 0))) fNil))))
def t_l_with_fields_2 (A : Adr) : T Unit :=
  (tApp 1 (fTup (fCons (fErrVK A.NoVersion "version" (fCons (fVar 0) fNil)) (fCons (fErrF [A.NoVersion] "version" (fErrVK A.NoVersion "version" (fCons (fVar 0) fNil))) fNil))))
def t_l_with_fields_3 (A : Adr) : T Unit :=
  (tApp 1 (fTup (fCons (fErrV A.NoChange "change" (fVar 0)) (fCons (fErrF [A.NoChange] "change" (fErrV A.NoChange "change" (fVar 0))) fNil))))
def t_l_with_fields_4 (A : Adr) : T Unit :=
  (tApp 1 (fTup (fCons (fErrVK A.NoChange "change" (fCons (fVar 0) fNil)) (fCons (fErrF [A.NoChange] "change" (fErrVK A.NoChange "change" (fCons (fVar 0) fNil))) fNil))))
def t_l_with_fields_5 (A : Adr) : T Unit :=
  (tSetO (fCatV 1 (fFrz (fLst (fCons (fTup (fCons (fErrV A.NoTest "at" (fVar 0)) (fCons (fErrF [A.NoTest] "at" (fErrV A.NoTest "at" (fVar 0))) fNil))) (fCons (fTup (fCons (fErrVK A.NoTest "at" (fCons (fVar 0) fNil)) (fCons (fErrF [A.NoTest] "at" (fErrVK A.NoTest "at" (fCons (fVar 0) fNil))) fNil))) fNil))))) 1)
def t_l_with_fields_6 (A : Adr) : T Unit :=
  (tSetO (fCatV 1 (fFrz (fLst (fCons (fTup (fCons (fErrV A.Cheaper "least" (fVar 0)) (fCons (fErrF [A.Cheaper] "least" (fErrV A.Cheaper "least" (fVar 0))) fNil))) (fCons (fTup (fCons (fErrVK A.Cheaper "least" (fCons (fVar 0) fNil)) (fCons (fErrF [A.Cheaper] "least" (fErrVK A.Cheaper "least" (fCons (fVar 0) fNil))) fNil))) fNil))))) 1)
def t_l_with_fields_7 (A : Adr) : T Unit :=
  (tSetO (fCatV 1 (fFrz (fLst (fCons (fTup (fCons (fErrV A.TooMany "most" (fVar 0)) (fCons (fErrF [A.TooMany] "most" (fErrV A.TooMany "most" (fVar 0))) fNil))) (fCons (fTup (fCons (fErrVK A.TooMany "most" (fCons (fVar 0) fNil)) (fCons (fErrF [A.TooMany] "most" (fErrVK A.TooMany "most" (fCons (fVar 0) fNil))) fNil))) fNil))))) 1)
def t_l_with_fields_8 (A : Adr) : T Unit :=
  (tSetO (fCatV 1 (fFrz (fLst (fCons (fTup (fCons (fErrV A.NoOperation "at" (fVar 0)) (fCons (fErrF [A.NoOperation] "at" (fErrV A.NoOperation "at" (fVar 0))) fNil))) (fCons (fTup (fCons (fErrVK A.NoOperation "at" (fCons (fVar 0) fNil)) (fCons (fErrF [A.NoOperation] "at" (fErrVK A.NoOperation "at" (fCons (fVar 0) fNil))) fNil))) fNil))))) 1)
def t_l_with_fields_9 (A : Adr) : T Unit :=
  (tSetO (fCatV 1 (fFrz (fLst (fCons (fTup (fCons (fErrV A.NoJournal "at" (fVar 0)) (fCons (fErrF [A.NoJournal] "at" (fErrV A.NoJournal "at" (fVar 0))) fNil))) (fCons (fTup (fCons (fErrVK A.NoJournal "at" (fCons (fVar 0) fNil)) (fCons (fErrF [A.NoJournal] "at" (fErrVK A.NoJournal "at" (fCons (fVar 0) fNil))) fNil))) fNil))))) 1)
def t_l_with_fields_10 (A : Adr) : T Unit :=
  (tFz 1 (tRet (fBin pAdd (fVar 1) (fFrz (fLst (fCons (fTup (fCons (fErrV A.NoText "row" (fVar 0)) (fCons (fErrF [A.NoText] "row" (fErrV A.NoText "row" (fVar 0))) fNil))) (fCons (fTup (fCons (fErrVK A.NoText "row" (fCons (fVar 0) fNil)) (fCons (fErrF [A.NoText] "row" (fErrVK A.NoText "row" (fCons (fVar 0) fNil))) fNil))) fNil)))))))
def t_l_with_fields (A : Adr) : T Unit :=
  (tSeq (t_l_with_fields_0 A)
  (tSeq (t_l_with_fields_1 A)
  (tSeq (t_l_with_fields_2 A)
  (tSeq (t_l_with_fields_3 A)
  (tSeq (t_l_with_fields_4 A)
  (tSeq (t_l_with_fields_5 A)
  (tSeq (t_l_with_fields_6 A)
  (tSeq (t_l_with_fields_7 A)
  (tSeq (t_l_with_fields_8 A)
  (tSeq (t_l_with_fields_9 A)
  (t_l_with_fields_10 A)))))))))))
def m_l_with_fields (A : Adr) : List D → M Unit Res := toM 2 (t_l_with_fields A)
theorem e_l_with_fields (A : Adr) (x0 : D) : m_l_with_fields A [x0] = fun s => (t_l_with_fields A [.dat x0, .emp] s).fin := rfl
def t_l_plain_0 (A : Adr) : T Unit :=
  (tAsg (fFrz (fLst (fCons (fErrP A.NoOrder (fVar 0)) (fCons (fErrP A.NoCause (fVar 0)) (fCons (fErrP A.NoTheory (fVar 0)) (fCons (fErrP A.NoCase (fVar 0)) (fCons (fErrP A.NoCosts (fVar 0)) (fCons (fErrP A.NoLie (fVar 0)) (fCons (fErrP A.NoLimit (fVar 0)) fNil))))))))) (hN 1))
def t_l_plain_1 (A : Adr) : T Unit :=
  (tAsg (fBin pAdd (fVar 1) (fFrz (fLst (fCons (fErrP A.NoCauses (fVar 0)) (fCons (fErrP A.NoClaim (fVar 0)) (fCons (fErrP A.NoChanges (fVar 0)) (fCons (fErrP A.NoSuspects (fVar 0)) (fCons (fErrP A.NoState (fVar 0)) (fCons (fErrP A.NoPlan (fVar 0)) fNil))))))))) (hN 1))
def t_l_plain_2 (A : Adr) : T Unit :=
  (tRet (fBin pAdd (fVar 1) (fFrz (fLst (fCons (fErrP A.NoNumber (fVar 0)) (fCons (fErrP A.NothingLeft (fVar 0)) fNil))))))
def t_l_plain (A : Adr) : T Unit :=
  (tSeq (t_l_plain_0 A)
  (tSeq (t_l_plain_1 A)
  (t_l_plain_2 A)))
def m_l_plain (A : Adr) : List D → M Unit Res := toM 2 (t_l_plain A)
theorem e_l_plain (A : Adr) (x0 : D) : m_l_plain A [x0] = fun s => (t_l_plain A [.dat x0, .emp] s).fin := rfl
def t_l_kinds_0 (A : Adr) : T Unit :=
  (tAsg (fFrz (fLst (fCons (fIsF ((errL A).map fun D => (D, D == A.NoHistory)) (fVar 0)) (fCons (fIsF ((errL A).map fun D => (D, D == A.NoVersion)) (fVar 0)) (fCons (fIsF ((errL A).map fun D => (D, D == A.NoChange)) (fVar 0)) fNil))))) (hN 1))
def t_l_kinds_1 (A : Adr) : T Unit :=
  (tAsg (fBin pAdd (fVar 1) (fFrz (fLst (fCons (fIsF ((errL A).map fun D => (D, D == A.NoTest)) (fVar 0)) (fCons (fIsF ((errL A).map fun D => (D, D == A.Cheaper)) (fVar 0)) (fCons (fIsF ((errL A).map fun D => (D, D == A.TooMany)) (fVar 0)) fNil)))))) (hN 1))
def t_l_kinds_2 (A : Adr) : T Unit :=
  (tAsg (fBin pAdd (fVar 1) (fFrz (fLst (fCons (fIsF ((errL A).map fun D => (D, D == A.NoOperation)) (fVar 0)) (fCons (fIsF ((errL A).map fun D => (D, D == A.NoJournal)) (fVar 0)) (fCons (fIsF ((errL A).map fun D => (D, D == A.NoText)) (fVar 0)) fNil)))))) (hN 1))
def t_l_kinds_3 (A : Adr) : T Unit :=
  (tAsg (fBin pAdd (fVar 1) (fFrz (fLst (fCons (fIsF ((errL A).map fun D => (D, D == A.NoOrder)) (fVar 0)) (fCons (fIsF ((errL A).map fun D => (D, D == A.NoCause)) (fVar 0)) (fCons (fIsF ((errL A).map fun D => (D, D == A.NoTheory)) (fVar 0)) fNil)))))) (hN 1))
def t_l_kinds_4 (A : Adr) : T Unit :=
  (tAsg (fBin pAdd (fVar 1) (fFrz (fLst (fCons (fIsF ((errL A).map fun D => (D, D == A.NoCase)) (fVar 0)) (fCons (fIsF ((errL A).map fun D => (D, D == A.NoCosts)) (fVar 0)) (fCons (fIsF ((errL A).map fun D => (D, D == A.NoLie)) (fVar 0)) fNil)))))) (hN 1))
def t_l_kinds_5 (A : Adr) : T Unit :=
  (tAsg (fBin pAdd (fVar 1) (fFrz (fLst (fCons (fIsF ((errL A).map fun D => (D, D == A.NoLimit)) (fVar 0)) (fCons (fIsF ((errL A).map fun D => (D, D == A.NoCauses)) (fVar 0)) (fCons (fIsF ((errL A).map fun D => (D, D == A.NoClaim)) (fVar 0)) fNil)))))) (hN 1))
def t_l_kinds_6 (A : Adr) : T Unit :=
  (tAsg (fBin pAdd (fVar 1) (fFrz (fLst (fCons (fIsF ((errL A).map fun D => (D, D == A.NoChanges)) (fVar 0)) (fCons (fIsF ((errL A).map fun D => (D, D == A.NoSuspects)) (fVar 0)) (fCons (fIsF ((errL A).map fun D => (D, D == A.NoState)) (fVar 0)) fNil)))))) (hN 1))
def t_l_kinds_7 (A : Adr) : T Unit :=
  (tRet (fBin pAdd (fVar 1) (fFrz (fLst (fCons (fIsF ((errL A).map fun D => (D, D == A.NoPlan)) (fVar 0)) (fCons (fIsF ((errL A).map fun D => (D, D == A.NoNumber)) (fVar 0)) (fCons (fIsF ((errL A).map fun D => (D, D == A.NothingLeft)) (fVar 0)) fNil)))))))
def t_l_kinds (A : Adr) : T Unit :=
  (tSeq (t_l_kinds_0 A)
  (tSeq (t_l_kinds_1 A)
  (tSeq (t_l_kinds_2 A)
  (tSeq (t_l_kinds_3 A)
  (tSeq (t_l_kinds_4 A)
  (tSeq (t_l_kinds_5 A)
  (tSeq (t_l_kinds_6 A)
  (t_l_kinds_7 A))))))))
def m_l_kinds (A : Adr) : List D → M Unit Res := toM 2 (t_l_kinds A)
theorem e_l_kinds (A : Adr) (x0 : D) : m_l_kinds A [x0] = fun s => (t_l_kinds A [.dat x0, .emp] s).fin := rfl

end
end Mb
namespace Mb
open PySem PySem.Spec PyProof.Rows L2
noncomputable section
def t_law_0 (dr : Dr) (A : Adr) : T DS :=
  (tRet (fC (.bl false)))
def t_law_1 (dr : Dr) (A : Adr) : T DS :=
  (tRet (fC (.bl false)))
def t_law_2 (dr : Dr) (A : Adr) : T DS :=
  (tRet (fC (.bl false)))
def t_law_3 (dr : Dr) (A : Adr) : T DS :=
  (tIf (fOr (fNot (fTest (fIsF ((errL A).map fun D => (D, true)) (fVar 5)))) (fNot (fTest (fIsF ((errL A).map fun D => (D, true)) (fVar 5))))) (t_law_1 dr A) tNx)
def t_law_4 (dr : Dr) (A : Adr) : T DS :=
  (tAsg (fIf (fTest (fBin pLt (fVar 7) (fC (.int 18)))) (fBin pFdiv (fVar 7) (fC (.int 2))) (fBin pSub (fVar 7) (fC (.int 9)))) (hN 8))
def t_law_5 (dr : Dr) (A : Adr) : T DS :=
  (tIf (fTest (fBin pNe (fFn (fun l => lift (m_l_kinds A l)) (fCons (fVar 5) fNil)) (fFrz (fLc (fCallO gRng1 (fCons (fC (.int 24)) fNil)) (hN 10) fYes (fBin pEq (fVar 10) (fVar 8)) [10])))) (t_law_2 dr A) tNx)
def t_law_6 (dr : Dr) (A : Adr) : T DS :=
  (tAsg (fFn (m_l_pick dr) (fCons (fVar 1) (fCons (fFrz (fLst (fCons (fC (.int 0)) (fCons (fC (.int 1)) (fCons (fC (.int (-1))) (fCons (fC (.bl true)) (fCons (fC .non) (fCons (fC (.str (sl "a"))) (fCons (fTup fNil) (fCons (fTup (fCons (fC (.str (sl "a"))) (fCons (fC (.int 0)) fNil))) (fCons (fBin pPow (fC (.int 10)) (fC (.int 30))) (fCons (fC (.int 5)) (fCons (fC (.str (sl ""))) (fCons (fTup (fCons (fC (.str (sl "b"))) (fCons (fC (.str (sl "a"))) fNil))) fNil)))))))))))))) fNil))) (hN 3))
def t_law_7 (dr : Dr) (A : Adr) : T DS :=
  (tAsg (fFn (fun l => lift (m_l_with_fields A l)) (fCons (fVar 3) fNil)) (hN 4))
def t_law_8 (dr : Dr) (A : Adr) : T DS :=
  (tIf (fTest (fBin pNe (fFrz (fLc (fSeq (fVar 4)) (hT 2 (hC (hN 5) (hC (hN 9) hZ))) (fTest (fBin pNeS (fCall pReprA (fCons (fVar 9) fNil)) (fCall pReprA (fCons (fVar 3) fNil)))) (fVar 9) [5, 9])) (fFrz (fLst fNil)))) (t_law_0 dr A) tNx)
def t_law_9 (dr : Dr) (A : Adr) : T DS :=
  (tAsg (fBin pAdd (fFrz (fLc (fSeq (fVar 4)) (hT 2 (hC (hN 5) (hC (hN 9) hZ))) fYes (fVar 5) [5, 9])) (fFn (fun l => lift (m_l_plain A l)) (fCons (fFn (m_l_pick dr) (fCons (fVar 1) (fCons (fFrz (fLst (fCons (fC (.str (sl ""))) (fCons (fC (.str (sl "wrong"))) (fCons (fC (.str (sl "a longer message"))) fNil))))) fNil))) fNil))) (hN 6))
def t_law_10 (dr : Dr) (A : Adr) : T DS :=
  (tFor (fEnum (fVar 6)) (hT 2 (hC (hN 7) (hC (hN 5) hZ)))
  (tSeq (t_law_3 dr A)
  (tSeq (t_law_4 dr A)
  (t_law_5 dr A))))
def t_law_11 (dr : Dr) (A : Adr) : T DS :=
  (tFor (fCallO gRng1 (fCons (fC (.int 3)) fNil)) (hN 2)
  (tSeq (t_law_6 dr A)
  (tSeq (t_law_7 dr A)
  (tSeq (t_law_8 dr A)
  (tSeq (t_law_9 dr A)
  (t_law_10 dr A))))))
def t_law_12 (dr : Dr) (A : Adr) : T DS :=
  (tRet (fC (.bl true)))
def t_law (dr : Dr) (A : Adr) : T DS :=
  (tSeq (t_law_11 dr A)
  (t_law_12 dr A))

end
end Mb
namespace Mb
open PySem PySem.Spec PyProof.Rows L2
def t_l_begun1 (a : Addr) (ns : List Int) : T Unit :=
  (tSetO (fLc (fScr a ns 0) (hN 2) (fTest (fBin pGe (fCall pAbs (fCons (fVar 2) fNil)) (fBin pPow (fC (.int 10)) (fC (.int 18))))) (fBin pFdiv (fCall pAbs (fCons (fVar 2) fNil)) (fBin pPow (fC (.int 10)) (fC (.int 18)))) [2]) 1)
def f_l_begun2 (a : Addr) (ns : List Int) : F Unit (List D) :=
  (fLc (fScr a ns 0) (hN 2) fYes (fBin pMod (fCall pIntC (fCons (fCall pAbs (fCons (fVar 2) fNil)) fNil)) (fBin pPow (fC (.int 10)) (fC (.int 18)))) [2])
end Mb
namespace Mb
open PySem PySem.Spec PyProof.Rows L2
@[irreducible] def E18 : Int := 1000000000000000000
theorem E18_pos : 0 < E18 := by
  unfold E18
  decide
theorem E18_log : E18.natAbs.log2 < 9000 := by
  unfold E18
  decide +kernel
theorem pow18 : (fBin pPow (fC (.int 10)) (fC (.int 18)) : F Unit D) = fC (.int E18) := by
  funext Γ s
  have e : pPow (.int 10) (.int 18) = some (.int E18) := by
    unfold pPow E18
    rfl
  unfold fBin fC
  simp only [bnd_ret, e]
  rfl
theorem bnd_at {S α β : Type} {m : M S α} {f : α → M S β} {s s' : S} {x : α} (h : m s = .ok x s') : bnd m f s = f x s' := by
  unfold bnd
  rw [h]
theorem scr_at {a : Addr} {ns : List Int} {Γ : Ctx} {s : Unit} (h : Γ[0]? = some (.dat (.adr a))) : fScr a ns 0 Γ s = .ok (intsD' ns) s := by
  unfold fScr
  rw [h]
  simp
theorem beg1_ok : ∀ (a : Addr) (ns : List Int), ns.length ≤ 63 → ∃ gr : List Int, gr.length ≤ 63 ∧ ∃ Γ, t_l_begun1 a ns (startC 3 [.adr a]) () = .nx Γ () ∧ Γ[1]? = some (.own (intsD' gr)) ∧ Γ[0]? = some (.dat (.adr a)) ∧ Γ.length = 3 := fun a ns hl => by
  have main : lcF (lcOne (hN 2) (fTest (fBin pGe (fCall pAbs (fCons (fVar 2) fNil)) (fC (.int E18)))) (fBin pFdiv (fCall pAbs (fCons (fVar 2) fNil)) (fC (.int E18))) [.dat (.adr a), .emp, .emp]) (ns.map D.int) = (ret ((ns.filter fun n => decide ((if n < 0 then -n else n) ≥ E18)).map fun n => D.int ((if n < 0 then -n else n) / E18)) : M Unit _) := lcF_enc D.int (fun n => decide ((if n < 0 then -n else n) ≥ E18)) (fun n => D.int ((if n < 0 then -n else n) / E18)) fun n _ => by
    funext s
    have h1 := E18_pos
    have h2 := E18_log
    by_cases hz : E18 ≤ (if n < 0 then -n else n)
    · simp [lcOne, h1, h2, hz]
    · simp [lcOne, h1, h2, hz]
  refine ⟨(ns.filter fun n => decide ((if n < 0 then -n else n) ≥ E18)).map fun n => (if n < 0 then -n else n) / E18, ?_, ?_⟩
  · rw [List.length_map]
    exact Nat.le_trans (List.length_filter_le _ _) hl
  · have main' := congrFun main ()
    refine ⟨[.dat (.adr a), .own ((ns.filter fun n => decide ((if n < 0 then -n else n) ≥ E18)).map fun n => D.int ((if n < 0 then -n else n) / E18)), .emp], ?_, ?_, rfl, rfl⟩
    · unfold t_l_begun1
      rw [pow18]
      show ((bnd (fScr a ns 0 [.dat (.adr a), .emp, .emp]) (fun ds => lcF (lcOne (hN 2) (fTest (fBin pGe (fCall pAbs (fCons (fVar 2) fNil)) (fC (.int E18)))) (fBin pFdiv (fCall pAbs (fCons (fVar 2) fNil)) (fC (.int E18))) [.dat (.adr a), .emp, .emp]) ds) ()).run _ _) = _
      rw [bnd_at (scr_at rfl), main']
      rfl
    · show some (Sl.own _) = _
      rw [intsD', List.map_map]
      rfl
theorem beg2_ok : ∀ (a : Addr) (ns : List Int) (Γ : Ctx), ns.length ≤ 63 → Γ[0]? = some (.dat (.adr a)) → Γ.length = 3 → ∃ ls : List Int, f_l_begun2 a ns Γ () = .ok (intsD' ls) () := fun a ns Γ hl h0 h3 => by
  have main : ∀ Γ : Ctx, 2 < Γ.length → lcF (lcOne (hN 2) fYes (fBin pMod (fCall pIntC (fCons (fCall pAbs (fCons (fVar 2) fNil)) fNil)) (fC (.int E18))) Γ) (ns.map D.int) = (ret (ns.map fun n => D.int ((if n < 0 then -n else n) % E18)) : M Unit _) := fun Γ h2 => lcF_map D.int (fun n => D.int ((if n < 0 then -n else n) % E18)) fun n _ => by
    funext s
    have h1 := E18_pos
    have e : (Γ.set 2 (.dat (.int n)))[2]? = some (.dat (.int n)) := by rw [List.getElem?_set_self h2]
    simp [lcOne, h1, e, h2]
  refine ⟨ns.map fun n => (if n < 0 then -n else n) % E18, ?_⟩
  unfold f_l_begun2
  rw [pow18]
  show (bnd (fScr a ns 0 Γ) (fun ds => lcF (lcOne (hN 2) fYes (fBin pMod (fCall pIntC (fCons (fCall pAbs (fCons (fVar 2) fNil)) fNil)) (fC (.int E18))) (wipeC Γ [2])) ds) ()) = _
  rw [bnd_at (scr_at h0), congrFun (main (wipeC Γ [2]) (by show 2 < (Γ.set 2 .emp).length; rw [List.length_set]; omega)) ()]
  rw [intsD', List.map_map]
  rfl
end Mb
namespace Mb
open PySem PySem.Spec PyProof.Rows L2
structure Txt (K : PySem.W.Frag) (mg : Str → Option Value) (A : Adr) : Prop where
  m_ValueError : mg "ValueError" = none
  m_abs : mg "abs" = none
  m_enumerate : mg "enumerate" = none
  g_BlameError : mg "BlameError" = some (.ref A.BlameError)
  g_Cheaper : mg "Cheaper" = some (.ref A.Cheaper)
  g_NoCase : mg "NoCase" = some (.ref A.NoCase)
  g_NoCause : mg "NoCause" = some (.ref A.NoCause)
  g_NoCauses : mg "NoCauses" = some (.ref A.NoCauses)
  g_NoChange : mg "NoChange" = some (.ref A.NoChange)
  g_NoChanges : mg "NoChanges" = some (.ref A.NoChanges)
  g_NoClaim : mg "NoClaim" = some (.ref A.NoClaim)
  g_NoCosts : mg "NoCosts" = some (.ref A.NoCosts)
  g_NoHistory : mg "NoHistory" = some (.ref A.NoHistory)
  g_NoJournal : mg "NoJournal" = some (.ref A.NoJournal)
  g_NoLie : mg "NoLie" = some (.ref A.NoLie)
  g_NoLimit : mg "NoLimit" = some (.ref A.NoLimit)
  g_NoNumber : mg "NoNumber" = some (.ref A.NoNumber)
  g_NoOperation : mg "NoOperation" = some (.ref A.NoOperation)
  g_NoOrder : mg "NoOrder" = some (.ref A.NoOrder)
  g_NoPlan : mg "NoPlan" = some (.ref A.NoPlan)
  g_NoState : mg "NoState" = some (.ref A.NoState)
  g_NoSuspects : mg "NoSuspects" = some (.ref A.NoSuspects)
  g_NoTest : mg "NoTest" = some (.ref A.NoTest)
  g_NoText : mg "NoText" = some (.ref A.NoText)
  g_NoTheory : mg "NoTheory" = some (.ref A.NoTheory)
  g_NoVersion : mg "NoVersion" = some (.ref A.NoVersion)
  g_NothingLeft : mg "NothingLeft" = some (.ref A.NothingLeft)
  g_TooMany : mg "TooMany" = some (.ref A.TooMany)
  kits : kitsB K (errL A) = true
  excs : excsB K (errL A) = true
  kitE : kitsV K (errL A) (.ref A.BlameError) = true
  kitV : kitsV K (errL A) (.type "ValueError") = true
  ndE : (errL A).Nodup
  m_int : mg "int" = none
  m_isinstance : mg "isinstance" = none
  m_len : mg "len" = none
  er_NoCase : ErrC K A.NoCase
  er_NoCause : ErrC K A.NoCause
  er_NoCauses : ErrC K A.NoCauses
  er_NoChanges : ErrC K A.NoChanges
  er_NoClaim : ErrC K A.NoClaim
  er_NoCosts : ErrC K A.NoCosts
  er_NoLie : ErrC K A.NoLie
  er_NoLimit : ErrC K A.NoLimit
  er_NoNumber : ErrC K A.NoNumber
  er_NoOrder : ErrC K A.NoOrder
  er_NoPlan : ErrC K A.NoPlan
  er_NoState : ErrC K A.NoState
  er_NoSuspects : ErrC K A.NoSuspects
  er_NoTheory : ErrC K A.NoTheory
  er_NothingLeft : ErrC K A.NothingLeft
  m_range : mg "range" = none
  m_repr : mg "repr" = none
  xn_Cheaper : PySem.W.findIn K (.ref A.Cheaper) "least" = some none
  xn_NoChange : PySem.W.findIn K (.ref A.NoChange) "change" = some none
  xn_NoHistory : PySem.W.findIn K (.ref A.NoHistory) "at" = some none
  xn_NoJournal : PySem.W.findIn K (.ref A.NoJournal) "at" = some none
  xn_NoOperation : PySem.W.findIn K (.ref A.NoOperation) "at" = some none
  xn_NoTest : PySem.W.findIn K (.ref A.NoTest) "at" = some none
  xn_NoText : PySem.W.findIn K (.ref A.NoText) "row" = some none
  xn_NoVersion : PySem.W.findIn K (.ref A.NoVersion) "version" = some none
  xn_TooMany : PySem.W.findIn K (.ref A.TooMany) "most" = some none
section
variable {P : Program} {wd : World} {K : PySem.W.Frag} {mg : Str → Option Value} {base : Heap}
abbrev s_l_next : Stmt := (topS 28)
theorem sc_l_next : FnScope ["_law_draw", "_law_many", "_law_found", "_law_turn", "_law_lump", "_law_mixed"] ["_law_draw", "_law_many"] (defScope s_l_next) := ⟨rfl, rfl, rfl, by decide +kernel, rfl, by decide +kernel, by decide +kernel⟩
theorem b_l_next (dr : Dr) {A : Adr} (T : Txt K mg A)  {f : Addr} {cdv : Value} {A1 : Around} {outer : List Env} {s : Shared} {H : Hp} {E : XK} (hr : Room 1 (A1.deeper (envOfC "_law_next" (defScope s_l_next) s.heap.objs.size f cdv))) :
    MB (cxOf CX0 P wd K mg base ["_law_draw", "_law_many", "_law_found", "_law_turn", "_law_lump", "_law_mixed"] "_law_next" (defScope s_l_next) f cdv A1 outer s H E).nox (dsR dr) WF (defBody s_l_next) (sF (t_l_next dr)) :=
  (ts_cons (ts_while 1000 (ms_while PassesOwn.never (MW.mt (fmw_and (ft_bin (mt_cmp (op_eqD (hu64 hr)) snd_eq (fe_dg (me_dgD (hu64 hr) (pv 0))) (fe_c me_int)) br_eq) (mw_and1 (ft_gr (mt_gr (hu64 hr) (pv 0)))))) (ts_one (ts_dg (ms_dg (hu64 hr) (pv 0) (fe_pop (me_pop (hu64 hr) (pv 0) (fun t to h1 h2 => pe_bm PySem.F.plainAttrs_list PySem.F.slot_list_pop PySem.F.type_list_pop mt_popAt h1 h2) pe_int)))))))
  (ts_cons (ts_if (ft_bin (mt_cmp or_gt ms_gt (fe_dg (me_dgD (hu64 hr) (pv 0))) (fe_c me_int)) br_gt) (ts_cons (ts_set (ms_set 2 sc_l_next.nd (fe_bin (me_op op_mod ms_mod (fe_call (me_cb (fun t h => pe_callTy call_int1 (by rfl) T.m_int (by decide +kernel) h) ms_int (fa_cons (fe_dg (me_dgD (hu64 hr) (pv 0))) fa_nil)) br_int) (fe_var 1 (me_var 1))) br_mod)))
  (ts_cons (ts_dg (ms_dg (hu64 hr) (pv 0) (fe_bin (me_op op_fdivW ms_fdiv (fe_dg (me_dgD (hu64 hr) (pv 0))) (fe_var 1 (me_var 1))) br_fdiv)))
  (ts_one (ts_ret (ms_ret (fe_var 2 (me_var 2))))))) ts_nil)
  (ts_cons (ts_tn (ms_tn (hu64 hr) (pv 0) pe_int))
  (ts_cons (ts_set (ms_set 3 sc_l_next.nd (fe_dg (me_dgT (hu64 hr) (pv 0)))))
  (ts_cons (ts_set (ms_set 4 sc_l_next.nd (fe_c me_int)))
  (ts_cons (ts_if (ft_bin (mt_cmp (op_neD (hu64 hr)) snd_ne (fe_dg (me_dgL (hu64 hr) (pv 0))) (fe_frz (fo_lst fa_nil (le_b le_nil)))) br_ne) (ts_one (ts_set (ms_set 4 sc_l_next.nd (fe_bin (me_ix (fe_dg (me_dgL (hu64 hr) (pv 0))) (fe_bin (me_op op_mod ms_mod (fe_call (me_cb (fun t h => pe_callTy call_int1 (by rfl) T.m_int (by decide +kernel) h) ms_int (fa_cons (fe_var 3 (me_var 3)) fa_nil)) br_int) (fe_call (me_cb (fun t h => pe_callB call_len (by rfl) T.m_len boot_len h) ms_len (fa_cons (fe_dg (me_dgL (hu64 hr) (pv 0))) fa_nil)) br_len)) br_mod)) br_ix)))) ts_nil)
  (ts_cons (ts_set (ms_set 5 sc_l_next.nd (fe_bin (me_op op_mod ms_mod (fe_call (me_cb (fun t h => pe_callTy call_int1 (by rfl) T.m_int (by decide +kernel) h) ms_int (fa_cons (fe_bin (me_op op_pow ms_pow (fe_bin (me_op or_addA ms_add (fe_bin (me_op op_mod ms_mod (fe_call (me_cb (fun t h => pe_callTy call_int1 (by rfl) T.m_int (by decide +kernel) h) ms_int (fa_cons (fe_var 4 (me_var 4)) fa_nil)) br_int) (fe_c me_int)) br_mod) (fe_bin (me_op or_mulA ms_mul (fe_c me_int) (fe_var 3 (me_var 3))) br_mul)) br_add) (fe_c me_int)) br_pow) fa_nil)) br_int) (fe_c me_int)) br_mod)))
  (ts_one (ts_ret (ms_ret (fe_bin (me_op op_mod ms_mod (fe_call (me_cb (fun t h => pe_callTy call_int1 (by rfl) T.m_int (by decide +kernel) h) ms_int (fa_cons (fe_bin (me_op op_fdivW ms_fdiv (fe_bin (me_op op_mod ms_mod (fe_call (me_cb (fun t h => pe_callTy call_int1 (by rfl) T.m_int (by decide +kernel) h) ms_int (fa_cons (fe_bin (me_op op_pow ms_pow (fe_bin (me_op or_addA ms_add (fe_var 5 (me_var 5)) (fe_bin (me_op or_mulA ms_mul (fe_c me_int) (fe_var 3 (me_var 3))) br_mul)) br_add) (fe_c me_int)) br_pow) fa_nil)) br_int) (fe_c me_int)) br_mod) (fe_c me_int)) br_fdiv) fa_nil)) br_int) (fe_var 1 (me_var 1))) br_mod)))))))))))
theorem ok_l_next (dr : Dr) {A : Adr} (T : Txt K mg A)  {f : Addr} {fd : FuncData} (Fk : Fun K "_law_next" "_law_next" s_l_next f fd) : FnOk P wd K mg base CX0 2 f fd ["_law_draw", "_law_many"] (spW K (dsR dr) (FWof 2 (m_l_next dr))) :=
  fn_of' Fk sc_l_next (fun ds s q r h => toM_of h) fun cdv A1 outer s H E hr => b_l_next dr T  hr
abbrev s_l_pick : Stmt := (topS 29)
theorem sc_l_pick : FnScope ["_law_draw", "_law_some"] ["_law_draw", "_law_some"] (defScope s_l_pick) := ⟨rfl, rfl, rfl, by decide +kernel, rfl, by decide +kernel, by decide +kernel⟩
theorem b_l_pick (dr : Dr) {A : Adr} (T : Txt K mg A) (c_l_next : Cal P wd K mg base "_law_next" ["_law_draw", "_law_many"] 2 (spW K (dsR dr) (FWof 2 (m_l_next dr)))) {f : Addr} {cdv : Value} {A1 : Around} {outer : List Env} {s : Shared} {H : Hp} {E : XK} (hr : Room 2 (A1.deeper (envOfC "_law_pick" (defScope s_l_pick) s.heap.objs.size f cdv))) :
    MB (cxOf CX0 P wd K mg base ["_law_draw", "_law_some"] "_law_pick" (defScope s_l_pick) f cdv A1 outer s H E).nox (dsR dr) WF (defBody s_l_pick) (sF (t_l_pick dr)) :=
  (ts_one (ts_ret (ms_ret (fe_bin (me_ix (fe_var 1 (me_var 1)) (fe_fn (le_cons (le_cons le_nil)) (me_fn c_l_next (hr.mono (by decide)) (fa_cons (fe_var 0 (me_var 0)) (fa_cons (fe_call (me_cb (fun t h => pe_callB call_len (by rfl) T.m_len boot_len h) ms_len (fa_cons (fe_var 1 (me_var 1)) fa_nil)) br_len) fa_nil))))) br_ix))))
theorem ok_l_pick (dr : Dr) {A : Adr} (T : Txt K mg A) (c_l_next : Cal P wd K mg base "_law_next" ["_law_draw", "_law_many"] 2 (spW K (dsR dr) (FWof 2 (m_l_next dr)))) {f : Addr} {fd : FuncData} (Fk : Fun K "_law_pick" "_law_pick" s_l_pick f fd) : FnOk P wd K mg base CX0 3 f fd ["_law_draw", "_law_some"] (spW K (dsR dr) (FWof 2 (m_l_pick dr))) :=
  fn_of' Fk sc_l_pick (fun ds s q r h => toM_of h) fun cdv A1 outer s H E hr => b_l_pick dr T c_l_next hr

abbrev s_l_begun : Stmt := (topS 27)
theorem sc_l_begun : FnScope ["_law_script", "_law_great", "_law_lump"] ["_law_script"] (defScope s_l_begun) := ⟨rfl, rfl, rfl, by decide +kernel, rfl, by decide +kernel, by decide +kernel⟩
theorem ok_l_begun {A : Adr} (T : Txt K mg A) {f : Addr} {fd : FuncData} (Fk : Fun K "_law_begun" "_law_begun" s_l_begun f fd) : FnOk P wd K mg base CX0 2 f fd ["_law_script"] (spBeg K) :=
  beg_of t_l_begun1 f_l_begun2 rfl Fk sc_l_begun (by rfl) beg1_ok beg2_ok fun a ns cdv A1 outer s H E hr => ⟨(ts_setO_lc (ms_setLcO 1 [("_law_lump", 2)] rfl sc_l_begun.nd (fi_scr (pv 0)) (blkOk_by (by kernel_rfl)) ⟨fun _ _ _ _ _ => (fg_name (mg_name 2 sc_l_begun.nd)), fun _ _ _ _ _ => (fts_one (ft_bin (mt_cmp or_ge ms_ge (fe_call (me_cb (fun t h => pe_callB call_abs (by rfl) T.m_abs (by decide +kernel) h) ms_abs (fa_cons (fe_var 2 (me_var 2)) fa_nil)) br_abs) (fe_bin (me_op op_pow ms_pow (fe_c me_int) (fe_c me_int)) br_pow)) br_ge)), fun _ _ _ _ _ => (fe_bin (me_op op_fdivW ms_fdiv (fe_call (me_cb (fun t h => pe_callB call_abs (by rfl) T.m_abs (by decide +kernel) h) ms_abs (fa_cons (fe_var 2 (me_var 2)) fa_nil)) br_abs) (fe_bin (me_op op_pow ms_pow (fe_c me_int) (fe_c me_int)) br_pow)) br_fdiv)⟩ (sw_true rfl rfl rfl (by decide +kernel)))),
    (fo_lc (mo_lc [("_law_lump", 2)] rfl sc_l_begun.nd (fi_scr (pv 0)) (blkOk_by (by kernel_rfl)) ⟨fun _ _ _ _ _ => (fg_name (mg_name 2 sc_l_begun.nd)), fun _ _ _ _ _ => fts_nil, fun _ _ _ _ _ => (fe_bin (me_op op_mod ms_mod (fe_call (me_cb (fun t h => pe_callTy call_int1 (by rfl) T.m_int (by decide +kernel) h) ms_int (fa_cons (fe_call (me_cb (fun t h => pe_callB call_abs (by rfl) T.m_abs (by decide +kernel) h) ms_abs (fa_cons (fe_var 2 (me_var 2)) fa_nil)) br_abs) fa_nil)) br_int) (fe_bin (me_op op_pow ms_pow (fe_c me_int) (fe_c me_int)) br_pow)) br_mod)⟩)), (pv 1), pe_int, pe_int⟩
abbrev s_l_with_fields : Stmt := (topS 30)
theorem sc_l_with_fields : FnScope ["_law_value", "_law_found"] ["_law_value"] (defScope s_l_with_fields) := ⟨rfl, rfl, rfl, by decide +kernel, rfl, by decide +kernel, by decide +kernel⟩
theorem b_l_with_fields {A : Adr} (T : Txt K mg A) (c_ev_NoHistory : CalV P wd K mg base "NoHistory" A.NoHistory "at" 1) (c_ev_NoVersion : CalV P wd K mg base "NoVersion" A.NoVersion "version" 1) (c_ev_NoChange : CalV P wd K mg base "NoChange" A.NoChange "change" 1) (c_ev_NoTest : CalV P wd K mg base "NoTest" A.NoTest "at" 1) (c_ev_Cheaper : CalV P wd K mg base "Cheaper" A.Cheaper "least" 1) (c_ev_TooMany : CalV P wd K mg base "TooMany" A.TooMany "most" 1) (c_ev_NoOperation : CalV P wd K mg base "NoOperation" A.NoOperation "at" 1) (c_ev_NoJournal : CalV P wd K mg base "NoJournal" A.NoJournal "at" 1) (c_ev_NoText : CalV P wd K mg base "NoText" A.NoText "row" 1) {f : Addr} {cdv : Value} {A1 : Around} {outer : List Env} {s : Shared} {H : Hp} {E : XK} (hr : Room 2 (A1.deeper (envOfC "_law_with_fields" (defScope s_l_with_fields) s.heap.objs.size f cdv))) :
    MB (cxOf CX0 P wd K mg base ["_law_value", "_law_found"] "_law_with_fields" (defScope s_l_with_fields) f cdv A1 outer s H E).nox Rs.none WF (defBody s_l_with_fields) (sF (t_l_with_fields A)) :=
  (ts_cons (ts_setO (ms_setO 1 sc_l_with_fields.nd (fo_lst (fa_cons (fe_tup (fa_cons (fe_errV (f := "at") c_ev_NoHistory (hr.mono (by decide)) (fe_var 0 (me_var 0))) (fa_cons (fe_errF (cs := [A.NoHistory]) (f := "at") (by intro C hC; rw [List.mem_singleton] at hC; rw [hC]; exact ⟨xf_at T.excs (by simp [errL]), T.xn_NoHistory⟩) (fe_errV (f := "at") c_ev_NoHistory (hr.mono (by decide)) (fe_var 0 (me_var 0)))) fa_nil)) (le_b (le_cons (le_cons le_nil)))) (fa_cons (fe_tup (fa_cons (fe_errVK (f := "at") c_ev_NoHistory (hr.mono (by decide)) (fk_cons (fe_var 0 (me_var 0)) fk_nil)) (fa_cons (fe_errF (cs := [A.NoHistory]) (f := "at") (by intro C hC; rw [List.mem_singleton] at hC; rw [hC]; exact ⟨xf_at T.excs (by simp [errL]), T.xn_NoHistory⟩) (fe_errVK (f := "at") c_ev_NoHistory (hr.mono (by decide)) (fk_cons (fe_var 0 (me_var 0)) fk_nil))) fa_nil)) (le_b (le_cons (le_cons le_nil)))) fa_nil)) (le_b (le_cons (le_cons le_nil))))))
  (ts_cons (ts_app (ms_app 1 (fe_tup (fa_cons (fe_errV (f := "version") c_ev_NoVersion (hr.mono (by decide)) (fe_var 0 (me_var 0))) (fa_cons (fe_errF (cs := [A.NoVersion]) (f := "version") (by intro C hC; rw [List.mem_singleton] at hC; rw [hC]; exact ⟨xf_at T.excs (by simp [errL]), T.xn_NoVersion⟩) (fe_errV (f := "version") c_ev_NoVersion (hr.mono (by decide)) (fe_var 0 (me_var 0)))) fa_nil)) (le_b (le_cons (le_cons le_nil)))) (hpe := fun t h => pe_bm PySem.F.plainAttrs_list PySem.F.slot_list_append PySem.F.type_list_append mt_append (pv 1) h)))
  (ts_cons (ts_app (ms_app 1 (fe_tup (fa_cons (fe_errVK (f := "version") c_ev_NoVersion (hr.mono (by decide)) (fk_cons (fe_var 0 (me_var 0)) fk_nil)) (fa_cons (fe_errF (cs := [A.NoVersion]) (f := "version") (by intro C hC; rw [List.mem_singleton] at hC; rw [hC]; exact ⟨xf_at T.excs (by simp [errL]), T.xn_NoVersion⟩) (fe_errVK (f := "version") c_ev_NoVersion (hr.mono (by decide)) (fk_cons (fe_var 0 (me_var 0)) fk_nil))) fa_nil)) (le_b (le_cons (le_cons le_nil)))) (hpe := fun t h => pe_bm PySem.F.plainAttrs_list PySem.F.slot_list_append PySem.F.type_list_append mt_append (pv 1) h)))
  (ts_cons (ts_app (ms_app 1 (fe_tup (fa_cons (fe_errV (f := "change") c_ev_NoChange (hr.mono (by decide)) (fe_var 0 (me_var 0))) (fa_cons (fe_errF (cs := [A.NoChange]) (f := "change") (by intro C hC; rw [List.mem_singleton] at hC; rw [hC]; exact ⟨xf_at T.excs (by simp [errL]), T.xn_NoChange⟩) (fe_errV (f := "change") c_ev_NoChange (hr.mono (by decide)) (fe_var 0 (me_var 0)))) fa_nil)) (le_b (le_cons (le_cons le_nil)))) (hpe := fun t h => pe_bm PySem.F.plainAttrs_list PySem.F.slot_list_append PySem.F.type_list_append mt_append (pv 1) h)))
  (ts_cons (ts_app (ms_app 1 (fe_tup (fa_cons (fe_errVK (f := "change") c_ev_NoChange (hr.mono (by decide)) (fk_cons (fe_var 0 (me_var 0)) fk_nil)) (fa_cons (fe_errF (cs := [A.NoChange]) (f := "change") (by intro C hC; rw [List.mem_singleton] at hC; rw [hC]; exact ⟨xf_at T.excs (by simp [errL]), T.xn_NoChange⟩) (fe_errVK (f := "change") c_ev_NoChange (hr.mono (by decide)) (fk_cons (fe_var 0 (me_var 0)) fk_nil))) fa_nil)) (le_b (le_cons (le_cons le_nil)))) (hpe := fun t h => pe_bm PySem.F.plainAttrs_list PySem.F.slot_list_append PySem.F.type_list_append mt_append (pv 1) h)))
  (ts_cons (ts_setO (ms_setO 1 sc_l_with_fields.nd (fo_catV 1 (fe_frz (fo_lst (fa_cons (fe_tup (fa_cons (fe_errV (f := "at") c_ev_NoTest (hr.mono (by decide)) (fe_var 0 (me_var 0))) (fa_cons (fe_errF (cs := [A.NoTest]) (f := "at") (by intro C hC; rw [List.mem_singleton] at hC; rw [hC]; exact ⟨xf_at T.excs (by simp [errL]), T.xn_NoTest⟩) (fe_errV (f := "at") c_ev_NoTest (hr.mono (by decide)) (fe_var 0 (me_var 0)))) fa_nil)) (le_b (le_cons (le_cons le_nil)))) (fa_cons (fe_tup (fa_cons (fe_errVK (f := "at") c_ev_NoTest (hr.mono (by decide)) (fk_cons (fe_var 0 (me_var 0)) fk_nil)) (fa_cons (fe_errF (cs := [A.NoTest]) (f := "at") (by intro C hC; rw [List.mem_singleton] at hC; rw [hC]; exact ⟨xf_at T.excs (by simp [errL]), T.xn_NoTest⟩) (fe_errVK (f := "at") c_ev_NoTest (hr.mono (by decide)) (fk_cons (fe_var 0 (me_var 0)) fk_nil))) fa_nil)) (le_b (le_cons (le_cons le_nil)))) fa_nil)) (le_b (le_cons (le_cons le_nil))))))))
  (ts_cons (ts_setO (ms_setO 1 sc_l_with_fields.nd (fo_catV 1 (fe_frz (fo_lst (fa_cons (fe_tup (fa_cons (fe_errV (f := "least") c_ev_Cheaper (hr.mono (by decide)) (fe_var 0 (me_var 0))) (fa_cons (fe_errF (cs := [A.Cheaper]) (f := "least") (by intro C hC; rw [List.mem_singleton] at hC; rw [hC]; exact ⟨xf_at T.excs (by simp [errL]), T.xn_Cheaper⟩) (fe_errV (f := "least") c_ev_Cheaper (hr.mono (by decide)) (fe_var 0 (me_var 0)))) fa_nil)) (le_b (le_cons (le_cons le_nil)))) (fa_cons (fe_tup (fa_cons (fe_errVK (f := "least") c_ev_Cheaper (hr.mono (by decide)) (fk_cons (fe_var 0 (me_var 0)) fk_nil)) (fa_cons (fe_errF (cs := [A.Cheaper]) (f := "least") (by intro C hC; rw [List.mem_singleton] at hC; rw [hC]; exact ⟨xf_at T.excs (by simp [errL]), T.xn_Cheaper⟩) (fe_errVK (f := "least") c_ev_Cheaper (hr.mono (by decide)) (fk_cons (fe_var 0 (me_var 0)) fk_nil))) fa_nil)) (le_b (le_cons (le_cons le_nil)))) fa_nil)) (le_b (le_cons (le_cons le_nil))))))))
  (ts_cons (ts_setO (ms_setO 1 sc_l_with_fields.nd (fo_catV 1 (fe_frz (fo_lst (fa_cons (fe_tup (fa_cons (fe_errV (f := "most") c_ev_TooMany (hr.mono (by decide)) (fe_var 0 (me_var 0))) (fa_cons (fe_errF (cs := [A.TooMany]) (f := "most") (by intro C hC; rw [List.mem_singleton] at hC; rw [hC]; exact ⟨xf_at T.excs (by simp [errL]), T.xn_TooMany⟩) (fe_errV (f := "most") c_ev_TooMany (hr.mono (by decide)) (fe_var 0 (me_var 0)))) fa_nil)) (le_b (le_cons (le_cons le_nil)))) (fa_cons (fe_tup (fa_cons (fe_errVK (f := "most") c_ev_TooMany (hr.mono (by decide)) (fk_cons (fe_var 0 (me_var 0)) fk_nil)) (fa_cons (fe_errF (cs := [A.TooMany]) (f := "most") (by intro C hC; rw [List.mem_singleton] at hC; rw [hC]; exact ⟨xf_at T.excs (by simp [errL]), T.xn_TooMany⟩) (fe_errVK (f := "most") c_ev_TooMany (hr.mono (by decide)) (fk_cons (fe_var 0 (me_var 0)) fk_nil))) fa_nil)) (le_b (le_cons (le_cons le_nil)))) fa_nil)) (le_b (le_cons (le_cons le_nil))))))))
  (ts_cons (ts_setO (ms_setO 1 sc_l_with_fields.nd (fo_catV 1 (fe_frz (fo_lst (fa_cons (fe_tup (fa_cons (fe_errV (f := "at") c_ev_NoOperation (hr.mono (by decide)) (fe_var 0 (me_var 0))) (fa_cons (fe_errF (cs := [A.NoOperation]) (f := "at") (by intro C hC; rw [List.mem_singleton] at hC; rw [hC]; exact ⟨xf_at T.excs (by simp [errL]), T.xn_NoOperation⟩) (fe_errV (f := "at") c_ev_NoOperation (hr.mono (by decide)) (fe_var 0 (me_var 0)))) fa_nil)) (le_b (le_cons (le_cons le_nil)))) (fa_cons (fe_tup (fa_cons (fe_errVK (f := "at") c_ev_NoOperation (hr.mono (by decide)) (fk_cons (fe_var 0 (me_var 0)) fk_nil)) (fa_cons (fe_errF (cs := [A.NoOperation]) (f := "at") (by intro C hC; rw [List.mem_singleton] at hC; rw [hC]; exact ⟨xf_at T.excs (by simp [errL]), T.xn_NoOperation⟩) (fe_errVK (f := "at") c_ev_NoOperation (hr.mono (by decide)) (fk_cons (fe_var 0 (me_var 0)) fk_nil))) fa_nil)) (le_b (le_cons (le_cons le_nil)))) fa_nil)) (le_b (le_cons (le_cons le_nil))))))))
  (ts_cons (ts_setO (ms_setO 1 sc_l_with_fields.nd (fo_catV 1 (fe_frz (fo_lst (fa_cons (fe_tup (fa_cons (fe_errV (f := "at") c_ev_NoJournal (hr.mono (by decide)) (fe_var 0 (me_var 0))) (fa_cons (fe_errF (cs := [A.NoJournal]) (f := "at") (by intro C hC; rw [List.mem_singleton] at hC; rw [hC]; exact ⟨xf_at T.excs (by simp [errL]), T.xn_NoJournal⟩) (fe_errV (f := "at") c_ev_NoJournal (hr.mono (by decide)) (fe_var 0 (me_var 0)))) fa_nil)) (le_b (le_cons (le_cons le_nil)))) (fa_cons (fe_tup (fa_cons (fe_errVK (f := "at") c_ev_NoJournal (hr.mono (by decide)) (fk_cons (fe_var 0 (me_var 0)) fk_nil)) (fa_cons (fe_errF (cs := [A.NoJournal]) (f := "at") (by intro C hC; rw [List.mem_singleton] at hC; rw [hC]; exact ⟨xf_at T.excs (by simp [errL]), T.xn_NoJournal⟩) (fe_errVK (f := "at") c_ev_NoJournal (hr.mono (by decide)) (fk_cons (fe_var 0 (me_var 0)) fk_nil))) fa_nil)) (le_b (le_cons (le_cons le_nil)))) fa_nil)) (le_b (le_cons (le_cons le_nil))))))))
  (ts_one (ts_fz 1 (ts_ret (ms_ret (fe_bin (me_op or_addA ms_add (fe_var 1 (me_var 1)) (fe_frz (fo_lst (fa_cons (fe_tup (fa_cons (fe_errV (f := "row") c_ev_NoText (hr.mono (by decide)) (fe_var 0 (me_var 0))) (fa_cons (fe_errF (cs := [A.NoText]) (f := "row") (by intro C hC; rw [List.mem_singleton] at hC; rw [hC]; exact ⟨xf_at T.excs (by simp [errL]), T.xn_NoText⟩) (fe_errV (f := "row") c_ev_NoText (hr.mono (by decide)) (fe_var 0 (me_var 0)))) fa_nil)) (le_b (le_cons (le_cons le_nil)))) (fa_cons (fe_tup (fa_cons (fe_errVK (f := "row") c_ev_NoText (hr.mono (by decide)) (fk_cons (fe_var 0 (me_var 0)) fk_nil)) (fa_cons (fe_errF (cs := [A.NoText]) (f := "row") (by intro C hC; rw [List.mem_singleton] at hC; rw [hC]; exact ⟨xf_at T.excs (by simp [errL]), T.xn_NoText⟩) (fe_errVK (f := "row") c_ev_NoText (hr.mono (by decide)) (fk_cons (fe_var 0 (me_var 0)) fk_nil))) fa_nil)) (le_b (le_cons (le_cons le_nil)))) fa_nil)) (le_b (le_cons (le_cons le_nil)))))) br_add)))))))))))))))
theorem ok_l_with_fields {A : Adr} (T : Txt K mg A) (c_ev_NoHistory : CalV P wd K mg base "NoHistory" A.NoHistory "at" 1) (c_ev_NoVersion : CalV P wd K mg base "NoVersion" A.NoVersion "version" 1) (c_ev_NoChange : CalV P wd K mg base "NoChange" A.NoChange "change" 1) (c_ev_NoTest : CalV P wd K mg base "NoTest" A.NoTest "at" 1) (c_ev_Cheaper : CalV P wd K mg base "Cheaper" A.Cheaper "least" 1) (c_ev_TooMany : CalV P wd K mg base "TooMany" A.TooMany "most" 1) (c_ev_NoOperation : CalV P wd K mg base "NoOperation" A.NoOperation "at" 1) (c_ev_NoJournal : CalV P wd K mg base "NoJournal" A.NoJournal "at" 1) (c_ev_NoText : CalV P wd K mg base "NoText" A.NoText "row" 1) {f : Addr} {fd : FuncData} (Fk : Fun K "_law_with_fields" "_law_with_fields" s_l_with_fields f fd) : FnOk P wd K mg base CX0 3 f fd ["_law_value"] (spP K (FPof 1 (m_l_with_fields A))) :=
  fn_of' Fk sc_l_with_fields (fun ds s q r h => toM_ofP h) fun cdv A1 outer s H E hr => b_l_with_fields T c_ev_NoHistory c_ev_NoVersion c_ev_NoChange c_ev_NoTest c_ev_Cheaper c_ev_TooMany c_ev_NoOperation c_ev_NoJournal c_ev_NoText hr
abbrev s_l_plain : Stmt := (topS 31)
theorem sc_l_plain : FnScope ["_law_word", "_law_found"] ["_law_word"] (defScope s_l_plain) := ⟨rfl, rfl, rfl, by decide +kernel, rfl, by decide +kernel, by decide +kernel⟩
theorem b_l_plain {A : Adr} (T : Txt K mg A)  {f : Addr} {cdv : Value} {A1 : Around} {outer : List Env} {s : Shared} {H : Hp} {E : XK} (hr : Room 1 (A1.deeper (envOfC "_law_plain" (defScope s_l_plain) s.heap.objs.size f cdv))) :
    MB (cxOf CX0 P wd K mg base ["_law_word", "_law_found"] "_law_plain" (defScope s_l_plain) f cdv A1 outer s H E).nox Rs.none WF (defBody s_l_plain) (sF (t_l_plain A)) :=
  (ts_cons (ts_set (ms_set 1 sc_l_plain.nd (fe_frz (fo_lst (fa_cons (fe_errP T.er_NoOrder T.g_NoOrder (fe_var 0 (me_var 0))) (fa_cons (fe_errP T.er_NoCause T.g_NoCause (fe_var 0 (me_var 0))) (fa_cons (fe_errP T.er_NoTheory T.g_NoTheory (fe_var 0 (me_var 0))) (fa_cons (fe_errP T.er_NoCase T.g_NoCase (fe_var 0 (me_var 0))) (fa_cons (fe_errP T.er_NoCosts T.g_NoCosts (fe_var 0 (me_var 0))) (fa_cons (fe_errP T.er_NoLie T.g_NoLie (fe_var 0 (me_var 0))) (fa_cons (fe_errP T.er_NoLimit T.g_NoLimit (fe_var 0 (me_var 0))) fa_nil))))))) (le_b (le_cons (le_cons (le_cons (le_cons (le_cons (le_cons (le_cons le_nil))))))))))))
  (ts_cons (ts_set (ms_set 1 sc_l_plain.nd (fe_bin (me_op or_addA ms_add (fe_var 1 (me_var 1)) (fe_frz (fo_lst (fa_cons (fe_errP T.er_NoCauses T.g_NoCauses (fe_var 0 (me_var 0))) (fa_cons (fe_errP T.er_NoClaim T.g_NoClaim (fe_var 0 (me_var 0))) (fa_cons (fe_errP T.er_NoChanges T.g_NoChanges (fe_var 0 (me_var 0))) (fa_cons (fe_errP T.er_NoSuspects T.g_NoSuspects (fe_var 0 (me_var 0))) (fa_cons (fe_errP T.er_NoState T.g_NoState (fe_var 0 (me_var 0))) (fa_cons (fe_errP T.er_NoPlan T.g_NoPlan (fe_var 0 (me_var 0))) fa_nil)))))) (le_b (le_cons (le_cons (le_cons (le_cons (le_cons (le_cons le_nil)))))))))) br_add)))
  (ts_one (ts_ret (ms_ret (fe_bin (me_op or_addA ms_add (fe_var 1 (me_var 1)) (fe_frz (fo_lst (fa_cons (fe_errP T.er_NoNumber T.g_NoNumber (fe_var 0 (me_var 0))) (fa_cons (fe_errP T.er_NothingLeft T.g_NothingLeft (fe_var 0 (me_var 0))) fa_nil)) (le_b (le_cons (le_cons le_nil)))))) br_add))))))
theorem ok_l_plain {A : Adr} (T : Txt K mg A)  {f : Addr} {fd : FuncData} (Fk : Fun K "_law_plain" "_law_plain" s_l_plain f fd) : FnOk P wd K mg base CX0 2 f fd ["_law_word"] (spP K (FPof 1 (m_l_plain A))) :=
  fn_of' Fk sc_l_plain (fun ds s q r h => toM_ofP h) fun cdv A1 outer s H E hr => b_l_plain T  hr
abbrev s_l_kinds : Stmt := (topS 32)
theorem sc_l_kinds : FnScope ["_law_error", "_law_found"] ["_law_error"] (defScope s_l_kinds) := ⟨rfl, rfl, rfl, by decide +kernel, rfl, by decide +kernel, by decide +kernel⟩
theorem b_l_kinds {A : Adr} (T : Txt K mg A)  {f : Addr} {cdv : Value} {A1 : Around} {outer : List Env} {s : Shared} {H : Hp} {E : XK} (hr : Room 1 (A1.deeper (envOfC "_law_kinds" (defScope s_l_kinds) s.heap.objs.size f cdv))) :
    MB (cxOf CX0 P wd K mg base ["_law_error", "_law_found"] "_law_kinds" (defScope s_l_kinds) f cdv A1 outer s H E).nox Rs.none WF (defBody s_l_kinds) (sF (t_l_kinds A)) :=
  (ts_cons (ts_set (ms_set 1 sc_l_kinds.nd (fe_frz (fo_lst (fa_cons (fe_isF (tbl := (errL A).map fun D => (D, D == A.NoHistory)) T.m_isinstance T.g_NoHistory (kits_at T.kits T.excs (by simp [errL])) (fe_var 0 (me_var 0))) (fa_cons (fe_isF (tbl := (errL A).map fun D => (D, D == A.NoVersion)) T.m_isinstance T.g_NoVersion (kits_at T.kits T.excs (by simp [errL])) (fe_var 0 (me_var 0))) (fa_cons (fe_isF (tbl := (errL A).map fun D => (D, D == A.NoChange)) T.m_isinstance T.g_NoChange (kits_at T.kits T.excs (by simp [errL])) (fe_var 0 (me_var 0))) fa_nil))) (le_b (le_cons (le_cons (le_cons le_nil))))))))
  (ts_cons (ts_set (ms_set 1 sc_l_kinds.nd (fe_bin (me_op or_addA ms_add (fe_var 1 (me_var 1)) (fe_frz (fo_lst (fa_cons (fe_isF (tbl := (errL A).map fun D => (D, D == A.NoTest)) T.m_isinstance T.g_NoTest (kits_at T.kits T.excs (by simp [errL])) (fe_var 0 (me_var 0))) (fa_cons (fe_isF (tbl := (errL A).map fun D => (D, D == A.Cheaper)) T.m_isinstance T.g_Cheaper (kits_at T.kits T.excs (by simp [errL])) (fe_var 0 (me_var 0))) (fa_cons (fe_isF (tbl := (errL A).map fun D => (D, D == A.TooMany)) T.m_isinstance T.g_TooMany (kits_at T.kits T.excs (by simp [errL])) (fe_var 0 (me_var 0))) fa_nil))) (le_b (le_cons (le_cons (le_cons le_nil))))))) br_add)))
  (ts_cons (ts_set (ms_set 1 sc_l_kinds.nd (fe_bin (me_op or_addA ms_add (fe_var 1 (me_var 1)) (fe_frz (fo_lst (fa_cons (fe_isF (tbl := (errL A).map fun D => (D, D == A.NoOperation)) T.m_isinstance T.g_NoOperation (kits_at T.kits T.excs (by simp [errL])) (fe_var 0 (me_var 0))) (fa_cons (fe_isF (tbl := (errL A).map fun D => (D, D == A.NoJournal)) T.m_isinstance T.g_NoJournal (kits_at T.kits T.excs (by simp [errL])) (fe_var 0 (me_var 0))) (fa_cons (fe_isF (tbl := (errL A).map fun D => (D, D == A.NoText)) T.m_isinstance T.g_NoText (kits_at T.kits T.excs (by simp [errL])) (fe_var 0 (me_var 0))) fa_nil))) (le_b (le_cons (le_cons (le_cons le_nil))))))) br_add)))
  (ts_cons (ts_set (ms_set 1 sc_l_kinds.nd (fe_bin (me_op or_addA ms_add (fe_var 1 (me_var 1)) (fe_frz (fo_lst (fa_cons (fe_isF (tbl := (errL A).map fun D => (D, D == A.NoOrder)) T.m_isinstance T.g_NoOrder (kits_at T.kits T.excs (by simp [errL])) (fe_var 0 (me_var 0))) (fa_cons (fe_isF (tbl := (errL A).map fun D => (D, D == A.NoCause)) T.m_isinstance T.g_NoCause (kits_at T.kits T.excs (by simp [errL])) (fe_var 0 (me_var 0))) (fa_cons (fe_isF (tbl := (errL A).map fun D => (D, D == A.NoTheory)) T.m_isinstance T.g_NoTheory (kits_at T.kits T.excs (by simp [errL])) (fe_var 0 (me_var 0))) fa_nil))) (le_b (le_cons (le_cons (le_cons le_nil))))))) br_add)))
  (ts_cons (ts_set (ms_set 1 sc_l_kinds.nd (fe_bin (me_op or_addA ms_add (fe_var 1 (me_var 1)) (fe_frz (fo_lst (fa_cons (fe_isF (tbl := (errL A).map fun D => (D, D == A.NoCase)) T.m_isinstance T.g_NoCase (kits_at T.kits T.excs (by simp [errL])) (fe_var 0 (me_var 0))) (fa_cons (fe_isF (tbl := (errL A).map fun D => (D, D == A.NoCosts)) T.m_isinstance T.g_NoCosts (kits_at T.kits T.excs (by simp [errL])) (fe_var 0 (me_var 0))) (fa_cons (fe_isF (tbl := (errL A).map fun D => (D, D == A.NoLie)) T.m_isinstance T.g_NoLie (kits_at T.kits T.excs (by simp [errL])) (fe_var 0 (me_var 0))) fa_nil))) (le_b (le_cons (le_cons (le_cons le_nil))))))) br_add)))
  (ts_cons (ts_set (ms_set 1 sc_l_kinds.nd (fe_bin (me_op or_addA ms_add (fe_var 1 (me_var 1)) (fe_frz (fo_lst (fa_cons (fe_isF (tbl := (errL A).map fun D => (D, D == A.NoLimit)) T.m_isinstance T.g_NoLimit (kits_at T.kits T.excs (by simp [errL])) (fe_var 0 (me_var 0))) (fa_cons (fe_isF (tbl := (errL A).map fun D => (D, D == A.NoCauses)) T.m_isinstance T.g_NoCauses (kits_at T.kits T.excs (by simp [errL])) (fe_var 0 (me_var 0))) (fa_cons (fe_isF (tbl := (errL A).map fun D => (D, D == A.NoClaim)) T.m_isinstance T.g_NoClaim (kits_at T.kits T.excs (by simp [errL])) (fe_var 0 (me_var 0))) fa_nil))) (le_b (le_cons (le_cons (le_cons le_nil))))))) br_add)))
  (ts_cons (ts_set (ms_set 1 sc_l_kinds.nd (fe_bin (me_op or_addA ms_add (fe_var 1 (me_var 1)) (fe_frz (fo_lst (fa_cons (fe_isF (tbl := (errL A).map fun D => (D, D == A.NoChanges)) T.m_isinstance T.g_NoChanges (kits_at T.kits T.excs (by simp [errL])) (fe_var 0 (me_var 0))) (fa_cons (fe_isF (tbl := (errL A).map fun D => (D, D == A.NoSuspects)) T.m_isinstance T.g_NoSuspects (kits_at T.kits T.excs (by simp [errL])) (fe_var 0 (me_var 0))) (fa_cons (fe_isF (tbl := (errL A).map fun D => (D, D == A.NoState)) T.m_isinstance T.g_NoState (kits_at T.kits T.excs (by simp [errL])) (fe_var 0 (me_var 0))) fa_nil))) (le_b (le_cons (le_cons (le_cons le_nil))))))) br_add)))
  (ts_one (ts_ret (ms_ret (fe_bin (me_op or_addA ms_add (fe_var 1 (me_var 1)) (fe_frz (fo_lst (fa_cons (fe_isF (tbl := (errL A).map fun D => (D, D == A.NoPlan)) T.m_isinstance T.g_NoPlan (kits_at T.kits T.excs (by simp [errL])) (fe_var 0 (me_var 0))) (fa_cons (fe_isF (tbl := (errL A).map fun D => (D, D == A.NoNumber)) T.m_isinstance T.g_NoNumber (kits_at T.kits T.excs (by simp [errL])) (fe_var 0 (me_var 0))) (fa_cons (fe_isF (tbl := (errL A).map fun D => (D, D == A.NothingLeft)) T.m_isinstance T.g_NothingLeft (kits_at T.kits T.excs (by simp [errL])) (fe_var 0 (me_var 0))) fa_nil))) (le_b (le_cons (le_cons (le_cons le_nil))))))) br_add)))))))))))
theorem ok_l_kinds {A : Adr} (T : Txt K mg A)  {f : Addr} {fd : FuncData} (Fk : Fun K "_law_kinds" "_law_kinds" s_l_kinds f fd) : FnOk P wd K mg base CX0 2 f fd ["_law_error"] (spP K (FPof 1 (m_l_kinds A))) :=
  fn_of' Fk sc_l_kinds (fun ds s q r h => toM_ofP h) fun cdv A1 outer s H E hr => b_l_kinds T  hr

end
end Mb
namespace Mb
open PySem PySem.Spec PyProof.Rows L2
section
variable {P : Program} {wd : World} {K : PySem.W.Frag} {mg : Str → Option Value} {base : Heap}
abbrev s_law : Stmt := (topS 33)
theorem sc_law : FnScope ["_law_script", "_law_draw", "_law_turn", "_law_value", "_law_made", "_law_error", "_law_errors", "_law_spot", "_law_place", "_law_field", "_law_k"] ["_law_script"] (defScope s_law) := ⟨rfl, rfl, rfl, by decide +kernel, rfl, by decide +kernel, by decide +kernel⟩
theorem b_law (dr : Dr) {A : Adr} (T : Txt K mg A) (c_l_pick : Cal P wd K mg base "_law_pick" ["_law_draw", "_law_some"] 3 (spW K (dsR dr) (FWof 2 (m_l_pick dr)))) (c_l_with_fields : Cal P wd K mg base "_law_with_fields" ["_law_value"] 3 (spP K (FPof 1 (m_l_with_fields A)))) (c_l_plain : Cal P wd K mg base "_law_plain" ["_law_word"] 2 (spP K (FPof 1 (m_l_plain A)))) (c_l_kinds : Cal P wd K mg base "_law_kinds" ["_law_error"] 2 (spP K (FPof 1 (m_l_kinds A)))) {f : Addr} {cdv : Value} {A1 : Around} {outer : List Env} {s : Shared} {H : Hp} {E : XK} (hgd : A1.guards = some []) (hr : Room 3 (A1.deeper (envOfC "law" (defScope s_law) s.heap.objs.size f cdv))) :
    MB (cxOf CX0 P wd K mg base ["_law_script", "_law_draw", "_law_turn", "_law_value", "_law_made", "_law_error", "_law_errors", "_law_spot", "_law_place", "_law_field", "_law_k"] "law" (defScope s_law) f cdv A1 outer s H E).nox (dsR dr) WF (defBody s_law).tail (sF (t_law dr A)) :=
  (ts_cons (ts_for (ms_for PassesOwn.never rfl (fi_rng1 (mi_rng1 T.m_range (fa_cons (fe_c me_int) fa_nil))) (fg_name (mg_name 2 sc_law.nd)) (ts_cons (ts_set (ms_set 3 sc_law.nd (fe_fn (le_cons (le_cons le_nil)) (me_fn c_l_pick (hr.mono (by decide)) (fa_cons (fe_var 1 (me_var 1)) (fa_cons (fe_frz (fo_lst (fa_cons (fe_c me_int) (fa_cons (fe_c me_int) (fa_cons (fe_neg) (fa_cons (fe_c me_bl) (fa_cons (fe_c me_non) (fa_cons (fe_sl) (fa_cons (fe_tup fa_nil (le_b le_nil)) (fa_cons (fe_tup (fa_cons (fe_sl) (fa_cons (fe_c me_int) fa_nil)) (le_b (le_cons (le_cons le_nil)))) (fa_cons (fe_bin (me_op op_pow ms_pow (fe_c me_int) (fe_c me_int)) br_pow) (fa_cons (fe_c me_int) (fa_cons (fe_sl) (fa_cons (fe_tup (fa_cons (fe_sl) (fa_cons (fe_sl) fa_nil)) (le_b (le_cons (le_cons le_nil)))) fa_nil)))))))))))) (le_b (le_cons (le_cons (le_cons (le_cons (le_cons (le_cons (le_cons (le_cons (le_cons (le_cons (le_cons (le_cons le_nil))))))))))))))) fa_nil))))))
  (ts_cons (ts_set (ms_set 4 sc_law.nd (fe_fnP (le_cons le_nil) (me_fn c_l_with_fields.up (hr.mono (by decide)) (fa_cons (fe_var 3 (me_var 3)) fa_nil)))))
  (ts_cons (ts_if (ft_bin (mt_cmp (op_neD (hu64 hr)) snd_ne (fe_frz (fo_lc (mo_lc [("_law_error", 5), ("_law_field", 9)] rfl sc_law.nd (fi_seq (fe_var 4 (me_var 4))) (blkOk_by (by kernel_rfl)) ⟨fun _ _ _ _ _ => (fg_tup (mg_tup rfl (fgs_cons (fg_name (mg_name 5 sc_law.nd)) (fgs_cons (fg_name (mg_name 9 sc_law.nd)) fgs_nil)))), fun _ _ _ _ _ => (fts_one (ft_bin (mt_cmp op_ne snd_neS (fe_call (me_cb (fun t h => pe_callB (cr_reprA (hu65 hr) hgd) (by rfl) T.m_repr (by decide +kernel) h) snd_reprA (fa_cons (fe_var 9 (me_var 9)) fa_nil)) br_reprA) (fe_call (me_cb (fun t h => pe_callB (cr_reprA (hu65 hr) hgd) (by rfl) T.m_repr (by decide +kernel) h) snd_reprA (fa_cons (fe_var 3 (me_var 3)) fa_nil)) br_reprA)) br_neS)), fun _ _ _ _ _ => (fe_var 9 (me_var 9))⟩))) (fe_frz (fo_lst fa_nil (le_b le_nil)))) br_ne) (ts_one (ts_ret (ms_ret (fe_c me_bl)))) ts_nil)
  (ts_cons (ts_set (ms_set 6 sc_law.nd (fe_bin (me_op or_addA ms_add (fe_frz (fo_lc (mo_lc [("_law_error", 5), ("_law_field", 9)] rfl sc_law.nd (fi_seq (fe_var 4 (me_var 4))) (blkOk_by (by kernel_rfl)) ⟨fun _ _ _ _ _ => (fg_tup (mg_tup rfl (fgs_cons (fg_name (mg_name 5 sc_law.nd)) (fgs_cons (fg_name (mg_name 9 sc_law.nd)) fgs_nil)))), fun _ _ _ _ _ => fts_nil, fun _ _ _ _ _ => (fe_var 5 (me_var 5))⟩))) (fe_fnP (le_cons le_nil) (me_fn c_l_plain.up (hr.mono (by decide)) (fa_cons (fe_fn (le_cons (le_cons le_nil)) (me_fn c_l_pick (hr.mono (by decide)) (fa_cons (fe_var 1 (me_var 1)) (fa_cons (fe_frz (fo_lst (fa_cons (fe_sl) (fa_cons (fe_sl) (fa_cons (fe_sl) fa_nil))) (le_b (le_cons (le_cons (le_cons le_nil)))))) fa_nil)))) fa_nil)))) br_add)))
  (ts_one (ts_for (ms_for PassesOwn.never rfl (fi_enum T.m_enumerate (fe_var 6 (me_var 6))) (fg_tup (mg_tup rfl (fgs_cons (fg_name (mg_name 7 sc_law.nd)) (fgs_cons (fg_name (mg_name 5 sc_law.nd)) fgs_nil)))) (ts_cons (ts_if (MW.mt (fmw_or (ft_not (ft_test (mt_val (fe_isF (tbl := (errL A).map fun D => (D, true)) T.m_isinstance T.g_BlameError (kitv_at T.kitE T.excs) (fe_var 5 (me_var 5)))))) (mw_or1 (ft_not (ft_test (mt_val (fe_isF_of (tbl := (errL A).map fun D => (D, true)) T.m_isinstance (v := .ty "ValueError") (cv := .type "ValueError") (fun u r => r) (pe_bltn (v := .ty "ValueError") (by rfl) T.m_ValueError (by decide +kernel) rfl) (kitv_at T.kitV T.excs) (fe_var 5 (me_var 5)) rfl rfl rfl rfl))))))) (ts_one (ts_ret (ms_ret (fe_c me_bl)))) ts_nil)
  (ts_cons (ts_set (ms_set 8 sc_law.nd (fe_if (ft_bin (mt_cmp or_lt ms_lt (fe_var 7 (me_var 7)) (fe_c me_int)) br_lt) (fe_bin (me_op op_fdivW ms_fdiv (fe_var 7 (me_var 7)) (fe_c me_int)) br_fdiv) (fe_bin (me_op op_sub ms_sub (fe_var 7 (me_var 7)) (fe_c me_int)) br_sub))))
  (ts_one (ts_if (ft_bin (mt_cmp (op_neD (hu64 hr)) snd_ne (fe_fnP (le_cons le_nil) (me_fn c_l_kinds.up (hr.mono (by decide)) (fa_cons (fe_var 5 (me_var 5)) fa_nil))) (fe_frz (fo_lc (mo_lc [("_law_k", 10)] rfl sc_law.nd (fi_rng1 (mi_rng1 T.m_range (fa_cons (fe_c me_int) fa_nil))) (blkOk_by (by kernel_rfl)) ⟨fun _ _ _ _ _ => (fg_name (mg_name 10 sc_law.nd)), fun _ _ _ _ _ => fts_nil, fun _ _ _ _ _ => (fe_bin (me_cmp (op_eqD (hu64 hr)) snd_eq (fe_var 10 (me_var 10)) (fe_var 8 (me_var 8))) br_eq)⟩)))) br_ne) (ts_one (ts_ret (ms_ret (fe_c me_bl)))) ts_nil)))))))))))))
  (ts_one (ts_ret (ms_ret (fe_c me_bl)))))

end
end Mb
namespace Mb
open PySem PySem.Spec PyProof.Rows L2
def big30 : Int := 10 ^ 30
theorem pow30 : pPow (.int 10) (.int 30) = some (.int big30) := by
  have : (0 : Int) ≤ 30 ∧ (30 : Int) ≤ 1000000 ∧ (10 : Int).natAbs < 2 ^ 64 := by decide
  show (if (0 : Int) ≤ 30 ∧ (30 : Int) ≤ 1000000 ∧ (10 : Int).natAbs < 2 ^ 64 then some (D.int ((10 : Int) ^ (30 : Int).toNat)) else none) = _
  rw [if_pos this]
  rfl
abbrev V12 : List D := [.int 0, .int 1, .int (-1), .bl true, .non, .str (sl "a"), .tup [], .tup [.str (sl "a"), .int 0], .int big30, .int 5, .str (sl ""), .tup [.str (sl "b"), .str (sl "a")]]
section
variable {A : Adr} {d e w : D} {dr : Dr} {s : DS} {u : Unit} {c : Nat}
theorem sl1 {x : String} (h : x.toList.length ≤ 100) : PyData.strOk (sl x) = true ∧ (sl x).length ≤ 1000 := ⟨sl_ok _, by rw [sl_length]; omega⟩
theorem fmt12 (h : d ∈ V12) : okFmtD d = true := by
  have a := sl1 (x := "a") (by decide)
  have b := sl1 (x := "b") (by decide)
  have z := sl1 (x := "") (by decide)
  simp only [V12, List.mem_cons, List.not_mem_nil, or_false] at h
  rcases h with rfl | rfl | rfl | rfl | rfl | rfl | rfl | rfl | rfl | rfl | rfl | rfl
  all_goals first | rfl | (decide +kernel) | simp [okFmtD, okSm, a, b, z]
theorem rep12 (h : d ∈ V12) : pReprA [d] = some (.str (shDS d)) := by
  have ks : ∀ x : String, x.toList.length ≤ 100 → okShowS (.str (sl x)) = true := fun x hx => by
    have := sl1 hx
    show (PyData.strOk (sl x) && decide ((sl x).length ≤ 1000)) = true
    rw [this.1, decide_eq_true this.2]
    rfl
  have ss : ∀ x : String, x.toList.length ≤ 100 → ShowOk (.str (sl x)) 100 := fun x hx => sh_str (sl_ok _) (by rw [sl_length]; exact hx)
  have kt : ∀ l : List D, l.length ≤ 4 → (∀ e ∈ l, ShowOk e 100) → D.plsA l 59 = true → okShowS (.tup l) = true := fun l h1 h2 h3 => okShow_of (sh_tup h2 (by omega)) h3
  refine repr_A ?_
  simp only [V12, List.mem_cons, List.not_mem_nil, or_false] at h
  rcases h with rfl | rfl | rfl | rfl | rfl | rfl | rfl | rfl | rfl | rfl | rfl | rfl
  · decide +kernel
  · decide +kernel
  · decide +kernel
  · rfl
  · rfl
  · exact ks "a" (by decide)
  · exact kt [] (by decide) (fun _ z => nomatch z) rfl
  · refine kt _ (by simp) (fun e he => ?_) ?_
    · simp only [List.mem_cons, List.not_mem_nil, or_false] at he
      rcases he with rfl | rfl
      · exact ss "a" (by decide)
      · exact sh_int (by decide) (by decide)
    · have := sl1 (x := "a") (by decide)
      simp [D.plsA, D.plA, this.1]
      omega
  · decide +kernel
  · decide +kernel
  · exact ks "" (by decide)
  · refine kt _ (by simp) (fun e he => ?_) ?_
    · simp only [List.mem_cons, List.not_mem_nil, or_false] at he
      rcases he with rfl | rfl
      · exact ss "b" (by decide)
      · exact ss "a" (by decide)
    · have a := sl1 (x := "a") (by decide)
      have b := sl1 (x := "b") (by decide)
      simp [D.plsA, D.plA, a.1, b.1]
      omega
/-! ### what is made -/
abbrev FN : List Str := [sl "at", sl "at", sl "version", sl "version", sl "change", sl "change", sl "at", sl "at", sl "least", sl "least", sl "most", sl "most", sl "at", sl "at", sl "at", sl "at", sl "row", sl "row"]
abbrev FC (A : Adr) : List Addr := [A.NoHistory, A.NoHistory, A.NoVersion, A.NoVersion, A.NoChange, A.NoChange, A.NoTest, A.NoTest, A.Cheaper, A.Cheaper, A.TooMany, A.TooMany, A.NoOperation, A.NoOperation, A.NoJournal, A.NoJournal, A.NoText, A.NoText]
abbrev PC (A : Adr) : List Addr := [A.NoOrder, A.NoCause, A.NoTheory, A.NoCase, A.NoCosts, A.NoLie, A.NoLimit, A.NoCauses, A.NoClaim, A.NoChanges, A.NoSuspects, A.NoState, A.NoPlan, A.NoNumber, A.NothingLeft]
def encF (d : D) (p : Addr × Str) : D := .tup [.err p.1 [p.2] [d], d]
abbrev madeL (A : Adr) (d : D) : List D := ((FC A).zip FN).map (encF d)
abbrev plainL (A : Adr) : List D := (PC A).map fun C => .err C [] []
theorem fields_ok (h : okFmtD d = true) : m_l_with_fields A [d] = ret (.dat (.lst (madeL A d))) := by
  funext u
  simp [e_l_with_fields, t_l_with_fields, t_l_with_fields_0, t_l_with_fields_1, t_l_with_fields_2, t_l_with_fields_3, t_l_with_fields_4, t_l_with_fields_5, t_l_with_fields_6, t_l_with_fields_7, t_l_with_fields_8, t_l_with_fields_9, t_l_with_fields_10, h, fCatV]
  try rfl
theorem plain_ok : m_l_plain A [w] = ret (.dat (.lst (plainL A))) := by
  funext u
  simp [e_l_plain, t_l_plain, t_l_plain_0, t_l_plain_1, t_l_plain_2]
  try rfl
theorem isF_at {S : Type} {cs : List Addr} {C : Addr} {f : Addr → Bool} {fa : F S D} {Γ : Ctx} {s : S} {ks : List Str} {l : List D} (h : C ∈ cs) (ha : fa Γ s = .ok (.err C ks l) s) : fIsF (cs.map fun D => (D, f D)) fa Γ s = .ok (.bl (f C)) s := by
  simp [fIsF, bnd, ha, look_at h]
theorem kinds_ok {C : Addr} {ks : List Str} {l : List D} (h : C ∈ errL A) : m_l_kinds A [.err C ks l] = ret (.dat (.lst ((errL A).map fun c => .bl (C == c)))) := by
  funext u
  have k2 : ∀ (c : Addr) (Γ : Ctx) (u : Unit), Γ[0]? = some (.dat (.err C ks l)) → (fIsF ((errL A).map fun D => (D, D == c)) (fVar 0) : F Unit D) Γ u = .ok (.bl (C == c)) u := fun c Γ u g => isF_at (ks := ks) (l := l) h (by simp [g])
  have e : ((errL A).map fun c => D.bl (C == c)) = [.bl (C == A.NoHistory), .bl (C == A.NoVersion), .bl (C == A.NoChange), .bl (C == A.NoTest), .bl (C == A.Cheaper), .bl (C == A.TooMany), .bl (C == A.NoOperation), .bl (C == A.NoJournal), .bl (C == A.NoText), .bl (C == A.NoOrder), .bl (C == A.NoCause), .bl (C == A.NoTheory), .bl (C == A.NoCase), .bl (C == A.NoCosts), .bl (C == A.NoLie), .bl (C == A.NoLimit), .bl (C == A.NoCauses), .bl (C == A.NoClaim), .bl (C == A.NoChanges), .bl (C == A.NoSuspects), .bl (C == A.NoState), .bl (C == A.NoPlan), .bl (C == A.NoNumber), .bl (C == A.NothingLeft)] := rfl
  rw [e]
  simp only [e_l_kinds, t_l_kinds, t_l_kinds_0, t_l_kinds_1, t_l_kinds_2, t_l_kinds_3, t_l_kinds_4, t_l_kinds_5, t_l_kinds_6, t_l_kinds_7]
  clear e
  generalize errL A = E at *
  simp [-fIsF_app, k2]
end
end Mb
namespace Mb
open PySem PySem.Spec PyProof.Rows L2
theorem en_fromE {α : Type} (enc : α → D) (d0 : α) : ∀ (l : List α) (n : Nat), enD n (l.map enc) = (List.range l.length).map fun k : Nat => D.tup [.int ((n + k : Nat) : Int), enc (l.getD k d0)]
  | [], n => rfl
  | x :: l, n => by
    show D.tup [.int (n : Int), enc x] :: enD (n + 1) (l.map enc) = _
    rw [en_fromE enc d0 l (n + 1), List.length_cons, List.range_succ_eq_map, List.map_cons, List.map_map]
    congr 1
    apply List.map_congr_left
    intro k _
    show _ = D.tup [.int ((n + (k + 1) : Nat) : Int), enc ((x :: l).getD (k + 1) d0)]
    rw [List.getD_cons_succ, show n + (k + 1) = n + 1 + k from by omega]
theorem en_okE {l : List D} (h : l.length ≤ 1000000) : enI (.lst l) = some (enD 0 l) := if_pos h
theorem seq_nxE {S : Type} {f1 f2 : T S} {Γ Γ' : Ctx} {s s' : S} (h : f1 Γ s = .nx Γ' s') : tSeq f1 f2 Γ s = f2 Γ' s' := by
  unfold tSeq
  rw [h]
  rfl
abbrev Et := Addr × List Str × List D
def encE (t : Et) : D := .err t.1 t.2.1 t.2.2
abbrev allT (A : Adr) (d : D) : List Et := ((FC A).zip FN).map (fun p => (p.1, [p.2], [d])) ++ (PC A).map fun C => (C, [], [])
def pl96 (k : Nat) : Nat := if k < 18 then k / 2 else k - 9
section
variable {A : Adr} {d e w : D} {dr : Dr} {s : DS} {u : Unit} {c k : Nat} {x0 x1 x2 x3 x4 x5 x6 x7 x8 x9 x10 : Sl}
abbrev lE (x0 x1 x2 x3 x4 x5 x6 x7 x8 x9 x10 : Sl) : Ctx := [x0, x1, x2, x3, x4, x5, x6, x7, x8, x9, x10]
theorem all_at (hk : k < 33) : ((allT A d).getD k (0, [], [])).1 = (errL A).getD (pl96 k) 0 := by
  have : ∀ j : Fin 33, ((allT A d).getD j.1 (0, [], [])).1 = (errL A).getD (pl96 j.1) 0 := fun j => by
    match j with
    | ⟨0, _⟩ | ⟨1, _⟩ | ⟨2, _⟩ | ⟨3, _⟩ | ⟨4, _⟩ | ⟨5, _⟩ | ⟨6, _⟩ | ⟨7, _⟩ | ⟨8, _⟩ | ⟨9, _⟩ | ⟨10, _⟩ | ⟨11, _⟩ | ⟨12, _⟩ | ⟨13, _⟩ | ⟨14, _⟩ | ⟨15, _⟩ | ⟨16, _⟩ | ⟨17, _⟩ | ⟨18, _⟩ | ⟨19, _⟩ | ⟨20, _⟩ | ⟨21, _⟩ | ⟨22, _⟩ | ⟨23, _⟩ | ⟨24, _⟩ | ⟨25, _⟩ | ⟨26, _⟩ | ⟨27, _⟩ | ⟨28, _⟩ | ⟨29, _⟩ | ⟨30, _⟩ | ⟨31, _⟩ | ⟨32, _⟩ => simp [pl96, errL]
    | ⟨n + 33, h⟩ => exact absurd h (by omega)
  exact this ⟨k, hk⟩
theorem pl_lt (hk : k < 33) : pl96 k < 24 := by
  unfold pl96
  split <;> omega
theorem kinds_at (nd : (errL A).Nodup) {j : Nat} (hj : j < 24) : ((errL A).map fun c => D.bl ((errL A).getD j 0 == c)) = (List.range 24).map fun i => .bl (decide (i = j)) := by
  have hl : (errL A).length = 24 := rfl
  refine List.ext_getElem (by rw [List.length_map, List.length_map, List.length_range, hl]) fun i h1 h2 => ?_
  rw [List.length_map, hl] at h1
  rw [List.getElem_map, List.getElem_map, List.getElem_range]
  have ej : (errL A).getD j 0 = (errL A)[j]'(by omega) := by
    rw [List.getD_eq_getElem?_getD, List.getElem?_eq_getElem (by omega)]
    rfl
  rw [ej]
  congr 1
  by_cases z : i = j
  · subst z
    simp
  · rw [decide_eq_false z]
    refine beq_false_of_ne fun e => ?_
    have pw := List.pairwise_iff_getElem.mp nd
    rcases Nat.lt_or_gt_of_ne z with q | q
    · exact pw i j (by omega) (by omega) q e.symm
    · exact pw j i (by omega) (by omega) q e
theorem pNe_bls {l : List Nat} {f : Nat → Bool} : pNe (.lst (l.map fun i => .bl (f i))) (.lst (l.map fun i => .bl (f i))) = some (.bl false) := by
  have p : D.pl 60 (.lst (l.map fun i => D.bl (f i))) = true := pls_mem.mpr fun d hd => by
    obtain ⟨i, _, rfl⟩ := List.mem_map.mp hd
    rfl
  have e : eqL (l.map fun i => D.bl (f i)) (l.map fun i => D.bl (f i)) = true := by
    clear p
    induction l with
    | nil => rfl
    | cons i l ih =>
      show (eqD (.bl (f i)) (.bl (f i)) && eqL (l.map fun i => D.bl (f i)) (l.map fun i => D.bl (f i))) = true
      rw [ih]
      simp
  have b : ((D.lst (l.map fun i => D.bl (f i))).pl 60 && (D.lst (l.map fun i => D.bl (f i))).pl 60) = true := by
    rw [p]
    rfl
  refine (if_pos b).trans ?_
  rw [eqD_lst, e]
  rfl
theorem e3 {t : Et} (ht : t.1 ∈ errL A) : t_law_3 dr A (lE x0 x1 x2 x3 x4 (.dat (encE t)) x6 x7 x8 x9 x10) s = .nx (lE x0 x1 x2 x3 x4 (.dat (encE t)) x6 x7 x8 x9 x10) s := by
  have k2 : (fIsF ((errL A).map fun D => (D, true)) (fVar 5) : F DS D) (lE x0 x1 x2 x3 x4 (.dat (encE t)) x6 x7 x8 x9 x10) s = .ok (.bl true) s := isF_at (f := fun _ => true) (ks := t.2.1) (l := t.2.2) ht rfl
  unfold t_law_3
  generalize errL A = E at *
  simp [-fIsF_app, k2]
theorem e4 (hk : k < 33) : t_law_4 dr A (lE x0 x1 x2 x3 x4 x5 x6 (.dat (.int (k : Int))) x8 x9 x10) s = .nx (lE x0 x1 x2 x3 x4 x5 x6 (.dat (.int (k : Int))) (.dat (.int (pl96 k : Int))) x9 x10) s := by
  by_cases z : k < 18
  · have z' : (k : Int) < 18 := by omega
    have e : (pl96 k : Int) = (k : Int) / 2 := by
      unfold pl96
      rw [if_pos z]
      omega
    rw [e]
    have lg : Nat.log2 2 < 9000 := by decide
    simp [t_law_4, z', lg]
  · have z' : ¬ (k : Int) < 18 := by omega
    have e : (pl96 k : Int) = (k : Int) - 9 := by
      unfold pl96
      rw [if_neg z]
      omega
    rw [e]
    simp [t_law_4, z']
theorem e5 {t : Et} (nd : (errL A).Nodup) {j : Nat} (hj : j < 24) (ht : t.1 = (errL A).getD j 0) : t_law_5 dr A (lE x0 x1 x2 x3 x4 (.dat (encE t)) x6 x7 (.dat (.int (j : Int))) x9 x10) s = .nx (lE x0 x1 x2 x3 x4 (.dat (encE t)) x6 x7 (.dat (.int (j : Int))) x9 x10) s := by
  have hl : (errL A).length = 24 := rfl
  have hm : t.1 ∈ errL A := by
    rw [ht, List.getD_eq_getElem?_getD, List.getElem?_eq_getElem (by omega)]
    exact List.getElem_mem _
  have e1 : m_l_kinds A [encE t] = _ := kinds_ok (ks := t.2.1) (l := t.2.2) hm
  rw [ht, kinds_at nd hj] at e1
  have rg : gRng1 [.int 24] = some ((List.range 24).map fun n : Nat => D.int (n : Int)) := by simp [gRng1, rgn]
  have hc := lcF_map (S := DS) (one := lcOne (hN 10) fYes (fBin pEq (fVar 10) (fVar 8)) (lE x0 x1 x2 x3 x4 (.dat (encE t)) x6 x7 (.dat (.int (j : Int))) x9 .emp)) (fun n : Nat => D.int (n : Int)) (ts := List.range 24) (fun i => D.bl (decide (i = j))) fun i hi => by
    have eq : pEq (.int (i : Int)) (.int (j : Int)) = some (.bl (decide (i = j))) := by
      refine (if_pos rfl).trans ?_
      congr 2
      by_cases z : i = j
      · subst z
        simp
      · have : ¬ (i : Int) = (j : Int) := by omega
        simp [z, this]
    generalize D.int (i : Int) = di at *
    generalize D.int (j : Int) = dj at *
    funext u
    simp [-pEq, lcOne, eq]
  have hc' := congrFun hc s
  have pn := pNe_bls (l := List.range 24) (f := fun i => decide (i = j))
  generalize (List.range 24).map (fun n : Nat => D.int (n : Int)) = RG at *
  generalize (List.range 24).map (fun i => D.bl (decide (i = j))) = BB at *
  generalize encE t = T at *
  generalize D.int (j : Int) = dj at *
  simp [-gRng1, -pNe, -pEq, t_law_5, e1, rg, hc', pn]
noncomputable def eBody (dr : Dr) (A : Adr) : T DS := (tSeq (t_law_3 dr A) (tSeq (t_law_4 dr A) (t_law_5 dr A)))
theorem e10 (nd : (errL A).Nodup) : ∃ y5 y7 y8 : Sl, t_law_10 dr A (lE x0 x1 x2 x3 x4 x5 (.dat (.lst ((allT A d).map encE))) x7 x8 x9 x10) s = .nx (lE x0 x1 x2 x3 x4 y5 (.dat (.lst ((allT A d).map encE))) y7 y8 x9 x10) s := by
  have hl : (allT A d).length = 33 := rfl
  have en := en_fromE encE ((0, [], []) : Et) (allT A d) 0
  rw [hl] at en
  obtain ⟨Γ', s', e3', ⟨⟨y5, y7, y8, eΓ⟩, es⟩⟩ := forL_inv (S := DS) (g := hT 2 (hC (hN 7) (hC (hN 5) hZ))) (b := eBody dr A) (fun k : Nat => D.tup [.int ((0 + k : Nat) : Int), encE ((allT A d).getD k (0, [], []))])
    (fun pre Γ u => (∃ y5 y7 y8 : Sl, Γ = lE x0 x1 x2 x3 x4 y5 (.dat (.lst ((allT A d).map encE))) y7 y8 x9 x10) ∧ u = s) (List.range 33) [] (lE x0 x1 x2 x3 x4 x5 (.dat (.lst ((allT A d).map encE))) x7 x8 x9 x10) s ⟨⟨_, _, _, rfl⟩, rfl⟩ fun p t q Γ u e ⟨⟨y5, y7, y8, eΓ⟩, eu⟩ => by
      subst eΓ eu
      have ht : t < 33 := by
        have : t ∈ List.range 33 := by
          have e : List.range 33 = p ++ t :: q := e
          rw [e]
          simp
        exact List.mem_range.mp this
      have h1 := all_at (A := A) (d := d) ht
      have h2 := pl_lt ht
      have hm : ((allT A d).getD t (0, [], [])).1 ∈ errL A := by
        rw [h1, List.getD_eq_getElem?_getD, List.getElem?_eq_getElem (by show pl96 t < 24; exact h2)]
        exact List.getElem_mem _
      generalize (allT A d).getD t (0, [], []) = T at *
      generalize D.lst ((allT A d).map encE) = LL at *
      refine ⟨lE x0 x1 x2 x3 x4 (.dat (encE T)) (.dat LL) (.dat (.int (t : Int))) y8 x9 x10, ?_, lE x0 x1 x2 x3 x4 (.dat (encE T)) (.dat LL) (.dat (.int (t : Int))) (.dat (.int (pl96 t : Int))) x9 x10, u, Or.inl ?_, ⟨_, _, _, rfl⟩, rfl⟩
      · rw [Nat.zero_add]
        generalize encE T = TT
        rfl
      · unfold eBody
        rw [show tSeq (t_law_3 dr A) (tSeq (t_law_4 dr A) (t_law_5 dr A)) (lE x0 x1 x2 x3 x4 (.dat (encE T)) (.dat LL) (.dat (.int (t : Int))) y8 x9 x10) u = _ from seq_nxE (e3 hm), seq_nxE (e4 ht)]
        exact e5 nd h2 h1
  subst eΓ es
  refine ⟨y5, y7, y8, ?_⟩
  have cl : ((allT A d).map encE).length ≤ 1000000 := by
    rw [List.length_map, hl]
    decide
  have en2 : enI (.lst ((allT A d).map encE)) = some (enD 0 ((allT A d).map encE)) := en_okE cl
  rw [← en] at e3'
  unfold eBody at e3'
  unfold t_law_10
  generalize tSeq (t_law_3 dr A) (tSeq (t_law_4 dr A) (t_law_5 dr A)) = B at *
  generalize (allT A d).map encE = LL at *
  simp [en2, e3']
end
end Mb
namespace Mb
open PySem PySem.Spec PyProof.Rows L2
def below (c : Int) : D → Bool
  | .int i => decide (0 ≤ i) && decide (i < c)
  | _ => false
end Mb
namespace Mb
open PySem PySem.Spec PyProof.Rows L2
/-! ### draws -/
/-- c draws may follow -/
def Sok (s : DS) (c : Nat) : Prop := 0 ≤ s.tn ∧ s.tn + c ≤ 2 ^ 40 ∧ s.gr.length < 1000
theorem Sok.mono {s : DS} {c c' : Nat} (h : Sok s c) (l : c' ≤ c) : Sok s c' := ⟨h.1, by have := h.2.1; omega, h.2.2⟩
section
variable {dr : Dr} {Γ : Ctx} {s : DS}
@[simp] theorem fDg_at {f : DS → D} : fDg dr 0 f (.dat (.adr dr.d) :: Γ) s = .ok (f s) s := by simp [fDg]
@[simp] theorem fPop_at {x : Int} {t : List Int} : fPop dr 0 (.dat (.adr dr.d) :: Γ) { s with gr := x :: t } = .ok (.int x) { s with gr := t } := by simp [fPop]
@[simp] theorem tTn_at {n : Int} : tTn dr 0 n (.dat (.adr dr.d) :: Γ) s = .nx (.dat (.adr dr.d) :: Γ) { s with tn := s.tn + n } := by simp [tTn]
theorem tDg_at {fa : F DS D} {n : Int} {s1 : DS} (h : fa (.dat (.adr dr.d) :: Γ) s = .ok (.int n) s1) : tDg dr 0 fa (.dat (.adr dr.d) :: Γ) s = .nx (.dat (.adr dr.d) :: Γ) { s1 with dg := n } := by simp [tDg, h]
theorem next_wh (n : Nat) : ∀ (s : DS), s.gr.length < n → ∃ s', whL (fAnd (fTest (fBin pEq (fDg dr 0 fun s => .int s.dg) (fC (.int 0)))) (fTest (fDg dr 0 fun s => .bl (decide (s.gr ≠ []))))) (tDg dr 0 (fPop dr 0)) n (.dat (.adr dr.d) :: Γ) s = .nx (.dat (.adr dr.d) :: Γ) s' ∧ s'.tn = s.tn ∧ s'.gr.length ≤ s.gr.length := by
  induction n with
  | zero => intro s h; omega
  | succ n ih =>
    intro s h
    unfold whL
    by_cases h0 : s.dg = 0
    · cases hg : s.gr with
      | nil => exact ⟨s, by simp [h0, hg], rfl, Nat.le_of_eq (by rw [hg])⟩
      | cons x t =>
        have es : s = { s with gr := x :: t } := by rw [← hg]
        have h1 := tDg_at (dr := dr) (Γ := Γ) (fa := fPop dr 0) (n := x) (s := s) (s1 := { s with gr := t }) (by rw [es]; exact fPop_at)
        obtain ⟨s', e, h2, h3⟩ := ih { s with gr := t, dg := x } (by rw [hg] at h; simp at h ⊢; omega)
        refine ⟨s', ?_, h2, ?_⟩
        · simpa [h0, hg, h1] using e
        · simp at h3 ⊢
          omega
    · exact ⟨s, by simp [h0], rfl, Nat.le_refl _⟩
theorem atI_mod {α : Type} {l : List α} (h : l ≠ []) (k : Int) : ∃ y, y ∈ l ∧ atI l (k % (l.length : Int)) = some y := by
  have hl : 0 < l.length := List.length_pos_iff.mpr h
  have a : 0 ≤ k % (l.length : Int) := Int.emod_nonneg _ (by omega)
  have b : k % (l.length : Int) < l.length := Int.emod_lt_of_pos _ (by omega)
  obtain ⟨n, e⟩ := Int.eq_ofNat_of_zero_le a
  rw [e] at b ⊢
  have hn : n < l.length := by omega
  exact ⟨_, List.getElem_mem hn, atI_nat hn⟩
theorem pls_ints (l : List Int) : D.plsA (l.map D.int) 59 = true := pls_mem.mpr fun d hd => by
  obtain ⟨i, _, rfl⟩ := List.mem_map.mp hd
  rfl
theorem next_ok (m : Int) {c : Nat} (h1 : 0 < m) (h9 : m < 2 ^ 64) (hs : Sok s (c + 1)) : ∃ k s', m_l_next dr [.adr dr.d, .int m] s = .ok (.dat (.int k)) s' ∧ 0 ≤ k ∧ k < m ∧ Sok s' c := by
  obtain ⟨t0, t1, hg⟩ := hs
  obtain ⟨s1, e1, h2, h3⟩ := next_wh (dr := dr) (Γ := [.dat (.int m), .emp, .emp, .emp, .emp]) 1000 s hg
  have mm : ∀ x : Int, 0 ≤ x % m ∧ x % m < m := fun x => ⟨Int.emod_nonneg _ (by omega), Int.emod_lt_of_pos _ h1⟩
  have hm9 : m.natAbs.log2 < 9000 := Nat.lt_of_lt_of_le (PySem.Flt.log2_lt_of (k := 64) (by decide) (by omega)) (by decide)
  rw [e_l_next]
  simp only [t_l_next, tSeq, tWhile, e1, thn_nx]
  by_cases hd : 0 < s1.dg
  · have e4 := tDg_at (dr := dr) (Γ := [.dat (.int m), .dat (.int (s1.dg % m)), .emp, .emp, .emp]) (fa := fBin pFdiv (fDg dr 0 fun s => .int s.dg) (fVar 1)) (n := s1.dg / m) (s := s1) (s1 := s1) (by simp [h1, hm9])
    exact ⟨s1.dg % m, { s1 with dg := s1.dg / m }, by simp [hd, h1, e4], (mm _).1, (mm _).2, by show 0 ≤ s1.tn; omega, by show s1.tn + c ≤ 2 ^ 40; omega, by show s1.gr.length < 1000; omega⟩
  · have w1 : Nat.log2 40009 + (s1.tn + 1).natAbs.log2 < 1000000 := wide_mul (i := 40009) (a := 20) (b := 64) (by decide) (by omega) (by decide) (by decide) (by decide)
    have w2 : Nat.log2 104729 + (s1.tn + 1).natAbs.log2 < 1000000 := wide_mul (i := 104729) (a := 20) (b := 64) (by decide) (by omega) (by decide) (by decide) (by decide)
    have d11 : Nat.log2 11 < 9000 := by decide
    have c1 : ∀ x : Int, (x % 2147483629 + 40009 * (s1.tn + 1)).natAbs < 2 ^ 64 := fun x => by omega
    have c2 : ∀ x : Int, (x % 2147483647 + 104729 * (s1.tn + 1)).natAbs < 2 ^ 64 := fun x => by omega
    have k2 : Sok { s1 with tn := s1.tn + 1 } c := ⟨by show 0 ≤ s1.tn + 1; omega, by show s1.tn + 1 + c ≤ 2 ^ 40; omega, by show s1.gr.length < 1000; omega⟩
    have kk : ∀ L : Int, ∃ k, k = ((((L % 2147483629 + 40009 * (s1.tn + 1)) ^ 3 % 2147483647 + 104729 * (s1.tn + 1)) ^ 5 % 2147483629) / 11) % m := fun L => ⟨_, rfl⟩
    cases hl : dr.ls with
    | nil =>
      obtain ⟨k, ek⟩ := kk 0
      refine ⟨k, { s1 with tn := s1.tn + 1 }, ?_, by rw [ek]; exact (mm _).1, by rw [ek]; exact (mm _).2, k2⟩
      have c1' := c1 0
      have c2' := c2 ((0 % 2147483629 + 40009 * (s1.tn + 1)) ^ 3)
      simp at c1' c2'
      simp [hd, hl, eqD, D.py, D.pys, PyData.eqv, PyData.eqvAll, w1, w2, c1', c2', d11, h1]
      rw [ek]
      simp
    | cons x t =>
      obtain ⟨y, hy, ey⟩ := atI_mod (l := (x :: t).map D.int) (by simp) (s1.tn + 1)
      obtain ⟨i, _, rfl⟩ := List.mem_map.mp hy
      have ey2 : atI (D.int x :: List.map D.int t) ((s1.tn + 1) % ((t.length : Int) + 1)) = some (D.int i) := by simpa using ey
      have e2 : (0 : Int) < ((t.length : Int) + 1) := by omega
      obtain ⟨k, ek⟩ := kk i
      refine ⟨k, { s1 with tn := s1.tn + 1 }, ?_, by rw [ek]; exact (mm _).1, by rw [ek]; exact (mm _).2, k2⟩
      have c1' := c1 i
      have c2' := c2 ((i % 2147483629 + 40009 * (s1.tn + 1)) ^ 3)
      have pl := pls_ints t
      simp [hd, hl, eqD, D.py, D.pys, PyData.eqv, PyData.eqvAll, w1, w2, c1', c2', d11, h1, e2, ey2, pl]
      rw [ek]
end
end Mb
namespace Mb
open PySem PySem.Spec PyProof.Rows L2
section
variable {dr : Dr} {Γ : Ctx} {s : DS} {τ β : Type}
theorem atI_in {α : Type} {l : List α} {k : Int} (h0 : 0 ≤ k) (h : k < l.length) : ∃ y, y ∈ l ∧ atI l k = some y := by
  obtain ⟨n, e⟩ := Int.eq_ofNat_of_zero_le h0
  subst e
  have hn : n < l.length := by omega
  exact ⟨_, List.getElem_mem hn, atI_nat hn⟩
theorem pick_ok {l : List D} {c : Nat} (hl : l ≠ []) (hn : l.length < 2 ^ 64) (hs : Sok s (c + 1)) : ∃ y s', m_l_pick dr [.adr dr.d, .lst l] s = .ok (.dat y) s' ∧ y ∈ l ∧ Sok s' c := by
  have hpos : 0 < l.length := List.length_pos_iff.mpr hl
  obtain ⟨k, s', e, k0, k1, hs'⟩ := next_ok (dr := dr) (l.length : Int) (by omega) (by omega) hs
  obtain ⟨y, hy, ey⟩ := atI_in k0 k1
  exact ⟨y, s', by simp [e_l_pick, t_l_pick, e, ey], hy, hs'⟩
end
/-! ### words -/
end Mb
namespace Mb
open PySem PySem.Spec PyProof.Rows L2
section
variable {A : Adr} {d e w : D} {dr : Dr} {s : DS} {u : Unit} {c k : Nat} {x0 x1 x2 x3 x4 x5 x6 x7 x8 x9 x10 : Sl}
theorem add_lstE {l m : List D} (h : l.length + m.length ≤ 1000000) : pAdd (.lst l) (.lst m) = some (.lst (l ++ m)) := if_pos h
theorem e6 (hs : Sok s (c + 1)) : ∃ (d : D) (s' : DS), t_law_6 dr A (lE x0 (.dat (.adr dr.d)) x2 x3 x4 x5 x6 x7 x8 x9 x10) s = .nx (lE x0 (.dat (.adr dr.d)) x2 (.dat d) x4 x5 x6 x7 x8 x9 x10) s' ∧ d ∈ V12 ∧ Sok s' c := by
  obtain ⟨d, s', e, hd, h1⟩ := pick_ok (dr := dr) (s := s) (l := V12) (c := c) (by simp [V12]) (by simp [V12]) hs
  refine ⟨d, s', ?_, hd, h1⟩
  have p := pow30
  unfold V12 at e
  generalize big30 = B at *
  simp [-pPow, t_law_6, p, e]
theorem e7 (h : okFmtD d = true) : t_law_7 dr A (lE x0 x1 x2 (.dat d) x4 x5 x6 x7 x8 x9 x10) s = .nx (lE x0 x1 x2 (.dat d) (.dat (.lst (madeL A d))) x5 x6 x7 x8 x9 x10) s := by
  have e := fields_ok (A := A) h
  generalize madeL A d = M at *
  simp [t_law_7, e]
theorem e8 (h : pReprA [d] = some (.str (shDS d))) : t_law_8 dr A (lE x0 x1 x2 (.dat d) (.dat (.lst (madeL A d))) x5 x6 x7 x8 x9 x10) s = .nx (lE x0 x1 x2 (.dat d) (.dat (.lst (madeL A d))) x5 x6 x7 x8 x9 x10) s := by
  have hc := lcF_enc (S := DS) (one := lcOne (hT 2 (hC (hN 5) (hC (hN 9) hZ))) (fTest (fBin pNeS (fCall pReprA (fCons (fVar 9) fNil)) (fCall pReprA (fCons (fVar 3) fNil)))) (fVar 9) (lE x0 x1 x2 (.dat d) (.dat (.lst (madeL A d))) .emp x6 x7 x8 .emp x10)) (encF d) (ts := (FC A).zip FN) (fun _ => false) (fun _ => d) fun p hp => by
    generalize madeL A d = M at *
    generalize shDS d = R at *
    funext u
    simp [lcOne, encF, h]
  have hc' := congrFun hc s
  have ef : ((FC A).zip FN).filter (fun _ => false) = [] := List.filter_eq_nil_iff.mpr fun _ _ => Bool.false_ne_true
  rw [ef] at hc'
  have hc' : _ = Out.ok [] s := hc'
  have pn : pNe (.lst []) (.lst []) = some (.bl false) := by simp
  change lcF _ (madeL A d) s = _ at hc'
  generalize madeL A d = M at *
  simp [-pNe, t_law_8, hc', pn]
theorem e9 (hs : Sok s (c + 1)) : ∃ s' : DS, t_law_9 dr A (lE x0 (.dat (.adr dr.d)) x2 x3 (.dat (.lst (madeL A d))) x5 x6 x7 x8 x9 x10) s = .nx (lE x0 (.dat (.adr dr.d)) x2 x3 (.dat (.lst (madeL A d))) x5 (.dat (.lst ((allT A d).map encE))) x7 x8 x9 x10) s' ∧ Sok s' c := by
  obtain ⟨w, s', e, hw, h1⟩ := pick_ok (dr := dr) (s := s) (l := [.str (sl ""), .str (sl "wrong"), .str (sl "a longer message")]) (c := c) (by simp) (by simp) hs
  refine ⟨s', ?_, h1⟩
  have hc := lcF_map (S := DS) (one := lcOne (hT 2 (hC (hN 5) (hC (hN 9) hZ))) fYes (fVar 5) (lE x0 (.dat (.adr dr.d)) x2 x3 (.dat (.lst (madeL A d))) .emp x6 x7 x8 .emp x10)) (encF d) (ts := (FC A).zip FN) (fun p => .err p.1 [p.2] [d]) fun p hp => by
    generalize madeL A d = M at *
    funext u
    simp [lcOne, encF]
  have hc' := congrFun hc s
  change lcF _ (madeL A d) s = _ at hc'
  have e2 := plain_ok (A := A) (w := w)
  have ap : pAdd (.lst (((FC A).zip FN).map fun p => D.err p.1 [p.2] [d])) (.lst (plainL A)) = some (.lst ((allT A d).map encE)) := by
    have hl : (((FC A).zip FN).map fun p => D.err p.1 [p.2] [d]).length + (plainL A).length ≤ 1000000 := by
      simp
    refine (add_lstE hl).trans ?_
    rw [List.map_append, List.map_map, List.map_map]
    rfl
  generalize madeL A d = M at *
  generalize (((FC A).zip FN).map fun p => D.err p.1 [p.2] [d]) = F1 at *
  generalize plainL A = P1 at *
  generalize (allT A d).map encE = AL at *
  simp [-pAdd, t_law_9, hc', e, e2, ap]
noncomputable def eTurn (dr : Dr) (A : Adr) : T DS := (tSeq (t_law_6 dr A) (tSeq (t_law_7 dr A) (tSeq (t_law_8 dr A) (tSeq (t_law_9 dr A) (t_law_10 dr A)))))
theorem eturn_ok (nd : (errL A).Nodup) (hs : Sok s (c + 2)) : ∃ (y : List Sl) (s' : DS), y.length = 8 ∧ eTurn dr A (lE x0 (.dat (.adr dr.d)) x2 x3 x4 x5 x6 x7 x8 x9 x10) s = .nx (x0 :: .dat (.adr dr.d) :: x2 :: y) s' ∧ Sok s' c := by
  obtain ⟨d, s1, h6, hd, g1⟩ := e6 (A := A) (dr := dr) (s := s) (c := c + 1) (x0 := x0) (x2 := x2) (x3 := x3) (x4 := x4) (x5 := x5) (x6 := x6) (x7 := x7) (x8 := x8) (x9 := x9) (x10 := x10) hs
  obtain ⟨s2, h9, g2⟩ := e9 (A := A) (dr := dr) (s := s1) (c := c) (d := d) (x0 := x0) (x2 := x2) (x3 := .dat d) (x5 := x5) (x6 := x6) (x7 := x7) (x8 := x8) (x9 := x9) (x10 := x10) g1
  obtain ⟨y5, y7, y8, h10⟩ := e10 (A := A) (dr := dr) (s := s2) (d := d) (x0 := x0) (x1 := .dat (.adr dr.d)) (x2 := x2) (x3 := .dat d) (x4 := .dat (.lst (madeL A d))) (x5 := x5) (x7 := x7) (x8 := x8) (x9 := x9) (x10 := x10) nd
  refine ⟨[.dat d, .dat (.lst (madeL A d)), y5, .dat (.lst ((allT A d).map encE)), y7, y8, x9, x10], s2, rfl, ?_, g2⟩
  unfold eTurn
  rw [seq_nxE h6, seq_nxE (e7 (fmt12 hd)), seq_nxE (e8 (rep12 hd)), seq_nxE h9]
  exact h10
theorem law_ok96 {d0 : D} (nd : (errL A).Nodup) (hs : Sok s 100) : ∃ s', t_law dr A [.dat d0, .dat (.adr dr.d), .emp, .emp, .emp, .emp, .emp, .emp, .emp, .emp, .emp] s = .rt (.dat (.bl true)) s' := by
  have el : (fCallO gRng1 (fCons (fC (.int 3)) fNil) : F DS (List D)) [.dat d0, .dat (.adr dr.d), .emp, .emp, .emp, .emp, .emp, .emp, .emp, .emp, .emp] s = .ok ((List.range 3).map fun n : Nat => D.int (n : Int)) s := by
    simp [gRng1, rgn]
  obtain ⟨Γ', s', e3, ⟨y, eΓ, hy⟩, hs'⟩ := forL_inv (S := DS) (g := hN 2) (b := eTurn dr A) (fun n : Nat => D.int (n : Int))
    (fun pre Γ u => (∃ y : List Sl, Γ = .dat d0 :: .dat (.adr dr.d) :: y ∧ y.length = 9) ∧ Sok u (2 * (3 - pre.length))) (List.range 3) [] [.dat d0, .dat (.adr dr.d), .emp, .emp, .emp, .emp, .emp, .emp, .emp, .emp, .emp] s ⟨⟨_, rfl, rfl⟩, hs.mono (by simp)⟩ fun p t q Γ u e ⟨⟨y, eΓ, hy⟩, hu⟩ => by
      subst eΓ
      have hpl : p.length < 3 := by
        have := congrArg List.length e
        simp at this
        omega
      match y, hy with
      | [y2, y3, y4, y5, y6, y7, y8, y9, y10], _ =>
        obtain ⟨z, s', hz, e, h'⟩ := eturn_ok (dr := dr) (A := A) (s := u) (c := 2 * (3 - p.length) - 2) (x0 := .dat d0) (x2 := .dat (.int (t : Int))) (x3 := y3) (x4 := y4) (x5 := y5) (x6 := y6) (x7 := y7) (x8 := y8) (x9 := y9) (x10 := y10) nd (hu.mono (by omega))
        exact ⟨_, rfl, _, s', Or.inl e, ⟨_, rfl, by simp [hz]⟩, h'.mono (by simp; omega)⟩
  subst eΓ
  refine ⟨s', ?_⟩
  have e1 : t_law_11 dr A [.dat d0, .dat (.adr dr.d), .emp, .emp, .emp, .emp, .emp, .emp, .emp, .emp, .emp] s = .nx (.dat d0 :: .dat (.adr dr.d) :: y) s' := by
    unfold t_law_11
    simp only [tFor]
    rw [el]
    exact e3
  unfold t_law
  rw [seq_nxE e1]
  rfl
end
end Mb
namespace Mb
open PySem PySem.Spec PyProof.Rows L2
section
variable {P : Program} {wd : World} {K : PySem.W.Frag} {mg : Str → Option Value} {base : Heap}
theorem ok_law {A : Adr} (T : Txt K mg A) (c_l_begun : Cal P wd K mg base "_law_begun" ["_law_script"] 2 (spBeg K)) (c_l_pick : ∀ dr, Cal P wd K mg base "_law_pick" ["_law_draw", "_law_some"] 3 (spW K (dsR dr) (FWof 2 (m_l_pick dr)))) (c_l_with_fields : Cal P wd K mg base "_law_with_fields" ["_law_value"] 3 (spP K (FPof 1 (m_l_with_fields A)))) (c_l_plain : Cal P wd K mg base "_law_plain" ["_law_word"] 2 (spP K (FPof 1 (m_l_plain A)))) (c_l_kinds : Cal P wd K mg base "_law_kinds" ["_law_error"] 2 (spP K (FPof 1 (m_l_kinds A)))) {f : Addr} {fd : FuncData} (Fk : Fun K "law" "law" s_law f fd) : FnG P wd K mg base CX0 4 f fd ["_law_script"] (spTrue K) :=
  law_ofG (fun dr => t_law dr A) 100 rfl Fk sc_law rfl c_l_begun (by decide) (by decide) (by decide) (fun dr a s h => law_ok96 T.ndE h) fun cdv A1 outer s H E hgd hr => ⟨fun te h => ps_set (i := 1) sc_law.nd rfl (by first | exact Or.inl rfl | exact Or.inr rfl) h, fun sp fb fdb Fb h1 h2 h3 => pe_call Fb (hr.mono (by decide)) rfl h1 h2 h3 .nil pass0 (pa_cons (pv 0) pa_nil), fun dr => b_law dr T (c_l_pick dr) c_l_with_fields c_l_plain c_l_kinds hgd hr⟩
abbrev s_Cheaper_init : Stmt := (inClass (topS 6) 0)
theorem fr_Cheaper_init : ∀ x, (defScope s_Cheaper_init).names.lookup x = some .free → x = ("__class__" : Str) := fun x h => by
  have e : (defScope s_Cheaper_init).names = [(("self" : Str), NameKind.local), (("least" : Str), NameKind.local), (("__class__" : Str), NameKind.free), (("super" : Str), NameKind.globalImplicit)] := by rfl
  rw [e] at h
  simp only [List.lookup_cons] at h
  repeat (split at h; · first | (cases h; done) | (rename_i z; exact beq_iff_eq.mp z))
  cases h
abbrev s_NoChange_init : Stmt := (inClass (topS 4) 0)
theorem fr_NoChange_init : ∀ x, (defScope s_NoChange_init).names.lookup x = some .free → x = ("__class__" : Str) := fun x h => by
  have e : (defScope s_NoChange_init).names = [(("self" : Str), NameKind.local), (("change" : Str), NameKind.local), (("__class__" : Str), NameKind.free), (("super" : Str), NameKind.globalImplicit)] := by rfl
  rw [e] at h
  simp only [List.lookup_cons] at h
  repeat (split at h; · first | (cases h; done) | (rename_i z; exact beq_iff_eq.mp z))
  cases h
abbrev s_NoHistory_init : Stmt := (inClass (topS 2) 0)
theorem fr_NoHistory_init : ∀ x, (defScope s_NoHistory_init).names.lookup x = some .free → x = ("__class__" : Str) := fun x h => by
  have e : (defScope s_NoHistory_init).names = [(("self" : Str), NameKind.local), (("at" : Str), NameKind.local), (("__class__" : Str), NameKind.free), (("super" : Str), NameKind.globalImplicit)] := by rfl
  rw [e] at h
  simp only [List.lookup_cons] at h
  repeat (split at h; · first | (cases h; done) | (rename_i z; exact beq_iff_eq.mp z))
  cases h
abbrev s_NoJournal_init : Stmt := (inClass (topS 9) 0)
theorem fr_NoJournal_init : ∀ x, (defScope s_NoJournal_init).names.lookup x = some .free → x = ("__class__" : Str) := fun x h => by
  have e : (defScope s_NoJournal_init).names = [(("self" : Str), NameKind.local), (("at" : Str), NameKind.local), (("__class__" : Str), NameKind.free), (("super" : Str), NameKind.globalImplicit)] := by rfl
  rw [e] at h
  simp only [List.lookup_cons] at h
  repeat (split at h; · first | (cases h; done) | (rename_i z; exact beq_iff_eq.mp z))
  cases h
abbrev s_NoOperation_init : Stmt := (inClass (topS 8) 0)
theorem fr_NoOperation_init : ∀ x, (defScope s_NoOperation_init).names.lookup x = some .free → x = ("__class__" : Str) := fun x h => by
  have e : (defScope s_NoOperation_init).names = [(("self" : Str), NameKind.local), (("at" : Str), NameKind.local), (("__class__" : Str), NameKind.free), (("super" : Str), NameKind.globalImplicit)] := by rfl
  rw [e] at h
  simp only [List.lookup_cons] at h
  repeat (split at h; · first | (cases h; done) | (rename_i z; exact beq_iff_eq.mp z))
  cases h
abbrev s_NoTest_init : Stmt := (inClass (topS 5) 0)
theorem fr_NoTest_init : ∀ x, (defScope s_NoTest_init).names.lookup x = some .free → x = ("__class__" : Str) := fun x h => by
  have e : (defScope s_NoTest_init).names = [(("self" : Str), NameKind.local), (("at" : Str), NameKind.local), (("__class__" : Str), NameKind.free), (("super" : Str), NameKind.globalImplicit)] := by rfl
  rw [e] at h
  simp only [List.lookup_cons] at h
  repeat (split at h; · first | (cases h; done) | (rename_i z; exact beq_iff_eq.mp z))
  cases h
abbrev s_NoText_init : Stmt := (inClass (topS 10) 0)
theorem fr_NoText_init : ∀ x, (defScope s_NoText_init).names.lookup x = some .free → x = ("__class__" : Str) := fun x h => by
  have e : (defScope s_NoText_init).names = [(("self" : Str), NameKind.local), (("row" : Str), NameKind.local), (("__class__" : Str), NameKind.free), (("super" : Str), NameKind.globalImplicit)] := by rfl
  rw [e] at h
  simp only [List.lookup_cons] at h
  repeat (split at h; · first | (cases h; done) | (rename_i z; exact beq_iff_eq.mp z))
  cases h
abbrev s_NoVersion_init : Stmt := (inClass (topS 3) 0)
theorem fr_NoVersion_init : ∀ x, (defScope s_NoVersion_init).names.lookup x = some .free → x = ("__class__" : Str) := fun x h => by
  have e : (defScope s_NoVersion_init).names = [(("self" : Str), NameKind.local), (("version" : Str), NameKind.local), (("__class__" : Str), NameKind.free), (("super" : Str), NameKind.globalImplicit)] := by rfl
  rw [e] at h
  simp only [List.lookup_cons] at h
  repeat (split at h; · first | (cases h; done) | (rename_i z; exact beq_iff_eq.mp z))
  cases h
abbrev s_TooMany_init : Stmt := (inClass (topS 7) 0)
theorem fr_TooMany_init : ∀ x, (defScope s_TooMany_init).names.lookup x = some .free → x = ("__class__" : Str) := fun x h => by
  have e : (defScope s_TooMany_init).names = [(("self" : Str), NameKind.local), (("most" : Str), NameKind.local), (("__class__" : Str), NameKind.free), (("super" : Str), NameKind.globalImplicit)] := by rfl
  rw [e] at h
  simp only [List.lookup_cons] at h
  repeat (split at h; · first | (cases h; done) | (rename_i z; exact beq_iff_eq.mp z))
  cases h
end
theorem all_mk {l : PySem.W.OpenLaw} {w : World} {K : PySem.W.Frag} {h : Heap} {mg : Str → Option Value} {fa : Addr} (X : K.In h) (G : h.Ns mainGlobals mg) (hfa : mg "law" = some (.ref fa))
    {cBlameError : Addr}
    {cCheaper : Addr}
    {cNoCase : Addr}
    {cNoCause : Addr}
    {cNoCauses : Addr}
    {cNoChange : Addr}
    {cNoChanges : Addr}
    {cNoClaim : Addr}
    {cNoCosts : Addr}
    {cNoHistory : Addr}
    {cNoJournal : Addr}
    {cNoLie : Addr}
    {cNoLimit : Addr}
    {cNoNumber : Addr}
    {cNoOperation : Addr}
    {cNoOrder : Addr}
    {cNoPlan : Addr}
    {cNoState : Addr}
    {cNoSuspects : Addr}
    {cNoTest : Addr}
    {cNoText : Addr}
    {cNoTheory : Addr}
    {cNoVersion : Addr}
    {cNothingLeft : Addr}
    {cTooMany : Addr}
    {fCheaper_init cdaCheaper_init ccCheaper_init : Addr} {odCheaper_init anCheaper_init odaCheaper_init odcCheaper_init : Option Addr} {slCheaper_init slaCheaper_init slcCheaper_init : Array (Option Value)} {ocCheaper_init kVCheaper_init dcCheaper_init pmCheaper_init ctCheaper_init ocaCheaper_init occCheaper_init : Value} {vsCheaper_init : Array Value} {fiCheaper_init : Str} {tfCheaper_init : Tok} {cdCheaper_init : ClassData}
    {fNoChange_init cdaNoChange_init ccNoChange_init : Addr} {odNoChange_init anNoChange_init odaNoChange_init odcNoChange_init : Option Addr} {slNoChange_init slaNoChange_init slcNoChange_init : Array (Option Value)} {ocNoChange_init kVNoChange_init dcNoChange_init pmNoChange_init ctNoChange_init ocaNoChange_init occNoChange_init : Value} {vsNoChange_init : Array Value} {fiNoChange_init : Str} {tfNoChange_init : Tok} {cdNoChange_init : ClassData}
    {fNoHistory_init cdaNoHistory_init ccNoHistory_init : Addr} {odNoHistory_init anNoHistory_init odaNoHistory_init odcNoHistory_init : Option Addr} {slNoHistory_init slaNoHistory_init slcNoHistory_init : Array (Option Value)} {ocNoHistory_init kVNoHistory_init dcNoHistory_init pmNoHistory_init ctNoHistory_init ocaNoHistory_init occNoHistory_init : Value} {vsNoHistory_init : Array Value} {fiNoHistory_init : Str} {tfNoHistory_init : Tok} {cdNoHistory_init : ClassData}
    {fNoJournal_init cdaNoJournal_init ccNoJournal_init : Addr} {odNoJournal_init anNoJournal_init odaNoJournal_init odcNoJournal_init : Option Addr} {slNoJournal_init slaNoJournal_init slcNoJournal_init : Array (Option Value)} {ocNoJournal_init kVNoJournal_init dcNoJournal_init pmNoJournal_init ctNoJournal_init ocaNoJournal_init occNoJournal_init : Value} {vsNoJournal_init : Array Value} {fiNoJournal_init : Str} {tfNoJournal_init : Tok} {cdNoJournal_init : ClassData}
    {fNoOperation_init cdaNoOperation_init ccNoOperation_init : Addr} {odNoOperation_init anNoOperation_init odaNoOperation_init odcNoOperation_init : Option Addr} {slNoOperation_init slaNoOperation_init slcNoOperation_init : Array (Option Value)} {ocNoOperation_init kVNoOperation_init dcNoOperation_init pmNoOperation_init ctNoOperation_init ocaNoOperation_init occNoOperation_init : Value} {vsNoOperation_init : Array Value} {fiNoOperation_init : Str} {tfNoOperation_init : Tok} {cdNoOperation_init : ClassData}
    {fNoTest_init cdaNoTest_init ccNoTest_init : Addr} {odNoTest_init anNoTest_init odaNoTest_init odcNoTest_init : Option Addr} {slNoTest_init slaNoTest_init slcNoTest_init : Array (Option Value)} {ocNoTest_init kVNoTest_init dcNoTest_init pmNoTest_init ctNoTest_init ocaNoTest_init occNoTest_init : Value} {vsNoTest_init : Array Value} {fiNoTest_init : Str} {tfNoTest_init : Tok} {cdNoTest_init : ClassData}
    {fNoText_init cdaNoText_init ccNoText_init : Addr} {odNoText_init anNoText_init odaNoText_init odcNoText_init : Option Addr} {slNoText_init slaNoText_init slcNoText_init : Array (Option Value)} {ocNoText_init kVNoText_init dcNoText_init pmNoText_init ctNoText_init ocaNoText_init occNoText_init : Value} {vsNoText_init : Array Value} {fiNoText_init : Str} {tfNoText_init : Tok} {cdNoText_init : ClassData}
    {fNoVersion_init cdaNoVersion_init ccNoVersion_init : Addr} {odNoVersion_init anNoVersion_init odaNoVersion_init odcNoVersion_init : Option Addr} {slNoVersion_init slaNoVersion_init slcNoVersion_init : Array (Option Value)} {ocNoVersion_init kVNoVersion_init dcNoVersion_init pmNoVersion_init ctNoVersion_init ocaNoVersion_init occNoVersion_init : Value} {vsNoVersion_init : Array Value} {fiNoVersion_init : Str} {tfNoVersion_init : Tok} {cdNoVersion_init : ClassData}
    {fTooMany_init cdaTooMany_init ccTooMany_init : Addr} {odTooMany_init anTooMany_init odaTooMany_init odcTooMany_init : Option Addr} {slTooMany_init slaTooMany_init slcTooMany_init : Array (Option Value)} {ocTooMany_init kVTooMany_init dcTooMany_init pmTooMany_init ctTooMany_init ocaTooMany_init occTooMany_init : Value} {vsTooMany_init : Array Value} {fiTooMany_init : Str} {tfTooMany_init : Tok} {cdTooMany_init : ClassData}
    {fl_begun : Addr} {odl_begun anl_begun : Option Addr} {sll_begun : Array (Option Value)} {ocl_begun kVl_begun dcl_begun pml_begun cdl_begun ctl_begun : Value}
    {fl_next : Addr} {odl_next anl_next : Option Addr} {sll_next : Array (Option Value)} {ocl_next kVl_next dcl_next pml_next cdl_next ctl_next : Value}
    {fl_pick : Addr} {odl_pick anl_pick : Option Addr} {sll_pick : Array (Option Value)} {ocl_pick kVl_pick dcl_pick pml_pick cdl_pick ctl_pick : Value}
    {fl_with_fields : Addr} {odl_with_fields anl_with_fields : Option Addr} {sll_with_fields : Array (Option Value)} {ocl_with_fields kVl_with_fields dcl_with_fields pml_with_fields cdl_with_fields ctl_with_fields : Value}
    {fl_plain : Addr} {odl_plain anl_plain : Option Addr} {sll_plain : Array (Option Value)} {ocl_plain kVl_plain dcl_plain pml_plain cdl_plain ctl_plain : Value}
    {fl_kinds : Addr} {odl_kinds anl_kinds : Option Addr} {sll_kinds : Array (Option Value)} {ocl_kinds kVl_kinds dcl_kinds pml_kinds cdl_kinds ctl_kinds : Value}
    {flaw : Addr} {odlaw anlaw : Option Addr} {sllaw : Array (Option Value)} {oclaw kVlaw dclaw pmlaw cdlaw ctlaw : Value}
    (aCBlameError : PySem.W.nsIn K mainGlobals "BlameError" = some (some (.ref cBlameError)))
    (aCCheaper : PySem.W.nsIn K mainGlobals "Cheaper" = some (some (.ref cCheaper)))
    (aCNoCase : PySem.W.nsIn K mainGlobals "NoCase" = some (some (.ref cNoCase)))
    (aCNoCause : PySem.W.nsIn K mainGlobals "NoCause" = some (some (.ref cNoCause)))
    (aCNoCauses : PySem.W.nsIn K mainGlobals "NoCauses" = some (some (.ref cNoCauses)))
    (aCNoChange : PySem.W.nsIn K mainGlobals "NoChange" = some (some (.ref cNoChange)))
    (aCNoChanges : PySem.W.nsIn K mainGlobals "NoChanges" = some (some (.ref cNoChanges)))
    (aCNoClaim : PySem.W.nsIn K mainGlobals "NoClaim" = some (some (.ref cNoClaim)))
    (aCNoCosts : PySem.W.nsIn K mainGlobals "NoCosts" = some (some (.ref cNoCosts)))
    (aCNoHistory : PySem.W.nsIn K mainGlobals "NoHistory" = some (some (.ref cNoHistory)))
    (aCNoJournal : PySem.W.nsIn K mainGlobals "NoJournal" = some (some (.ref cNoJournal)))
    (aCNoLie : PySem.W.nsIn K mainGlobals "NoLie" = some (some (.ref cNoLie)))
    (aCNoLimit : PySem.W.nsIn K mainGlobals "NoLimit" = some (some (.ref cNoLimit)))
    (aCNoNumber : PySem.W.nsIn K mainGlobals "NoNumber" = some (some (.ref cNoNumber)))
    (aCNoOperation : PySem.W.nsIn K mainGlobals "NoOperation" = some (some (.ref cNoOperation)))
    (aCNoOrder : PySem.W.nsIn K mainGlobals "NoOrder" = some (some (.ref cNoOrder)))
    (aCNoPlan : PySem.W.nsIn K mainGlobals "NoPlan" = some (some (.ref cNoPlan)))
    (aCNoState : PySem.W.nsIn K mainGlobals "NoState" = some (some (.ref cNoState)))
    (aCNoSuspects : PySem.W.nsIn K mainGlobals "NoSuspects" = some (some (.ref cNoSuspects)))
    (aCNoTest : PySem.W.nsIn K mainGlobals "NoTest" = some (some (.ref cNoTest)))
    (aCNoText : PySem.W.nsIn K mainGlobals "NoText" = some (some (.ref cNoText)))
    (aCNoTheory : PySem.W.nsIn K mainGlobals "NoTheory" = some (some (.ref cNoTheory)))
    (aCNoVersion : PySem.W.nsIn K mainGlobals "NoVersion" = some (some (.ref cNoVersion)))
    (aCNothingLeft : PySem.W.nsIn K mainGlobals "NothingLeft" = some (some (.ref cNothingLeft)))
    (aCTooMany : PySem.W.nsIn K mainGlobals "TooMany" = some (some (.ref cTooMany)))
    (z_super : PySem.W.nsIn K mainGlobals "super" = some none)
    (z_top : (l.prog.main.scope.names.lookup ("super" : Str)).isSome = false)
    (z_tp : PySem.W.nsIn K cStatics "thirdparty.any" = some none)
    (fi_Cheaper_init : PySem.W.findIn K (.ref cCheaper) "__init__" = some (some (.ref fCheaper_init)))
    (l_Cheaper_init : K.lookup fCheaper_init = some ⟨ocCheaper_init, odCheaper_init, .func (PySem.W.ksFn "__init__" "Cheaper.__init__" (defArgs s_Cheaper_init) (defBody s_Cheaper_init) (defScope s_Cheaper_init) .none kVCheaper_init dcCheaper_init pmCheaper_init anCheaper_init (.ref cdaCheaper_init) ctCheaper_init ccCheaper_init), slCheaper_init⟩)
    (c_Cheaper_init : PySem.W.codeIn K (.ref cdaCheaper_init) "Cheaper.__init__" = true)
    (la_Cheaper_init : K.lookup cdaCheaper_init = some ⟨ocaCheaper_init, odaCheaper_init, .fields vsCheaper_init, slaCheaper_init⟩)
    (va_Cheaper_init : vsCheaper_init[2]? = some (.str fiCheaper_init tfCheaper_init))
    (fa_Cheaper_init : ((l.prog.main.file : Str) == fiCheaper_init) = true)
    (lc_Cheaper_init : K.lookup ccCheaper_init = some ⟨occCheaper_init, odcCheaper_init, .cell (some (.ref cCheaper)), slcCheaper_init⟩)
    (dc_Cheaper_init : PySem.W.clsIn K cCheaper = some cdCheaper_init)
    (ox_Cheaper_init : oexB K cCheaper = true)
    (sa_Cheaper_init : PySem.W.findIn K (.ref cCheaper) "__setattr__" = some (some (.builtin "object.__setattr__")))
    (ex_Cheaper_init : PySem.W.subIn K (.ref cCheaper) (.type "BaseException") = some true)
    (ty_Cheaper_init : PySem.W.typeIn K (.ref cCheaper) = some (.type "type"))
    (kC_Cheaper_init : PySem.W.keepIn K (.ref cCheaper) = true)
    (ti_Cheaper_init : PySem.W.typeIn K (.ref fCheaper_init) = some (.type "function"))
    (su_Cheaper_init : PySem.W.ks_superIn K cCheaper cCheaper "__init__" = some (some (.builtin "ValueError.__init__")))
    (mr_Cheaper_init : PySem.W.mroIn K cCheaper (.ref cCheaper) = some true)
    (sb_Cheaper_init : PySem.W.subIn K (.ref cCheaper) (.type "ValueError") = some true)
    (ff_Cheaper_init : PySem.W.findIn K (.ref cCheaper) "least" = some none)
    (fi_NoChange_init : PySem.W.findIn K (.ref cNoChange) "__init__" = some (some (.ref fNoChange_init)))
    (l_NoChange_init : K.lookup fNoChange_init = some ⟨ocNoChange_init, odNoChange_init, .func (PySem.W.ksFn "__init__" "NoChange.__init__" (defArgs s_NoChange_init) (defBody s_NoChange_init) (defScope s_NoChange_init) .none kVNoChange_init dcNoChange_init pmNoChange_init anNoChange_init (.ref cdaNoChange_init) ctNoChange_init ccNoChange_init), slNoChange_init⟩)
    (c_NoChange_init : PySem.W.codeIn K (.ref cdaNoChange_init) "NoChange.__init__" = true)
    (la_NoChange_init : K.lookup cdaNoChange_init = some ⟨ocaNoChange_init, odaNoChange_init, .fields vsNoChange_init, slaNoChange_init⟩)
    (va_NoChange_init : vsNoChange_init[2]? = some (.str fiNoChange_init tfNoChange_init))
    (fa_NoChange_init : ((l.prog.main.file : Str) == fiNoChange_init) = true)
    (lc_NoChange_init : K.lookup ccNoChange_init = some ⟨occNoChange_init, odcNoChange_init, .cell (some (.ref cNoChange)), slcNoChange_init⟩)
    (dc_NoChange_init : PySem.W.clsIn K cNoChange = some cdNoChange_init)
    (ox_NoChange_init : oexB K cNoChange = true)
    (sa_NoChange_init : PySem.W.findIn K (.ref cNoChange) "__setattr__" = some (some (.builtin "object.__setattr__")))
    (ex_NoChange_init : PySem.W.subIn K (.ref cNoChange) (.type "BaseException") = some true)
    (ty_NoChange_init : PySem.W.typeIn K (.ref cNoChange) = some (.type "type"))
    (kC_NoChange_init : PySem.W.keepIn K (.ref cNoChange) = true)
    (ti_NoChange_init : PySem.W.typeIn K (.ref fNoChange_init) = some (.type "function"))
    (su_NoChange_init : PySem.W.ks_superIn K cNoChange cNoChange "__init__" = some (some (.builtin "ValueError.__init__")))
    (mr_NoChange_init : PySem.W.mroIn K cNoChange (.ref cNoChange) = some true)
    (sb_NoChange_init : PySem.W.subIn K (.ref cNoChange) (.type "ValueError") = some true)
    (ff_NoChange_init : PySem.W.findIn K (.ref cNoChange) "change" = some none)
    (fi_NoHistory_init : PySem.W.findIn K (.ref cNoHistory) "__init__" = some (some (.ref fNoHistory_init)))
    (l_NoHistory_init : K.lookup fNoHistory_init = some ⟨ocNoHistory_init, odNoHistory_init, .func (PySem.W.ksFn "__init__" "NoHistory.__init__" (defArgs s_NoHistory_init) (defBody s_NoHistory_init) (defScope s_NoHistory_init) .none kVNoHistory_init dcNoHistory_init pmNoHistory_init anNoHistory_init (.ref cdaNoHistory_init) ctNoHistory_init ccNoHistory_init), slNoHistory_init⟩)
    (c_NoHistory_init : PySem.W.codeIn K (.ref cdaNoHistory_init) "NoHistory.__init__" = true)
    (la_NoHistory_init : K.lookup cdaNoHistory_init = some ⟨ocaNoHistory_init, odaNoHistory_init, .fields vsNoHistory_init, slaNoHistory_init⟩)
    (va_NoHistory_init : vsNoHistory_init[2]? = some (.str fiNoHistory_init tfNoHistory_init))
    (fa_NoHistory_init : ((l.prog.main.file : Str) == fiNoHistory_init) = true)
    (lc_NoHistory_init : K.lookup ccNoHistory_init = some ⟨occNoHistory_init, odcNoHistory_init, .cell (some (.ref cNoHistory)), slcNoHistory_init⟩)
    (dc_NoHistory_init : PySem.W.clsIn K cNoHistory = some cdNoHistory_init)
    (ox_NoHistory_init : oexB K cNoHistory = true)
    (sa_NoHistory_init : PySem.W.findIn K (.ref cNoHistory) "__setattr__" = some (some (.builtin "object.__setattr__")))
    (ex_NoHistory_init : PySem.W.subIn K (.ref cNoHistory) (.type "BaseException") = some true)
    (ty_NoHistory_init : PySem.W.typeIn K (.ref cNoHistory) = some (.type "type"))
    (kC_NoHistory_init : PySem.W.keepIn K (.ref cNoHistory) = true)
    (ti_NoHistory_init : PySem.W.typeIn K (.ref fNoHistory_init) = some (.type "function"))
    (su_NoHistory_init : PySem.W.ks_superIn K cNoHistory cNoHistory "__init__" = some (some (.builtin "ValueError.__init__")))
    (mr_NoHistory_init : PySem.W.mroIn K cNoHistory (.ref cNoHistory) = some true)
    (sb_NoHistory_init : PySem.W.subIn K (.ref cNoHistory) (.type "ValueError") = some true)
    (ff_NoHistory_init : PySem.W.findIn K (.ref cNoHistory) "at" = some none)
    (fi_NoJournal_init : PySem.W.findIn K (.ref cNoJournal) "__init__" = some (some (.ref fNoJournal_init)))
    (l_NoJournal_init : K.lookup fNoJournal_init = some ⟨ocNoJournal_init, odNoJournal_init, .func (PySem.W.ksFn "__init__" "NoJournal.__init__" (defArgs s_NoJournal_init) (defBody s_NoJournal_init) (defScope s_NoJournal_init) .none kVNoJournal_init dcNoJournal_init pmNoJournal_init anNoJournal_init (.ref cdaNoJournal_init) ctNoJournal_init ccNoJournal_init), slNoJournal_init⟩)
    (c_NoJournal_init : PySem.W.codeIn K (.ref cdaNoJournal_init) "NoJournal.__init__" = true)
    (la_NoJournal_init : K.lookup cdaNoJournal_init = some ⟨ocaNoJournal_init, odaNoJournal_init, .fields vsNoJournal_init, slaNoJournal_init⟩)
    (va_NoJournal_init : vsNoJournal_init[2]? = some (.str fiNoJournal_init tfNoJournal_init))
    (fa_NoJournal_init : ((l.prog.main.file : Str) == fiNoJournal_init) = true)
    (lc_NoJournal_init : K.lookup ccNoJournal_init = some ⟨occNoJournal_init, odcNoJournal_init, .cell (some (.ref cNoJournal)), slcNoJournal_init⟩)
    (dc_NoJournal_init : PySem.W.clsIn K cNoJournal = some cdNoJournal_init)
    (ox_NoJournal_init : oexB K cNoJournal = true)
    (sa_NoJournal_init : PySem.W.findIn K (.ref cNoJournal) "__setattr__" = some (some (.builtin "object.__setattr__")))
    (ex_NoJournal_init : PySem.W.subIn K (.ref cNoJournal) (.type "BaseException") = some true)
    (ty_NoJournal_init : PySem.W.typeIn K (.ref cNoJournal) = some (.type "type"))
    (kC_NoJournal_init : PySem.W.keepIn K (.ref cNoJournal) = true)
    (ti_NoJournal_init : PySem.W.typeIn K (.ref fNoJournal_init) = some (.type "function"))
    (su_NoJournal_init : PySem.W.ks_superIn K cNoJournal cNoJournal "__init__" = some (some (.builtin "ValueError.__init__")))
    (mr_NoJournal_init : PySem.W.mroIn K cNoJournal (.ref cNoJournal) = some true)
    (sb_NoJournal_init : PySem.W.subIn K (.ref cNoJournal) (.type "ValueError") = some true)
    (ff_NoJournal_init : PySem.W.findIn K (.ref cNoJournal) "at" = some none)
    (fi_NoOperation_init : PySem.W.findIn K (.ref cNoOperation) "__init__" = some (some (.ref fNoOperation_init)))
    (l_NoOperation_init : K.lookup fNoOperation_init = some ⟨ocNoOperation_init, odNoOperation_init, .func (PySem.W.ksFn "__init__" "NoOperation.__init__" (defArgs s_NoOperation_init) (defBody s_NoOperation_init) (defScope s_NoOperation_init) .none kVNoOperation_init dcNoOperation_init pmNoOperation_init anNoOperation_init (.ref cdaNoOperation_init) ctNoOperation_init ccNoOperation_init), slNoOperation_init⟩)
    (c_NoOperation_init : PySem.W.codeIn K (.ref cdaNoOperation_init) "NoOperation.__init__" = true)
    (la_NoOperation_init : K.lookup cdaNoOperation_init = some ⟨ocaNoOperation_init, odaNoOperation_init, .fields vsNoOperation_init, slaNoOperation_init⟩)
    (va_NoOperation_init : vsNoOperation_init[2]? = some (.str fiNoOperation_init tfNoOperation_init))
    (fa_NoOperation_init : ((l.prog.main.file : Str) == fiNoOperation_init) = true)
    (lc_NoOperation_init : K.lookup ccNoOperation_init = some ⟨occNoOperation_init, odcNoOperation_init, .cell (some (.ref cNoOperation)), slcNoOperation_init⟩)
    (dc_NoOperation_init : PySem.W.clsIn K cNoOperation = some cdNoOperation_init)
    (ox_NoOperation_init : oexB K cNoOperation = true)
    (sa_NoOperation_init : PySem.W.findIn K (.ref cNoOperation) "__setattr__" = some (some (.builtin "object.__setattr__")))
    (ex_NoOperation_init : PySem.W.subIn K (.ref cNoOperation) (.type "BaseException") = some true)
    (ty_NoOperation_init : PySem.W.typeIn K (.ref cNoOperation) = some (.type "type"))
    (kC_NoOperation_init : PySem.W.keepIn K (.ref cNoOperation) = true)
    (ti_NoOperation_init : PySem.W.typeIn K (.ref fNoOperation_init) = some (.type "function"))
    (su_NoOperation_init : PySem.W.ks_superIn K cNoOperation cNoOperation "__init__" = some (some (.builtin "ValueError.__init__")))
    (mr_NoOperation_init : PySem.W.mroIn K cNoOperation (.ref cNoOperation) = some true)
    (sb_NoOperation_init : PySem.W.subIn K (.ref cNoOperation) (.type "ValueError") = some true)
    (ff_NoOperation_init : PySem.W.findIn K (.ref cNoOperation) "at" = some none)
    (fi_NoTest_init : PySem.W.findIn K (.ref cNoTest) "__init__" = some (some (.ref fNoTest_init)))
    (l_NoTest_init : K.lookup fNoTest_init = some ⟨ocNoTest_init, odNoTest_init, .func (PySem.W.ksFn "__init__" "NoTest.__init__" (defArgs s_NoTest_init) (defBody s_NoTest_init) (defScope s_NoTest_init) .none kVNoTest_init dcNoTest_init pmNoTest_init anNoTest_init (.ref cdaNoTest_init) ctNoTest_init ccNoTest_init), slNoTest_init⟩)
    (c_NoTest_init : PySem.W.codeIn K (.ref cdaNoTest_init) "NoTest.__init__" = true)
    (la_NoTest_init : K.lookup cdaNoTest_init = some ⟨ocaNoTest_init, odaNoTest_init, .fields vsNoTest_init, slaNoTest_init⟩)
    (va_NoTest_init : vsNoTest_init[2]? = some (.str fiNoTest_init tfNoTest_init))
    (fa_NoTest_init : ((l.prog.main.file : Str) == fiNoTest_init) = true)
    (lc_NoTest_init : K.lookup ccNoTest_init = some ⟨occNoTest_init, odcNoTest_init, .cell (some (.ref cNoTest)), slcNoTest_init⟩)
    (dc_NoTest_init : PySem.W.clsIn K cNoTest = some cdNoTest_init)
    (ox_NoTest_init : oexB K cNoTest = true)
    (sa_NoTest_init : PySem.W.findIn K (.ref cNoTest) "__setattr__" = some (some (.builtin "object.__setattr__")))
    (ex_NoTest_init : PySem.W.subIn K (.ref cNoTest) (.type "BaseException") = some true)
    (ty_NoTest_init : PySem.W.typeIn K (.ref cNoTest) = some (.type "type"))
    (kC_NoTest_init : PySem.W.keepIn K (.ref cNoTest) = true)
    (ti_NoTest_init : PySem.W.typeIn K (.ref fNoTest_init) = some (.type "function"))
    (su_NoTest_init : PySem.W.ks_superIn K cNoTest cNoTest "__init__" = some (some (.builtin "ValueError.__init__")))
    (mr_NoTest_init : PySem.W.mroIn K cNoTest (.ref cNoTest) = some true)
    (sb_NoTest_init : PySem.W.subIn K (.ref cNoTest) (.type "ValueError") = some true)
    (ff_NoTest_init : PySem.W.findIn K (.ref cNoTest) "at" = some none)
    (fi_NoText_init : PySem.W.findIn K (.ref cNoText) "__init__" = some (some (.ref fNoText_init)))
    (l_NoText_init : K.lookup fNoText_init = some ⟨ocNoText_init, odNoText_init, .func (PySem.W.ksFn "__init__" "NoText.__init__" (defArgs s_NoText_init) (defBody s_NoText_init) (defScope s_NoText_init) .none kVNoText_init dcNoText_init pmNoText_init anNoText_init (.ref cdaNoText_init) ctNoText_init ccNoText_init), slNoText_init⟩)
    (c_NoText_init : PySem.W.codeIn K (.ref cdaNoText_init) "NoText.__init__" = true)
    (la_NoText_init : K.lookup cdaNoText_init = some ⟨ocaNoText_init, odaNoText_init, .fields vsNoText_init, slaNoText_init⟩)
    (va_NoText_init : vsNoText_init[2]? = some (.str fiNoText_init tfNoText_init))
    (fa_NoText_init : ((l.prog.main.file : Str) == fiNoText_init) = true)
    (lc_NoText_init : K.lookup ccNoText_init = some ⟨occNoText_init, odcNoText_init, .cell (some (.ref cNoText)), slcNoText_init⟩)
    (dc_NoText_init : PySem.W.clsIn K cNoText = some cdNoText_init)
    (ox_NoText_init : oexB K cNoText = true)
    (sa_NoText_init : PySem.W.findIn K (.ref cNoText) "__setattr__" = some (some (.builtin "object.__setattr__")))
    (ex_NoText_init : PySem.W.subIn K (.ref cNoText) (.type "BaseException") = some true)
    (ty_NoText_init : PySem.W.typeIn K (.ref cNoText) = some (.type "type"))
    (kC_NoText_init : PySem.W.keepIn K (.ref cNoText) = true)
    (ti_NoText_init : PySem.W.typeIn K (.ref fNoText_init) = some (.type "function"))
    (su_NoText_init : PySem.W.ks_superIn K cNoText cNoText "__init__" = some (some (.builtin "ValueError.__init__")))
    (mr_NoText_init : PySem.W.mroIn K cNoText (.ref cNoText) = some true)
    (sb_NoText_init : PySem.W.subIn K (.ref cNoText) (.type "ValueError") = some true)
    (ff_NoText_init : PySem.W.findIn K (.ref cNoText) "row" = some none)
    (fi_NoVersion_init : PySem.W.findIn K (.ref cNoVersion) "__init__" = some (some (.ref fNoVersion_init)))
    (l_NoVersion_init : K.lookup fNoVersion_init = some ⟨ocNoVersion_init, odNoVersion_init, .func (PySem.W.ksFn "__init__" "NoVersion.__init__" (defArgs s_NoVersion_init) (defBody s_NoVersion_init) (defScope s_NoVersion_init) .none kVNoVersion_init dcNoVersion_init pmNoVersion_init anNoVersion_init (.ref cdaNoVersion_init) ctNoVersion_init ccNoVersion_init), slNoVersion_init⟩)
    (c_NoVersion_init : PySem.W.codeIn K (.ref cdaNoVersion_init) "NoVersion.__init__" = true)
    (la_NoVersion_init : K.lookup cdaNoVersion_init = some ⟨ocaNoVersion_init, odaNoVersion_init, .fields vsNoVersion_init, slaNoVersion_init⟩)
    (va_NoVersion_init : vsNoVersion_init[2]? = some (.str fiNoVersion_init tfNoVersion_init))
    (fa_NoVersion_init : ((l.prog.main.file : Str) == fiNoVersion_init) = true)
    (lc_NoVersion_init : K.lookup ccNoVersion_init = some ⟨occNoVersion_init, odcNoVersion_init, .cell (some (.ref cNoVersion)), slcNoVersion_init⟩)
    (dc_NoVersion_init : PySem.W.clsIn K cNoVersion = some cdNoVersion_init)
    (ox_NoVersion_init : oexB K cNoVersion = true)
    (sa_NoVersion_init : PySem.W.findIn K (.ref cNoVersion) "__setattr__" = some (some (.builtin "object.__setattr__")))
    (ex_NoVersion_init : PySem.W.subIn K (.ref cNoVersion) (.type "BaseException") = some true)
    (ty_NoVersion_init : PySem.W.typeIn K (.ref cNoVersion) = some (.type "type"))
    (kC_NoVersion_init : PySem.W.keepIn K (.ref cNoVersion) = true)
    (ti_NoVersion_init : PySem.W.typeIn K (.ref fNoVersion_init) = some (.type "function"))
    (su_NoVersion_init : PySem.W.ks_superIn K cNoVersion cNoVersion "__init__" = some (some (.builtin "ValueError.__init__")))
    (mr_NoVersion_init : PySem.W.mroIn K cNoVersion (.ref cNoVersion) = some true)
    (sb_NoVersion_init : PySem.W.subIn K (.ref cNoVersion) (.type "ValueError") = some true)
    (ff_NoVersion_init : PySem.W.findIn K (.ref cNoVersion) "version" = some none)
    (fi_TooMany_init : PySem.W.findIn K (.ref cTooMany) "__init__" = some (some (.ref fTooMany_init)))
    (l_TooMany_init : K.lookup fTooMany_init = some ⟨ocTooMany_init, odTooMany_init, .func (PySem.W.ksFn "__init__" "TooMany.__init__" (defArgs s_TooMany_init) (defBody s_TooMany_init) (defScope s_TooMany_init) .none kVTooMany_init dcTooMany_init pmTooMany_init anTooMany_init (.ref cdaTooMany_init) ctTooMany_init ccTooMany_init), slTooMany_init⟩)
    (c_TooMany_init : PySem.W.codeIn K (.ref cdaTooMany_init) "TooMany.__init__" = true)
    (la_TooMany_init : K.lookup cdaTooMany_init = some ⟨ocaTooMany_init, odaTooMany_init, .fields vsTooMany_init, slaTooMany_init⟩)
    (va_TooMany_init : vsTooMany_init[2]? = some (.str fiTooMany_init tfTooMany_init))
    (fa_TooMany_init : ((l.prog.main.file : Str) == fiTooMany_init) = true)
    (lc_TooMany_init : K.lookup ccTooMany_init = some ⟨occTooMany_init, odcTooMany_init, .cell (some (.ref cTooMany)), slcTooMany_init⟩)
    (dc_TooMany_init : PySem.W.clsIn K cTooMany = some cdTooMany_init)
    (ox_TooMany_init : oexB K cTooMany = true)
    (sa_TooMany_init : PySem.W.findIn K (.ref cTooMany) "__setattr__" = some (some (.builtin "object.__setattr__")))
    (ex_TooMany_init : PySem.W.subIn K (.ref cTooMany) (.type "BaseException") = some true)
    (ty_TooMany_init : PySem.W.typeIn K (.ref cTooMany) = some (.type "type"))
    (kC_TooMany_init : PySem.W.keepIn K (.ref cTooMany) = true)
    (ti_TooMany_init : PySem.W.typeIn K (.ref fTooMany_init) = some (.type "function"))
    (su_TooMany_init : PySem.W.ks_superIn K cTooMany cTooMany "__init__" = some (some (.builtin "ValueError.__init__")))
    (mr_TooMany_init : PySem.W.mroIn K cTooMany (.ref cTooMany) = some true)
    (sb_TooMany_init : PySem.W.subIn K (.ref cTooMany) (.type "ValueError") = some true)
    (ff_TooMany_init : PySem.W.findIn K (.ref cTooMany) "most" = some none)
    (z_ValueError : PySem.W.nsIn K mainGlobals "ValueError" = some none)
    (z_abs : PySem.W.nsIn K mainGlobals "abs" = some none)
    (z_enumerate : PySem.W.nsIn K mainGlobals "enumerate" = some none)
    (ox_kits : kitsB K [cNoHistory, cNoVersion, cNoChange, cNoTest, cCheaper, cTooMany, cNoOperation, cNoJournal, cNoText, cNoOrder, cNoCause, cNoTheory, cNoCase, cNoCosts, cNoLie, cNoLimit, cNoCauses, cNoClaim, cNoChanges, cNoSuspects, cNoState, cNoPlan, cNoNumber, cNothingLeft] = true)
    (ox_excs : excsB K [cNoHistory, cNoVersion, cNoChange, cNoTest, cCheaper, cTooMany, cNoOperation, cNoJournal, cNoText, cNoOrder, cNoCause, cNoTheory, cNoCase, cNoCosts, cNoLie, cNoLimit, cNoCauses, cNoClaim, cNoChanges, cNoSuspects, cNoState, cNoPlan, cNoNumber, cNothingLeft] = true)
    (ox_kitE : kitsV K [cNoHistory, cNoVersion, cNoChange, cNoTest, cCheaper, cTooMany, cNoOperation, cNoJournal, cNoText, cNoOrder, cNoCause, cNoTheory, cNoCase, cNoCosts, cNoLie, cNoLimit, cNoCauses, cNoClaim, cNoChanges, cNoSuspects, cNoState, cNoPlan, cNoNumber, cNothingLeft] (.ref cBlameError) = true)
    (ox_kitV : kitsV K [cNoHistory, cNoVersion, cNoChange, cNoTest, cCheaper, cTooMany, cNoOperation, cNoJournal, cNoText, cNoOrder, cNoCause, cNoTheory, cNoCase, cNoCosts, cNoLie, cNoLimit, cNoCauses, cNoClaim, cNoChanges, cNoSuspects, cNoState, cNoPlan, cNoNumber, cNothingLeft] (.type "ValueError") = true)
    (np_errs : ([cNoHistory, cNoVersion, cNoChange, cNoTest, cCheaper, cTooMany, cNoOperation, cNoJournal, cNoText, cNoOrder, cNoCause, cNoTheory, cNoCase, cNoCosts, cNoLie, cNoLimit, cNoCauses, cNoClaim, cNoChanges, cNoSuspects, cNoState, cNoPlan, cNoNumber, cNothingLeft] : List Addr).Nodup)
    (z_int : PySem.W.nsIn K mainGlobals "int" = some none)
    (z_isinstance : PySem.W.nsIn K mainGlobals "isinstance" = some none)
    (z_len : PySem.W.nsIn K mainGlobals "len" = some none)
    (eqNoCase : PySem.W.excIn K cNoCase [.type "ValueError", .type "Exception", .type "BaseException", .type "object"] "ValueError.__new__" = true)
    (ekNoCase : PySem.W.keepIn K (.ref cNoCase) = true)
    (esNoCase : PySem.W.subIn K (.ref cNoCase) (.type "BaseException") = some true)
    (etNoCase : PySem.W.typeIn K (.ref cNoCase) = some (.type "type"))
    (eqNoCause : PySem.W.excIn K cNoCause [.type "ValueError", .type "Exception", .type "BaseException", .type "object"] "ValueError.__new__" = true)
    (ekNoCause : PySem.W.keepIn K (.ref cNoCause) = true)
    (esNoCause : PySem.W.subIn K (.ref cNoCause) (.type "BaseException") = some true)
    (etNoCause : PySem.W.typeIn K (.ref cNoCause) = some (.type "type"))
    (eqNoCauses : PySem.W.excIn K cNoCauses [.type "ValueError", .type "Exception", .type "BaseException", .type "object"] "ValueError.__new__" = true)
    (ekNoCauses : PySem.W.keepIn K (.ref cNoCauses) = true)
    (esNoCauses : PySem.W.subIn K (.ref cNoCauses) (.type "BaseException") = some true)
    (etNoCauses : PySem.W.typeIn K (.ref cNoCauses) = some (.type "type"))
    (eqNoChanges : PySem.W.excIn K cNoChanges [.type "ValueError", .type "Exception", .type "BaseException", .type "object"] "ValueError.__new__" = true)
    (ekNoChanges : PySem.W.keepIn K (.ref cNoChanges) = true)
    (esNoChanges : PySem.W.subIn K (.ref cNoChanges) (.type "BaseException") = some true)
    (etNoChanges : PySem.W.typeIn K (.ref cNoChanges) = some (.type "type"))
    (eqNoClaim : PySem.W.excIn K cNoClaim [.type "ValueError", .type "Exception", .type "BaseException", .type "object"] "ValueError.__new__" = true)
    (ekNoClaim : PySem.W.keepIn K (.ref cNoClaim) = true)
    (esNoClaim : PySem.W.subIn K (.ref cNoClaim) (.type "BaseException") = some true)
    (etNoClaim : PySem.W.typeIn K (.ref cNoClaim) = some (.type "type"))
    (eqNoCosts : PySem.W.excIn K cNoCosts [.type "ValueError", .type "Exception", .type "BaseException", .type "object"] "ValueError.__new__" = true)
    (ekNoCosts : PySem.W.keepIn K (.ref cNoCosts) = true)
    (esNoCosts : PySem.W.subIn K (.ref cNoCosts) (.type "BaseException") = some true)
    (etNoCosts : PySem.W.typeIn K (.ref cNoCosts) = some (.type "type"))
    (eqNoLie : PySem.W.excIn K cNoLie [.type "ValueError", .type "Exception", .type "BaseException", .type "object"] "ValueError.__new__" = true)
    (ekNoLie : PySem.W.keepIn K (.ref cNoLie) = true)
    (esNoLie : PySem.W.subIn K (.ref cNoLie) (.type "BaseException") = some true)
    (etNoLie : PySem.W.typeIn K (.ref cNoLie) = some (.type "type"))
    (eqNoLimit : PySem.W.excIn K cNoLimit [.type "ValueError", .type "Exception", .type "BaseException", .type "object"] "ValueError.__new__" = true)
    (ekNoLimit : PySem.W.keepIn K (.ref cNoLimit) = true)
    (esNoLimit : PySem.W.subIn K (.ref cNoLimit) (.type "BaseException") = some true)
    (etNoLimit : PySem.W.typeIn K (.ref cNoLimit) = some (.type "type"))
    (eqNoNumber : PySem.W.excIn K cNoNumber [.type "ValueError", .type "Exception", .type "BaseException", .type "object"] "ValueError.__new__" = true)
    (ekNoNumber : PySem.W.keepIn K (.ref cNoNumber) = true)
    (esNoNumber : PySem.W.subIn K (.ref cNoNumber) (.type "BaseException") = some true)
    (etNoNumber : PySem.W.typeIn K (.ref cNoNumber) = some (.type "type"))
    (eqNoOrder : PySem.W.excIn K cNoOrder [.type "ValueError", .type "Exception", .type "BaseException", .type "object"] "ValueError.__new__" = true)
    (ekNoOrder : PySem.W.keepIn K (.ref cNoOrder) = true)
    (esNoOrder : PySem.W.subIn K (.ref cNoOrder) (.type "BaseException") = some true)
    (etNoOrder : PySem.W.typeIn K (.ref cNoOrder) = some (.type "type"))
    (eqNoPlan : PySem.W.excIn K cNoPlan [.type "ValueError", .type "Exception", .type "BaseException", .type "object"] "ValueError.__new__" = true)
    (ekNoPlan : PySem.W.keepIn K (.ref cNoPlan) = true)
    (esNoPlan : PySem.W.subIn K (.ref cNoPlan) (.type "BaseException") = some true)
    (etNoPlan : PySem.W.typeIn K (.ref cNoPlan) = some (.type "type"))
    (eqNoState : PySem.W.excIn K cNoState [.type "ValueError", .type "Exception", .type "BaseException", .type "object"] "ValueError.__new__" = true)
    (ekNoState : PySem.W.keepIn K (.ref cNoState) = true)
    (esNoState : PySem.W.subIn K (.ref cNoState) (.type "BaseException") = some true)
    (etNoState : PySem.W.typeIn K (.ref cNoState) = some (.type "type"))
    (eqNoSuspects : PySem.W.excIn K cNoSuspects [.type "ValueError", .type "Exception", .type "BaseException", .type "object"] "ValueError.__new__" = true)
    (ekNoSuspects : PySem.W.keepIn K (.ref cNoSuspects) = true)
    (esNoSuspects : PySem.W.subIn K (.ref cNoSuspects) (.type "BaseException") = some true)
    (etNoSuspects : PySem.W.typeIn K (.ref cNoSuspects) = some (.type "type"))
    (eqNoTheory : PySem.W.excIn K cNoTheory [.type "ValueError", .type "Exception", .type "BaseException", .type "object"] "ValueError.__new__" = true)
    (ekNoTheory : PySem.W.keepIn K (.ref cNoTheory) = true)
    (esNoTheory : PySem.W.subIn K (.ref cNoTheory) (.type "BaseException") = some true)
    (etNoTheory : PySem.W.typeIn K (.ref cNoTheory) = some (.type "type"))
    (eqNothingLeft : PySem.W.excIn K cNothingLeft [.type "ValueError", .type "Exception", .type "BaseException", .type "object"] "ValueError.__new__" = true)
    (ekNothingLeft : PySem.W.keepIn K (.ref cNothingLeft) = true)
    (esNothingLeft : PySem.W.subIn K (.ref cNothingLeft) (.type "BaseException") = some true)
    (etNothingLeft : PySem.W.typeIn K (.ref cNothingLeft) = some (.type "type"))
    (z_range : PySem.W.nsIn K mainGlobals "range" = some none)
    (z_repr : PySem.W.nsIn K mainGlobals "repr" = some none)
    (xn_Cheaper : PySem.W.findIn K (.ref cCheaper) "least" = some none)
    (xn_NoChange : PySem.W.findIn K (.ref cNoChange) "change" = some none)
    (xn_NoHistory : PySem.W.findIn K (.ref cNoHistory) "at" = some none)
    (xn_NoJournal : PySem.W.findIn K (.ref cNoJournal) "at" = some none)
    (xn_NoOperation : PySem.W.findIn K (.ref cNoOperation) "at" = some none)
    (xn_NoTest : PySem.W.findIn K (.ref cNoTest) "at" = some none)
    (xn_NoText : PySem.W.findIn K (.ref cNoText) "row" = some none)
    (xn_NoVersion : PySem.W.findIn K (.ref cNoVersion) "version" = some none)
    (xn_TooMany : PySem.W.findIn K (.ref cTooMany) "most" = some none)
    (a_l_begun : PySem.W.nsIn K mainGlobals "_law_begun" = some (some (.ref fl_begun)))
    (l_l_begun : K.lookup fl_begun = some ⟨ocl_begun, odl_begun, .func (PySem.W.fnOf "_law_begun" "_law_begun" (defArgs s_l_begun) (defBody s_l_begun) (defScope s_l_begun) .none kVl_begun dcl_begun pml_begun anl_begun cdl_begun ctl_begun), sll_begun⟩)
    (c_l_begun : PySem.W.codeIn K cdl_begun "_law_begun" = true)
    (k_l_begun : PySem.W.keepIn K (.ref fl_begun) = true)
    (a_l_next : PySem.W.nsIn K mainGlobals "_law_next" = some (some (.ref fl_next)))
    (l_l_next : K.lookup fl_next = some ⟨ocl_next, odl_next, .func (PySem.W.fnOf "_law_next" "_law_next" (defArgs s_l_next) (defBody s_l_next) (defScope s_l_next) .none kVl_next dcl_next pml_next anl_next cdl_next ctl_next), sll_next⟩)
    (c_l_next : PySem.W.codeIn K cdl_next "_law_next" = true)
    (k_l_next : PySem.W.keepIn K (.ref fl_next) = true)
    (a_l_pick : PySem.W.nsIn K mainGlobals "_law_pick" = some (some (.ref fl_pick)))
    (l_l_pick : K.lookup fl_pick = some ⟨ocl_pick, odl_pick, .func (PySem.W.fnOf "_law_pick" "_law_pick" (defArgs s_l_pick) (defBody s_l_pick) (defScope s_l_pick) .none kVl_pick dcl_pick pml_pick anl_pick cdl_pick ctl_pick), sll_pick⟩)
    (c_l_pick : PySem.W.codeIn K cdl_pick "_law_pick" = true)
    (k_l_pick : PySem.W.keepIn K (.ref fl_pick) = true)
    (a_l_with_fields : PySem.W.nsIn K mainGlobals "_law_with_fields" = some (some (.ref fl_with_fields)))
    (l_l_with_fields : K.lookup fl_with_fields = some ⟨ocl_with_fields, odl_with_fields, .func (PySem.W.fnOf "_law_with_fields" "_law_with_fields" (defArgs s_l_with_fields) (defBody s_l_with_fields) (defScope s_l_with_fields) .none kVl_with_fields dcl_with_fields pml_with_fields anl_with_fields cdl_with_fields ctl_with_fields), sll_with_fields⟩)
    (c_l_with_fields : PySem.W.codeIn K cdl_with_fields "_law_with_fields" = true)
    (k_l_with_fields : PySem.W.keepIn K (.ref fl_with_fields) = true)
    (a_l_plain : PySem.W.nsIn K mainGlobals "_law_plain" = some (some (.ref fl_plain)))
    (l_l_plain : K.lookup fl_plain = some ⟨ocl_plain, odl_plain, .func (PySem.W.fnOf "_law_plain" "_law_plain" (defArgs s_l_plain) (defBody s_l_plain) (defScope s_l_plain) .none kVl_plain dcl_plain pml_plain anl_plain cdl_plain ctl_plain), sll_plain⟩)
    (c_l_plain : PySem.W.codeIn K cdl_plain "_law_plain" = true)
    (k_l_plain : PySem.W.keepIn K (.ref fl_plain) = true)
    (a_l_kinds : PySem.W.nsIn K mainGlobals "_law_kinds" = some (some (.ref fl_kinds)))
    (l_l_kinds : K.lookup fl_kinds = some ⟨ocl_kinds, odl_kinds, .func (PySem.W.fnOf "_law_kinds" "_law_kinds" (defArgs s_l_kinds) (defBody s_l_kinds) (defScope s_l_kinds) .none kVl_kinds dcl_kinds pml_kinds anl_kinds cdl_kinds ctl_kinds), sll_kinds⟩)
    (c_l_kinds : PySem.W.codeIn K cdl_kinds "_law_kinds" = true)
    (k_l_kinds : PySem.W.keepIn K (.ref fl_kinds) = true)
    (a_law : PySem.W.nsIn K mainGlobals "law" = some (some (.ref flaw)))
    (l_law : K.lookup flaw = some ⟨oclaw, odlaw, .func (PySem.W.fnOf "law" "law" (defArgs s_law) (defBody s_law) (defScope s_law) .none kVlaw dclaw pmlaw anlaw cdlaw ctlaw), sllaw⟩)
    (c_law : PySem.W.codeIn K cdlaw "law" = true)
    (k_law : PySem.W.keepIn K (.ref flaw) = true) :
    ∃ fd : FuncData, (∀ (s : Shared) (v : Value), BindsTo s fd ⟨[v], []⟩ [("_law_script", v)]) ∧ ∀ base : Heap, K.In base → base.Ns mainGlobals mg → FnG l.prog w K mg base CX0 4 fa fd ["_law_script"] (spTrue K) := by
  have e := hfa.symm.trans (PySem.W.mg_of X G a_law)
  cases e
  have T : Txt K mg { History := 0, Theory := 0, Case := 0, Quest := 0, Grower := 0, BlameError := cBlameError, Cheaper := cCheaper, NoCase := cNoCase, NoCause := cNoCause, NoCauses := cNoCauses, NoChange := cNoChange, NoChanges := cNoChanges, NoClaim := cNoClaim, NoCosts := cNoCosts, NoHistory := cNoHistory, NoJournal := cNoJournal, NoLie := cNoLie, NoLimit := cNoLimit, NoNumber := cNoNumber, NoOperation := cNoOperation, NoOrder := cNoOrder, NoPlan := cNoPlan, NoState := cNoState, NoSuspects := cNoSuspects, NoTest := cNoTest, NoText := cNoText, NoTheory := cNoTheory, NoVersion := cNoVersion, NothingLeft := cNothingLeft, TooMany := cTooMany } := { m_ValueError := PySem.W.mg_none_of X G z_ValueError, m_abs := PySem.W.mg_none_of X G z_abs, m_enumerate := PySem.W.mg_none_of X G z_enumerate, g_BlameError := PySem.W.mg_of X G aCBlameError, g_Cheaper := PySem.W.mg_of X G aCCheaper, g_NoCase := PySem.W.mg_of X G aCNoCase, g_NoCause := PySem.W.mg_of X G aCNoCause, g_NoCauses := PySem.W.mg_of X G aCNoCauses, g_NoChange := PySem.W.mg_of X G aCNoChange, g_NoChanges := PySem.W.mg_of X G aCNoChanges, g_NoClaim := PySem.W.mg_of X G aCNoClaim, g_NoCosts := PySem.W.mg_of X G aCNoCosts, g_NoHistory := PySem.W.mg_of X G aCNoHistory, g_NoJournal := PySem.W.mg_of X G aCNoJournal, g_NoLie := PySem.W.mg_of X G aCNoLie, g_NoLimit := PySem.W.mg_of X G aCNoLimit, g_NoNumber := PySem.W.mg_of X G aCNoNumber, g_NoOperation := PySem.W.mg_of X G aCNoOperation, g_NoOrder := PySem.W.mg_of X G aCNoOrder, g_NoPlan := PySem.W.mg_of X G aCNoPlan, g_NoState := PySem.W.mg_of X G aCNoState, g_NoSuspects := PySem.W.mg_of X G aCNoSuspects, g_NoTest := PySem.W.mg_of X G aCNoTest, g_NoText := PySem.W.mg_of X G aCNoText, g_NoTheory := PySem.W.mg_of X G aCNoTheory, g_NoVersion := PySem.W.mg_of X G aCNoVersion, g_NothingLeft := PySem.W.mg_of X G aCNothingLeft, g_TooMany := PySem.W.mg_of X G aCTooMany, kits := ox_kits, excs := ox_excs, kitE := ox_kitE, kitV := ox_kitV, ndE := np_errs, m_int := PySem.W.mg_none_of X G z_int, m_isinstance := PySem.W.mg_none_of X G z_isinstance, m_len := PySem.W.mg_none_of X G z_len, er_NoCase := ⟨eqNoCase, ekNoCase, esNoCase, etNoCase⟩, er_NoCause := ⟨eqNoCause, ekNoCause, esNoCause, etNoCause⟩, er_NoCauses := ⟨eqNoCauses, ekNoCauses, esNoCauses, etNoCauses⟩, er_NoChanges := ⟨eqNoChanges, ekNoChanges, esNoChanges, etNoChanges⟩, er_NoClaim := ⟨eqNoClaim, ekNoClaim, esNoClaim, etNoClaim⟩, er_NoCosts := ⟨eqNoCosts, ekNoCosts, esNoCosts, etNoCosts⟩, er_NoLie := ⟨eqNoLie, ekNoLie, esNoLie, etNoLie⟩, er_NoLimit := ⟨eqNoLimit, ekNoLimit, esNoLimit, etNoLimit⟩, er_NoNumber := ⟨eqNoNumber, ekNoNumber, esNoNumber, etNoNumber⟩, er_NoOrder := ⟨eqNoOrder, ekNoOrder, esNoOrder, etNoOrder⟩, er_NoPlan := ⟨eqNoPlan, ekNoPlan, esNoPlan, etNoPlan⟩, er_NoState := ⟨eqNoState, ekNoState, esNoState, etNoState⟩, er_NoSuspects := ⟨eqNoSuspects, ekNoSuspects, esNoSuspects, etNoSuspects⟩, er_NoTheory := ⟨eqNoTheory, ekNoTheory, esNoTheory, etNoTheory⟩, er_NothingLeft := ⟨eqNothingLeft, ekNothingLeft, esNothingLeft, etNothingLeft⟩, m_range := PySem.W.mg_none_of X G z_range, m_repr := PySem.W.mg_none_of X G z_repr, xn_Cheaper := xn_Cheaper, xn_NoChange := xn_NoChange, xn_NoHistory := xn_NoHistory, xn_NoJournal := xn_NoJournal, xn_NoOperation := xn_NoOperation, xn_NoTest := xn_NoTest, xn_NoText := xn_NoText, xn_NoVersion := xn_NoVersion, xn_TooMany := xn_TooMany }
  refine ⟨PySem.W.fnOf "law" "law" (defArgs s_law) (defBody s_law) (defScope s_law) .none kVlaw dclaw pmlaw anlaw cdlaw ctlaw, fun s v => .of_eq rfl, fun base _ _ => ?_⟩
  have c_ev_Cheaper : CalV l.prog w K mg base "Cheaper" cCheaper "least" 1 := calV_mk ox_Cheaper_init sa_Cheaper_init ex_Cheaper_init ty_Cheaper_init kC_Cheaper_init fi_Cheaper_init ti_Cheaper_init (fn_errH (k := 0) l_Cheaper_init c_Cheaper_init (sup_mk l_Cheaper_init rfl rfl la_Cheaper_init va_Cheaper_init fa_Cheaper_init lc_Cheaper_init dc_Cheaper_init (PySem.W.mg_none_of X G z_super) z_top z_tp) ⟨rfl, rfl, rfl, by decide, rfl, rfl, rfl, rfl, by decide +kernel, by intro x h; exact fr_Cheaper_init x h⟩ rfl rfl rfl (fun A outer s H hr => (msgH_2 hr rfl (Or.inl rfl) (by decide) (by decide) (by decide))) (fun _ => rfl) (fun _ => rfl) (fun _ => rfl) (fun _ => rfl)) (.all fun us hl => match us, hl with | [_, _], _ => rfl) ⟨fun s us ws X h1 h2 => match us, ws, h1, h2 with | [_], [_], _, _ => .of_eq rfl, fun r rz => gK_rel r rz⟩ su_Cheaper_init mr_Cheaper_init sb_Cheaper_init ff_Cheaper_init (PySem.W.mg_of X G aCCheaper)
  have c_ev_NoChange : CalV l.prog w K mg base "NoChange" cNoChange "change" 1 := calV_mk ox_NoChange_init sa_NoChange_init ex_NoChange_init ty_NoChange_init kC_NoChange_init fi_NoChange_init ti_NoChange_init (fn_errH (k := 0) l_NoChange_init c_NoChange_init (sup_mk l_NoChange_init rfl rfl la_NoChange_init va_NoChange_init fa_NoChange_init lc_NoChange_init dc_NoChange_init (PySem.W.mg_none_of X G z_super) z_top z_tp) ⟨rfl, rfl, rfl, by decide, rfl, rfl, rfl, rfl, by decide +kernel, by intro x h; exact fr_NoChange_init x h⟩ rfl rfl rfl (fun A outer s H hr => msgH_c) (fun _ => rfl) (fun _ => rfl) (fun _ => rfl) (fun _ => rfl)) (.all fun us hl => match us, hl with | [_, _], _ => rfl) ⟨fun s us ws X h1 h2 => match us, ws, h1, h2 with | [_], [_], _, _ => .of_eq rfl, fun r rz => gK_rel r rz⟩ su_NoChange_init mr_NoChange_init sb_NoChange_init ff_NoChange_init (PySem.W.mg_of X G aCNoChange)
  have c_ev_NoHistory : CalV l.prog w K mg base "NoHistory" cNoHistory "at" 1 := calV_mk ox_NoHistory_init sa_NoHistory_init ex_NoHistory_init ty_NoHistory_init kC_NoHistory_init fi_NoHistory_init ti_NoHistory_init (fn_errH (k := 0) l_NoHistory_init c_NoHistory_init (sup_mk l_NoHistory_init rfl rfl la_NoHistory_init va_NoHistory_init fa_NoHistory_init lc_NoHistory_init dc_NoHistory_init (PySem.W.mg_none_of X G z_super) z_top z_tp) ⟨rfl, rfl, rfl, by decide, rfl, rfl, rfl, rfl, by decide +kernel, by intro x h; exact fr_NoHistory_init x h⟩ rfl rfl rfl (fun A outer s H hr => (msgH_3 hr rfl (Or.inl rfl) (by decide) (by decide) (by decide) (by decide))) (fun _ => rfl) (fun _ => rfl) (fun _ => rfl) (fun _ => rfl)) (.all fun us hl => match us, hl with | [_, _], _ => rfl) ⟨fun s us ws X h1 h2 => match us, ws, h1, h2 with | [_], [_], _, _ => .of_eq rfl, fun r rz => gK_rel r rz⟩ su_NoHistory_init mr_NoHistory_init sb_NoHistory_init ff_NoHistory_init (PySem.W.mg_of X G aCNoHistory)
  have c_ev_NoJournal : CalV l.prog w K mg base "NoJournal" cNoJournal "at" 1 := calV_mk ox_NoJournal_init sa_NoJournal_init ex_NoJournal_init ty_NoJournal_init kC_NoJournal_init fi_NoJournal_init ti_NoJournal_init (fn_errH (k := 0) l_NoJournal_init c_NoJournal_init (sup_mk l_NoJournal_init rfl rfl la_NoJournal_init va_NoJournal_init fa_NoJournal_init lc_NoJournal_init dc_NoJournal_init (PySem.W.mg_none_of X G z_super) z_top z_tp) ⟨rfl, rfl, rfl, by decide, rfl, rfl, rfl, rfl, by decide +kernel, by intro x h; exact fr_NoJournal_init x h⟩ rfl rfl rfl (fun A outer s H hr => (msgH_3 hr rfl (Or.inl rfl) (by decide) (by decide) (by decide) (by decide))) (fun _ => rfl) (fun _ => rfl) (fun _ => rfl) (fun _ => rfl)) (.all fun us hl => match us, hl with | [_, _], _ => rfl) ⟨fun s us ws X h1 h2 => match us, ws, h1, h2 with | [_], [_], _, _ => .of_eq rfl, fun r rz => gK_rel r rz⟩ su_NoJournal_init mr_NoJournal_init sb_NoJournal_init ff_NoJournal_init (PySem.W.mg_of X G aCNoJournal)
  have c_ev_NoOperation : CalV l.prog w K mg base "NoOperation" cNoOperation "at" 1 := calV_mk ox_NoOperation_init sa_NoOperation_init ex_NoOperation_init ty_NoOperation_init kC_NoOperation_init fi_NoOperation_init ti_NoOperation_init (fn_errH (k := 0) l_NoOperation_init c_NoOperation_init (sup_mk l_NoOperation_init rfl rfl la_NoOperation_init va_NoOperation_init fa_NoOperation_init lc_NoOperation_init dc_NoOperation_init (PySem.W.mg_none_of X G z_super) z_top z_tp) ⟨rfl, rfl, rfl, by decide, rfl, rfl, rfl, rfl, by decide +kernel, by intro x h; exact fr_NoOperation_init x h⟩ rfl rfl rfl (fun A outer s H hr => (msgH_3 hr rfl (Or.inl rfl) (by decide) (by decide) (by decide) (by decide))) (fun _ => rfl) (fun _ => rfl) (fun _ => rfl) (fun _ => rfl)) (.all fun us hl => match us, hl with | [_, _], _ => rfl) ⟨fun s us ws X h1 h2 => match us, ws, h1, h2 with | [_], [_], _, _ => .of_eq rfl, fun r rz => gK_rel r rz⟩ su_NoOperation_init mr_NoOperation_init sb_NoOperation_init ff_NoOperation_init (PySem.W.mg_of X G aCNoOperation)
  have c_ev_NoTest : CalV l.prog w K mg base "NoTest" cNoTest "at" 1 := calV_mk ox_NoTest_init sa_NoTest_init ex_NoTest_init ty_NoTest_init kC_NoTest_init fi_NoTest_init ti_NoTest_init (fn_errH (k := 0) l_NoTest_init c_NoTest_init (sup_mk l_NoTest_init rfl rfl la_NoTest_init va_NoTest_init fa_NoTest_init lc_NoTest_init dc_NoTest_init (PySem.W.mg_none_of X G z_super) z_top z_tp) ⟨rfl, rfl, rfl, by decide, rfl, rfl, rfl, rfl, by decide +kernel, by intro x h; exact fr_NoTest_init x h⟩ rfl rfl rfl (fun A outer s H hr => (msgH_3 hr rfl (Or.inl rfl) (by decide) (by decide) (by decide) (by decide))) (fun _ => rfl) (fun _ => rfl) (fun _ => rfl) (fun _ => rfl)) (.all fun us hl => match us, hl with | [_, _], _ => rfl) ⟨fun s us ws X h1 h2 => match us, ws, h1, h2 with | [_], [_], _, _ => .of_eq rfl, fun r rz => gK_rel r rz⟩ su_NoTest_init mr_NoTest_init sb_NoTest_init ff_NoTest_init (PySem.W.mg_of X G aCNoTest)
  have c_ev_NoText : CalV l.prog w K mg base "NoText" cNoText "row" 1 := calV_mk ox_NoText_init sa_NoText_init ex_NoText_init ty_NoText_init kC_NoText_init fi_NoText_init ti_NoText_init (fn_errH (k := 0) l_NoText_init c_NoText_init (sup_mk l_NoText_init rfl rfl la_NoText_init va_NoText_init fa_NoText_init lc_NoText_init dc_NoText_init (PySem.W.mg_none_of X G z_super) z_top z_tp) ⟨rfl, rfl, rfl, by decide, rfl, rfl, rfl, rfl, by decide +kernel, by intro x h; exact fr_NoText_init x h⟩ rfl rfl rfl (fun A outer s H hr => (msgH_3 hr rfl (Or.inl rfl) (by decide) (by decide) (by decide) (by decide))) (fun _ => rfl) (fun _ => rfl) (fun _ => rfl) (fun _ => rfl)) (.all fun us hl => match us, hl with | [_, _], _ => rfl) ⟨fun s us ws X h1 h2 => match us, ws, h1, h2 with | [_], [_], _, _ => .of_eq rfl, fun r rz => gK_rel r rz⟩ su_NoText_init mr_NoText_init sb_NoText_init ff_NoText_init (PySem.W.mg_of X G aCNoText)
  have c_ev_NoVersion : CalV l.prog w K mg base "NoVersion" cNoVersion "version" 1 := calV_mk ox_NoVersion_init sa_NoVersion_init ex_NoVersion_init ty_NoVersion_init kC_NoVersion_init fi_NoVersion_init ti_NoVersion_init (fn_errH (k := 0) l_NoVersion_init c_NoVersion_init (sup_mk l_NoVersion_init rfl rfl la_NoVersion_init va_NoVersion_init fa_NoVersion_init lc_NoVersion_init dc_NoVersion_init (PySem.W.mg_none_of X G z_super) z_top z_tp) ⟨rfl, rfl, rfl, by decide, rfl, rfl, rfl, rfl, by decide +kernel, by intro x h; exact fr_NoVersion_init x h⟩ rfl rfl rfl (fun A outer s H hr => msgH_c) (fun _ => rfl) (fun _ => rfl) (fun _ => rfl) (fun _ => rfl)) (.all fun us hl => match us, hl with | [_, _], _ => rfl) ⟨fun s us ws X h1 h2 => match us, ws, h1, h2 with | [_], [_], _, _ => .of_eq rfl, fun r rz => gK_rel r rz⟩ su_NoVersion_init mr_NoVersion_init sb_NoVersion_init ff_NoVersion_init (PySem.W.mg_of X G aCNoVersion)
  have c_ev_TooMany : CalV l.prog w K mg base "TooMany" cTooMany "most" 1 := calV_mk ox_TooMany_init sa_TooMany_init ex_TooMany_init ty_TooMany_init kC_TooMany_init fi_TooMany_init ti_TooMany_init (fn_errH (k := 0) l_TooMany_init c_TooMany_init (sup_mk l_TooMany_init rfl rfl la_TooMany_init va_TooMany_init fa_TooMany_init lc_TooMany_init dc_TooMany_init (PySem.W.mg_none_of X G z_super) z_top z_tp) ⟨rfl, rfl, rfl, by decide, rfl, rfl, rfl, rfl, by decide +kernel, by intro x h; exact fr_TooMany_init x h⟩ rfl rfl rfl (fun A outer s H hr => (msgH_2 hr rfl (Or.inl rfl) (by decide) (by decide) (by decide))) (fun _ => rfl) (fun _ => rfl) (fun _ => rfl) (fun _ => rfl)) (.all fun us hl => match us, hl with | [_, _], _ => rfl) ⟨fun s us ws X h1 h2 => match us, ws, h1, h2 with | [_], [_], _, _ => .of_eq rfl, fun r rz => gK_rel r rz⟩ su_TooMany_init mr_TooMany_init sb_TooMany_init ff_TooMany_init (PySem.W.mg_of X G aCTooMany)
  have F_l_begun := fun_mk (st := s_l_begun) l_l_begun c_l_begun k_l_begun
  have b_l_begun := F_l_begun.binds (ps := ["_law_script"]) fun _ _ _ _ _ _ us hl => match us, hl with | [_], _ => rfl
  have c_l_begun : Cal l.prog w K mg base "_law_begun" ["_law_script"] 2 (spBeg K) := ⟨⟨_, _, ok_l_begun T F_l_begun, PySem.W.mg_of X G a_l_begun, k_l_begun, b_l_begun⟩⟩
  have F_l_next := fun_mk (st := s_l_next) l_l_next c_l_next k_l_next
  have b_l_next := F_l_next.binds (ps := ["_law_draw", "_law_many"]) fun _ _ _ _ _ _ us hl => match us, hl with | [_, _], _ => rfl
  have o_l_next : ∀ dr : Dr, FnOk l.prog w K mg base CX0 2 fl_next _ ["_law_draw", "_law_many"] (spW K (dsR dr) (FWof 2 (m_l_next dr))) := fun dr => ok_l_next dr T  F_l_next
  have c_l_next : ∀ dr : Dr, Cal l.prog w K mg base "_law_next" ["_law_draw", "_law_many"] 2 (spW K (dsR dr) (FWof 2 (m_l_next dr))) := fun dr => ⟨⟨_, _, o_l_next dr, PySem.W.mg_of X G a_l_next, k_l_next, b_l_next⟩⟩
  have F_l_pick := fun_mk (st := s_l_pick) l_l_pick c_l_pick k_l_pick
  have b_l_pick := F_l_pick.binds (ps := ["_law_draw", "_law_some"]) fun _ _ _ _ _ _ us hl => match us, hl with | [_, _], _ => rfl
  have o_l_pick : ∀ dr : Dr, FnOk l.prog w K mg base CX0 3 fl_pick _ ["_law_draw", "_law_some"] (spW K (dsR dr) (FWof 2 (m_l_pick dr))) := fun dr => ok_l_pick dr T (c_l_next dr) F_l_pick
  have c_l_pick : ∀ dr : Dr, Cal l.prog w K mg base "_law_pick" ["_law_draw", "_law_some"] 3 (spW K (dsR dr) (FWof 2 (m_l_pick dr))) := fun dr => ⟨⟨_, _, o_l_pick dr, PySem.W.mg_of X G a_l_pick, k_l_pick, b_l_pick⟩⟩
  have F_l_with_fields := fun_mk (st := s_l_with_fields) l_l_with_fields c_l_with_fields k_l_with_fields
  have b_l_with_fields := F_l_with_fields.binds (ps := ["_law_value"]) fun _ _ _ _ _ _ us hl => match us, hl with | [_], _ => rfl
  have o_l_with_fields : FnOk l.prog w K mg base CX0 3 fl_with_fields _ ["_law_value"] (spP K (FPof 1 (m_l_with_fields ({ History := 0, Theory := 0, Case := 0, Quest := 0, Grower := 0, BlameError := cBlameError, Cheaper := cCheaper, NoCase := cNoCase, NoCause := cNoCause, NoCauses := cNoCauses, NoChange := cNoChange, NoChanges := cNoChanges, NoClaim := cNoClaim, NoCosts := cNoCosts, NoHistory := cNoHistory, NoJournal := cNoJournal, NoLie := cNoLie, NoLimit := cNoLimit, NoNumber := cNoNumber, NoOperation := cNoOperation, NoOrder := cNoOrder, NoPlan := cNoPlan, NoState := cNoState, NoSuspects := cNoSuspects, NoTest := cNoTest, NoText := cNoText, NoTheory := cNoTheory, NoVersion := cNoVersion, NothingLeft := cNothingLeft, TooMany := cTooMany } : Adr)))) := ok_l_with_fields T c_ev_NoHistory c_ev_NoVersion c_ev_NoChange c_ev_NoTest c_ev_Cheaper c_ev_TooMany c_ev_NoOperation c_ev_NoJournal c_ev_NoText F_l_with_fields
  have c_l_with_fields : Cal l.prog w K mg base "_law_with_fields" ["_law_value"] 3 (spP K (FPof 1 (m_l_with_fields ({ History := 0, Theory := 0, Case := 0, Quest := 0, Grower := 0, BlameError := cBlameError, Cheaper := cCheaper, NoCase := cNoCase, NoCause := cNoCause, NoCauses := cNoCauses, NoChange := cNoChange, NoChanges := cNoChanges, NoClaim := cNoClaim, NoCosts := cNoCosts, NoHistory := cNoHistory, NoJournal := cNoJournal, NoLie := cNoLie, NoLimit := cNoLimit, NoNumber := cNoNumber, NoOperation := cNoOperation, NoOrder := cNoOrder, NoPlan := cNoPlan, NoState := cNoState, NoSuspects := cNoSuspects, NoTest := cNoTest, NoText := cNoText, NoTheory := cNoTheory, NoVersion := cNoVersion, NothingLeft := cNothingLeft, TooMany := cTooMany } : Adr)))) := ⟨⟨_, _, o_l_with_fields, PySem.W.mg_of X G a_l_with_fields, k_l_with_fields, b_l_with_fields⟩⟩
  have F_l_plain := fun_mk (st := s_l_plain) l_l_plain c_l_plain k_l_plain
  have b_l_plain := F_l_plain.binds (ps := ["_law_word"]) fun _ _ _ _ _ _ us hl => match us, hl with | [_], _ => rfl
  have o_l_plain : FnOk l.prog w K mg base CX0 2 fl_plain _ ["_law_word"] (spP K (FPof 1 (m_l_plain ({ History := 0, Theory := 0, Case := 0, Quest := 0, Grower := 0, BlameError := cBlameError, Cheaper := cCheaper, NoCase := cNoCase, NoCause := cNoCause, NoCauses := cNoCauses, NoChange := cNoChange, NoChanges := cNoChanges, NoClaim := cNoClaim, NoCosts := cNoCosts, NoHistory := cNoHistory, NoJournal := cNoJournal, NoLie := cNoLie, NoLimit := cNoLimit, NoNumber := cNoNumber, NoOperation := cNoOperation, NoOrder := cNoOrder, NoPlan := cNoPlan, NoState := cNoState, NoSuspects := cNoSuspects, NoTest := cNoTest, NoText := cNoText, NoTheory := cNoTheory, NoVersion := cNoVersion, NothingLeft := cNothingLeft, TooMany := cTooMany } : Adr)))) := ok_l_plain T  F_l_plain
  have c_l_plain : Cal l.prog w K mg base "_law_plain" ["_law_word"] 2 (spP K (FPof 1 (m_l_plain ({ History := 0, Theory := 0, Case := 0, Quest := 0, Grower := 0, BlameError := cBlameError, Cheaper := cCheaper, NoCase := cNoCase, NoCause := cNoCause, NoCauses := cNoCauses, NoChange := cNoChange, NoChanges := cNoChanges, NoClaim := cNoClaim, NoCosts := cNoCosts, NoHistory := cNoHistory, NoJournal := cNoJournal, NoLie := cNoLie, NoLimit := cNoLimit, NoNumber := cNoNumber, NoOperation := cNoOperation, NoOrder := cNoOrder, NoPlan := cNoPlan, NoState := cNoState, NoSuspects := cNoSuspects, NoTest := cNoTest, NoText := cNoText, NoTheory := cNoTheory, NoVersion := cNoVersion, NothingLeft := cNothingLeft, TooMany := cTooMany } : Adr)))) := ⟨⟨_, _, o_l_plain, PySem.W.mg_of X G a_l_plain, k_l_plain, b_l_plain⟩⟩
  have F_l_kinds := fun_mk (st := s_l_kinds) l_l_kinds c_l_kinds k_l_kinds
  have b_l_kinds := F_l_kinds.binds (ps := ["_law_error"]) fun _ _ _ _ _ _ us hl => match us, hl with | [_], _ => rfl
  have o_l_kinds : FnOk l.prog w K mg base CX0 2 fl_kinds _ ["_law_error"] (spP K (FPof 1 (m_l_kinds ({ History := 0, Theory := 0, Case := 0, Quest := 0, Grower := 0, BlameError := cBlameError, Cheaper := cCheaper, NoCase := cNoCase, NoCause := cNoCause, NoCauses := cNoCauses, NoChange := cNoChange, NoChanges := cNoChanges, NoClaim := cNoClaim, NoCosts := cNoCosts, NoHistory := cNoHistory, NoJournal := cNoJournal, NoLie := cNoLie, NoLimit := cNoLimit, NoNumber := cNoNumber, NoOperation := cNoOperation, NoOrder := cNoOrder, NoPlan := cNoPlan, NoState := cNoState, NoSuspects := cNoSuspects, NoTest := cNoTest, NoText := cNoText, NoTheory := cNoTheory, NoVersion := cNoVersion, NothingLeft := cNothingLeft, TooMany := cTooMany } : Adr)))) := ok_l_kinds T  F_l_kinds
  have c_l_kinds : Cal l.prog w K mg base "_law_kinds" ["_law_error"] 2 (spP K (FPof 1 (m_l_kinds ({ History := 0, Theory := 0, Case := 0, Quest := 0, Grower := 0, BlameError := cBlameError, Cheaper := cCheaper, NoCase := cNoCase, NoCause := cNoCause, NoCauses := cNoCauses, NoChange := cNoChange, NoChanges := cNoChanges, NoClaim := cNoClaim, NoCosts := cNoCosts, NoHistory := cNoHistory, NoJournal := cNoJournal, NoLie := cNoLie, NoLimit := cNoLimit, NoNumber := cNoNumber, NoOperation := cNoOperation, NoOrder := cNoOrder, NoPlan := cNoPlan, NoState := cNoState, NoSuspects := cNoSuspects, NoTest := cNoTest, NoText := cNoText, NoTheory := cNoTheory, NoVersion := cNoVersion, NothingLeft := cNothingLeft, TooMany := cTooMany } : Adr)))) := ⟨⟨_, _, o_l_kinds, PySem.W.mg_of X G a_l_kinds, k_l_kinds, b_l_kinds⟩⟩
  exact ok_law T c_l_begun c_l_pick c_l_with_fields c_l_plain c_l_kinds (fun_mk (st := s_law) l_law c_law k_law)
theorem walk {l : PySem.W.OpenLaw} {q : Program} {loose : List Str} {XP : (Str → Option Value) → Heap → Prop} {YP : World → Heap → Prop} {d : DefRec} {K : Params → PySem.W.Frag} (hn : l.most = some 63) (hdf : d.params.defaults = [])
    (hY : ∀ (w : World) (h : Heap), YP w h → (K w.params).In h)
    (F : ∀ (w : World) (mg : Str → Option Value) (fa : Addr) (h : Heap), (K w.params).In h → h.Ns mainGlobals mg → mg d.name = some (.ref fa) → ∃ fd : FuncData, (∀ (s : Shared) (u : Value), BindsTo s fd ⟨[u], []⟩ [("_law_script", u)]) ∧ ∀ base : Heap, (K w.params).In base → base.Ns mainGlobals mg → FnG l.prog w (K w.params) mg base CX0 4 fa fd ["_law_script"] (spTrue (K w.params))) :
    PySem.W.WalkO q loose XP YP l.row.toRowW d [] (fun f vs => PySem.call f vs) :=
  walk_ofG (n := 63) (k := 4) (x := "_law_script") (sp := fun w => spTrue (K w.params)) hn (by decide) hdf ⟨rfl, by decide, by decide⟩ hY F (fun _ _ a ns hl _ hS => ⟨a, ns, rfl, hS, hl, fun _ => rfl⟩)
end Mb
open PySem PySem.W PyProof.Rows in
set_option maxRecDepth 100000 in
set_option maxHeartbeats 0 in
theorem PySem.Challenge.cw_mergeblame_k96_errors_with_their_fields_holds : PySem.Challenge.rw_mergeblame_k96_errors_with_their_fields.Holds := by
  w_on; o_law
  refine PySem.W.holds_open (r := Mb.headR) (q := Mb.headQ) (loose := Mb.headLoose) (Xt := fun s => xlAt Mb.headQ [] s && recOk (RowW.records Mb.headR.toRowW) s) (XP := XL Mb.headQ []) (Yf := Hook.obs (kmHook Mb.headK Mb.headAs Mb.headE Mb.headTs)) (Ya := Hook.val (kmHook Mb.headK Mb.headAs Mb.headE Mb.headTs)) (YP := Hook.says (kmHook Mb.headK Mb.headAs Mb.headE Mb.headTs)) (d := Mb.headD) (kwd := []) Mb.head_left (Hook.of _) (Hook.keeps _) (fun s e => xl_of s (Bool.and_eq_true_iff.mp e).1) XL.keeps (by kernel_rfl) (by kernel_rfl) (by kernel_rfl) (fun s e => recFacts_of (Bool.and_eq_true_iff.mp e).2) (by rfl) (by first | assumption | decide +kernel) (by decide +kernel) ⟨rfl, rfl, rfl, rfl, rfl, by decide +kernel⟩ ?hw ?hc
  case hw => w_witness2
  case hc =>
    k_fill
    refine Mb.walk (l := PySem.Challenge.rw_mergeblame_k96_errors_with_their_fields) rfl (by kernel_rfl) (fun w h Y => PySem.W.km_in_of Y) ?F
    case F =>
      intro w mg fa h KX G hmg0
      have hmg : mg ("law" : PySem.Str) = some (.ref fa) := by
        have e : Mb.headD.name = ("law" : PySem.Str) := by kernel_rfl
        rw [← e]
        exact hmg0
      refine' Mb.all_mk KX G hmg ?aCBlameError ?aCCheaper ?aCNoCase ?aCNoCause ?aCNoCauses ?aCNoChange ?aCNoChanges ?aCNoClaim ?aCNoCosts ?aCNoHistory ?aCNoJournal ?aCNoLie ?aCNoLimit ?aCNoNumber ?aCNoOperation ?aCNoOrder ?aCNoPlan ?aCNoState ?aCNoSuspects ?aCNoTest ?aCNoText ?aCNoTheory ?aCNoVersion ?aCNothingLeft ?aCTooMany ?z_super ?z_top ?z_tp ?fi_Cheaper_init ?l_Cheaper_init ?c_Cheaper_init ?la_Cheaper_init ?va_Cheaper_init ?fa_Cheaper_init ?lc_Cheaper_init ?dc_Cheaper_init ?ox_Cheaper_init ?sa_Cheaper_init ?ex_Cheaper_init ?ty_Cheaper_init ?kC_Cheaper_init ?ti_Cheaper_init ?su_Cheaper_init ?mr_Cheaper_init ?sb_Cheaper_init ?ff_Cheaper_init ?fi_NoChange_init ?l_NoChange_init ?c_NoChange_init ?la_NoChange_init ?va_NoChange_init ?fa_NoChange_init ?lc_NoChange_init ?dc_NoChange_init ?ox_NoChange_init ?sa_NoChange_init ?ex_NoChange_init ?ty_NoChange_init ?kC_NoChange_init ?ti_NoChange_init ?su_NoChange_init ?mr_NoChange_init ?sb_NoChange_init ?ff_NoChange_init ?fi_NoHistory_init ?l_NoHistory_init ?c_NoHistory_init ?la_NoHistory_init ?va_NoHistory_init ?fa_NoHistory_init ?lc_NoHistory_init ?dc_NoHistory_init ?ox_NoHistory_init ?sa_NoHistory_init ?ex_NoHistory_init ?ty_NoHistory_init ?kC_NoHistory_init ?ti_NoHistory_init ?su_NoHistory_init ?mr_NoHistory_init ?sb_NoHistory_init ?ff_NoHistory_init ?fi_NoJournal_init ?l_NoJournal_init ?c_NoJournal_init ?la_NoJournal_init ?va_NoJournal_init ?fa_NoJournal_init ?lc_NoJournal_init ?dc_NoJournal_init ?ox_NoJournal_init ?sa_NoJournal_init ?ex_NoJournal_init ?ty_NoJournal_init ?kC_NoJournal_init ?ti_NoJournal_init ?su_NoJournal_init ?mr_NoJournal_init ?sb_NoJournal_init ?ff_NoJournal_init ?fi_NoOperation_init ?l_NoOperation_init ?c_NoOperation_init ?la_NoOperation_init ?va_NoOperation_init ?fa_NoOperation_init ?lc_NoOperation_init ?dc_NoOperation_init ?ox_NoOperation_init ?sa_NoOperation_init ?ex_NoOperation_init ?ty_NoOperation_init ?kC_NoOperation_init ?ti_NoOperation_init ?su_NoOperation_init ?mr_NoOperation_init ?sb_NoOperation_init ?ff_NoOperation_init ?fi_NoTest_init ?l_NoTest_init ?c_NoTest_init ?la_NoTest_init ?va_NoTest_init ?fa_NoTest_init ?lc_NoTest_init ?dc_NoTest_init ?ox_NoTest_init ?sa_NoTest_init ?ex_NoTest_init ?ty_NoTest_init ?kC_NoTest_init ?ti_NoTest_init ?su_NoTest_init ?mr_NoTest_init ?sb_NoTest_init ?ff_NoTest_init ?fi_NoText_init ?l_NoText_init ?c_NoText_init ?la_NoText_init ?va_NoText_init ?fa_NoText_init ?lc_NoText_init ?dc_NoText_init ?ox_NoText_init ?sa_NoText_init ?ex_NoText_init ?ty_NoText_init ?kC_NoText_init ?ti_NoText_init ?su_NoText_init ?mr_NoText_init ?sb_NoText_init ?ff_NoText_init ?fi_NoVersion_init ?l_NoVersion_init ?c_NoVersion_init ?la_NoVersion_init ?va_NoVersion_init ?fa_NoVersion_init ?lc_NoVersion_init ?dc_NoVersion_init ?ox_NoVersion_init ?sa_NoVersion_init ?ex_NoVersion_init ?ty_NoVersion_init ?kC_NoVersion_init ?ti_NoVersion_init ?su_NoVersion_init ?mr_NoVersion_init ?sb_NoVersion_init ?ff_NoVersion_init ?fi_TooMany_init ?l_TooMany_init ?c_TooMany_init ?la_TooMany_init ?va_TooMany_init ?fa_TooMany_init ?lc_TooMany_init ?dc_TooMany_init ?ox_TooMany_init ?sa_TooMany_init ?ex_TooMany_init ?ty_TooMany_init ?kC_TooMany_init ?ti_TooMany_init ?su_TooMany_init ?mr_TooMany_init ?sb_TooMany_init ?ff_TooMany_init ?z_ValueError ?z_abs ?z_enumerate ?ox_kits ?ox_excs ?ox_kitE ?ox_kitV ?np_errs ?z_int ?z_isinstance ?z_len ?eqNoCase ?ekNoCase ?esNoCase ?etNoCase ?eqNoCause ?ekNoCause ?esNoCause ?etNoCause ?eqNoCauses ?ekNoCauses ?esNoCauses ?etNoCauses ?eqNoChanges ?ekNoChanges ?esNoChanges ?etNoChanges ?eqNoClaim ?ekNoClaim ?esNoClaim ?etNoClaim ?eqNoCosts ?ekNoCosts ?esNoCosts ?etNoCosts ?eqNoLie ?ekNoLie ?esNoLie ?etNoLie ?eqNoLimit ?ekNoLimit ?esNoLimit ?etNoLimit ?eqNoNumber ?ekNoNumber ?esNoNumber ?etNoNumber ?eqNoOrder ?ekNoOrder ?esNoOrder ?etNoOrder ?eqNoPlan ?ekNoPlan ?esNoPlan ?etNoPlan ?eqNoState ?ekNoState ?esNoState ?etNoState ?eqNoSuspects ?ekNoSuspects ?esNoSuspects ?etNoSuspects ?eqNoTheory ?ekNoTheory ?esNoTheory ?etNoTheory ?eqNothingLeft ?ekNothingLeft ?esNothingLeft ?etNothingLeft ?z_range ?z_repr ?xn_Cheaper ?xn_NoChange ?xn_NoHistory ?xn_NoJournal ?xn_NoOperation ?xn_NoTest ?xn_NoText ?xn_NoVersion ?xn_TooMany ?a_l_begun ?l_l_begun ?c_l_begun ?k_l_begun ?a_l_next ?l_l_next ?c_l_next ?k_l_next ?a_l_pick ?l_l_pick ?c_l_pick ?k_l_pick ?a_l_with_fields ?l_l_with_fields ?c_l_with_fields ?k_l_with_fields ?a_l_plain ?l_l_plain ?c_l_plain ?k_l_plain ?a_l_kinds ?l_l_kinds ?c_l_kinds ?k_l_kinds ?a_law ?l_law ?c_law ?k_law
      (case aCBlameError => k_is)
      (case aCCheaper => k_is)
      (case aCNoCase => k_is)
      (case aCNoCause => k_is)
      (case aCNoCauses => k_is)
      (case aCNoChange => k_is)
      (case aCNoChanges => k_is)
      (case aCNoClaim => k_is)
      (case aCNoCosts => k_is)
      (case aCNoHistory => k_is)
      (case aCNoJournal => k_is)
      (case aCNoLie => k_is)
      (case aCNoLimit => k_is)
      (case aCNoNumber => k_is)
      (case aCNoOperation => k_is)
      (case aCNoOrder => k_is)
      (case aCNoPlan => k_is)
      (case aCNoState => k_is)
      (case aCNoSuspects => k_is)
      (case aCNoTest => k_is)
      (case aCNoText => k_is)
      (case aCNoTheory => k_is)
      (case aCNoVersion => k_is)
      (case aCNothingLeft => k_is)
      (case aCTooMany => k_is)
      (case z_super => k_is)
      (case z_top => first | rfl | kernel_rfl)
      (case z_tp => k_is)
      (case fi_Cheaper_init => k_is)
      (case l_Cheaper_init => k_is)
      (case c_Cheaper_init => k_is)
      (case la_Cheaper_init => k_is)
      (case va_Cheaper_init => first | rfl | kernel_rfl)
      (case fa_Cheaper_init => first | rfl | kernel_rfl)
      (case lc_Cheaper_init => k_is)
      (case dc_Cheaper_init => k_is)
      (case ox_Cheaper_init => first | kernel_rfl | rfl)
      (case sa_Cheaper_init => k_is)
      (case ex_Cheaper_init => k_is)
      (case ty_Cheaper_init => k_is)
      (case kC_Cheaper_init => k_is)
      (case ti_Cheaper_init => k_is)
      (case su_Cheaper_init => first | kernel_rfl | rfl)
      (case mr_Cheaper_init => k_is)
      (case sb_Cheaper_init => k_is)
      (case ff_Cheaper_init => k_is)
      (case fi_NoChange_init => k_is)
      (case l_NoChange_init => k_is)
      (case c_NoChange_init => k_is)
      (case la_NoChange_init => k_is)
      (case va_NoChange_init => first | rfl | kernel_rfl)
      (case fa_NoChange_init => first | rfl | kernel_rfl)
      (case lc_NoChange_init => k_is)
      (case dc_NoChange_init => k_is)
      (case ox_NoChange_init => first | kernel_rfl | rfl)
      (case sa_NoChange_init => k_is)
      (case ex_NoChange_init => k_is)
      (case ty_NoChange_init => k_is)
      (case kC_NoChange_init => k_is)
      (case ti_NoChange_init => k_is)
      (case su_NoChange_init => first | kernel_rfl | rfl)
      (case mr_NoChange_init => k_is)
      (case sb_NoChange_init => k_is)
      (case ff_NoChange_init => k_is)
      (case fi_NoHistory_init => k_is)
      (case l_NoHistory_init => k_is)
      (case c_NoHistory_init => k_is)
      (case la_NoHistory_init => k_is)
      (case va_NoHistory_init => first | rfl | kernel_rfl)
      (case fa_NoHistory_init => first | rfl | kernel_rfl)
      (case lc_NoHistory_init => k_is)
      (case dc_NoHistory_init => k_is)
      (case ox_NoHistory_init => first | kernel_rfl | rfl)
      (case sa_NoHistory_init => k_is)
      (case ex_NoHistory_init => k_is)
      (case ty_NoHistory_init => k_is)
      (case kC_NoHistory_init => k_is)
      (case ti_NoHistory_init => k_is)
      (case su_NoHistory_init => first | kernel_rfl | rfl)
      (case mr_NoHistory_init => k_is)
      (case sb_NoHistory_init => k_is)
      (case ff_NoHistory_init => k_is)
      (case fi_NoJournal_init => k_is)
      (case l_NoJournal_init => k_is)
      (case c_NoJournal_init => k_is)
      (case la_NoJournal_init => k_is)
      (case va_NoJournal_init => first | rfl | kernel_rfl)
      (case fa_NoJournal_init => first | rfl | kernel_rfl)
      (case lc_NoJournal_init => k_is)
      (case dc_NoJournal_init => k_is)
      (case ox_NoJournal_init => first | kernel_rfl | rfl)
      (case sa_NoJournal_init => k_is)
      (case ex_NoJournal_init => k_is)
      (case ty_NoJournal_init => k_is)
      (case kC_NoJournal_init => k_is)
      (case ti_NoJournal_init => k_is)
      (case su_NoJournal_init => first | kernel_rfl | rfl)
      (case mr_NoJournal_init => k_is)
      (case sb_NoJournal_init => k_is)
      (case ff_NoJournal_init => k_is)
      (case fi_NoOperation_init => k_is)
      (case l_NoOperation_init => k_is)
      (case c_NoOperation_init => k_is)
      (case la_NoOperation_init => k_is)
      (case va_NoOperation_init => first | rfl | kernel_rfl)
      (case fa_NoOperation_init => first | rfl | kernel_rfl)
      (case lc_NoOperation_init => k_is)
      (case dc_NoOperation_init => k_is)
      (case ox_NoOperation_init => first | kernel_rfl | rfl)
      (case sa_NoOperation_init => k_is)
      (case ex_NoOperation_init => k_is)
      (case ty_NoOperation_init => k_is)
      (case kC_NoOperation_init => k_is)
      (case ti_NoOperation_init => k_is)
      (case su_NoOperation_init => first | kernel_rfl | rfl)
      (case mr_NoOperation_init => k_is)
      (case sb_NoOperation_init => k_is)
      (case ff_NoOperation_init => k_is)
      (case fi_NoTest_init => k_is)
      (case l_NoTest_init => k_is)
      (case c_NoTest_init => k_is)
      (case la_NoTest_init => k_is)
      (case va_NoTest_init => first | rfl | kernel_rfl)
      (case fa_NoTest_init => first | rfl | kernel_rfl)
      (case lc_NoTest_init => k_is)
      (case dc_NoTest_init => k_is)
      (case ox_NoTest_init => first | kernel_rfl | rfl)
      (case sa_NoTest_init => k_is)
      (case ex_NoTest_init => k_is)
      (case ty_NoTest_init => k_is)
      (case kC_NoTest_init => k_is)
      (case ti_NoTest_init => k_is)
      (case su_NoTest_init => first | kernel_rfl | rfl)
      (case mr_NoTest_init => k_is)
      (case sb_NoTest_init => k_is)
      (case ff_NoTest_init => k_is)
      (case fi_NoText_init => k_is)
      (case l_NoText_init => k_is)
      (case c_NoText_init => k_is)
      (case la_NoText_init => k_is)
      (case va_NoText_init => first | rfl | kernel_rfl)
      (case fa_NoText_init => first | rfl | kernel_rfl)
      (case lc_NoText_init => k_is)
      (case dc_NoText_init => k_is)
      (case ox_NoText_init => first | kernel_rfl | rfl)
      (case sa_NoText_init => k_is)
      (case ex_NoText_init => k_is)
      (case ty_NoText_init => k_is)
      (case kC_NoText_init => k_is)
      (case ti_NoText_init => k_is)
      (case su_NoText_init => first | kernel_rfl | rfl)
      (case mr_NoText_init => k_is)
      (case sb_NoText_init => k_is)
      (case ff_NoText_init => k_is)
      (case fi_NoVersion_init => k_is)
      (case l_NoVersion_init => k_is)
      (case c_NoVersion_init => k_is)
      (case la_NoVersion_init => k_is)
      (case va_NoVersion_init => first | rfl | kernel_rfl)
      (case fa_NoVersion_init => first | rfl | kernel_rfl)
      (case lc_NoVersion_init => k_is)
      (case dc_NoVersion_init => k_is)
      (case ox_NoVersion_init => first | kernel_rfl | rfl)
      (case sa_NoVersion_init => k_is)
      (case ex_NoVersion_init => k_is)
      (case ty_NoVersion_init => k_is)
      (case kC_NoVersion_init => k_is)
      (case ti_NoVersion_init => k_is)
      (case su_NoVersion_init => first | kernel_rfl | rfl)
      (case mr_NoVersion_init => k_is)
      (case sb_NoVersion_init => k_is)
      (case ff_NoVersion_init => k_is)
      (case fi_TooMany_init => k_is)
      (case l_TooMany_init => k_is)
      (case c_TooMany_init => k_is)
      (case la_TooMany_init => k_is)
      (case va_TooMany_init => first | rfl | kernel_rfl)
      (case fa_TooMany_init => first | rfl | kernel_rfl)
      (case lc_TooMany_init => k_is)
      (case dc_TooMany_init => k_is)
      (case ox_TooMany_init => first | kernel_rfl | rfl)
      (case sa_TooMany_init => k_is)
      (case ex_TooMany_init => k_is)
      (case ty_TooMany_init => k_is)
      (case kC_TooMany_init => k_is)
      (case ti_TooMany_init => k_is)
      (case su_TooMany_init => first | kernel_rfl | rfl)
      (case mr_TooMany_init => k_is)
      (case sb_TooMany_init => k_is)
      (case ff_TooMany_init => k_is)
      (case z_ValueError => k_is)
      (case z_abs => k_is)
      (case z_enumerate => k_is)
      (case ox_kits => first | kernel_rfl | rfl)
      (case ox_excs => first | kernel_rfl | rfl)
      (case ox_kitE => first | kernel_rfl | rfl)
      (case ox_kitV => first | kernel_rfl | rfl)
      (case np_errs => decide)
      (case z_int => k_is)
      (case z_isinstance => k_is)
      (case z_len => k_is)
      (case eqNoCase => k_exc)
      (case ekNoCase => k_is)
      (case esNoCase => k_is)
      (case etNoCase => k_is)
      (case eqNoCause => k_exc)
      (case ekNoCause => k_is)
      (case esNoCause => k_is)
      (case etNoCause => k_is)
      (case eqNoCauses => k_exc)
      (case ekNoCauses => k_is)
      (case esNoCauses => k_is)
      (case etNoCauses => k_is)
      (case eqNoChanges => k_exc)
      (case ekNoChanges => k_is)
      (case esNoChanges => k_is)
      (case etNoChanges => k_is)
      (case eqNoClaim => k_exc)
      (case ekNoClaim => k_is)
      (case esNoClaim => k_is)
      (case etNoClaim => k_is)
      (case eqNoCosts => k_exc)
      (case ekNoCosts => k_is)
      (case esNoCosts => k_is)
      (case etNoCosts => k_is)
      (case eqNoLie => k_exc)
      (case ekNoLie => k_is)
      (case esNoLie => k_is)
      (case etNoLie => k_is)
      (case eqNoLimit => k_exc)
      (case ekNoLimit => k_is)
      (case esNoLimit => k_is)
      (case etNoLimit => k_is)
      (case eqNoNumber => k_exc)
      (case ekNoNumber => k_is)
      (case esNoNumber => k_is)
      (case etNoNumber => k_is)
      (case eqNoOrder => k_exc)
      (case ekNoOrder => k_is)
      (case esNoOrder => k_is)
      (case etNoOrder => k_is)
      (case eqNoPlan => k_exc)
      (case ekNoPlan => k_is)
      (case esNoPlan => k_is)
      (case etNoPlan => k_is)
      (case eqNoState => k_exc)
      (case ekNoState => k_is)
      (case esNoState => k_is)
      (case etNoState => k_is)
      (case eqNoSuspects => k_exc)
      (case ekNoSuspects => k_is)
      (case esNoSuspects => k_is)
      (case etNoSuspects => k_is)
      (case eqNoTheory => k_exc)
      (case ekNoTheory => k_is)
      (case esNoTheory => k_is)
      (case etNoTheory => k_is)
      (case eqNothingLeft => k_exc)
      (case ekNothingLeft => k_is)
      (case esNothingLeft => k_is)
      (case etNothingLeft => k_is)
      (case z_range => k_is)
      (case z_repr => k_is)
      (case xn_Cheaper => k_is)
      (case xn_NoChange => k_is)
      (case xn_NoHistory => k_is)
      (case xn_NoJournal => k_is)
      (case xn_NoOperation => k_is)
      (case xn_NoTest => k_is)
      (case xn_NoText => k_is)
      (case xn_NoVersion => k_is)
      (case xn_TooMany => k_is)
      (case a_l_begun => k_is)
      (case l_l_begun => k_is)
      (case c_l_begun => k_is)
      (case k_l_begun => k_is)
      (case a_l_next => k_is)
      (case l_l_next => k_is)
      (case c_l_next => k_is)
      (case k_l_next => k_is)
      (case a_l_pick => k_is)
      (case l_l_pick => k_is)
      (case c_l_pick => k_is)
      (case k_l_pick => k_is)
      (case a_l_with_fields => k_is)
      (case l_l_with_fields => k_is)
      (case c_l_with_fields => k_is)
      (case k_l_with_fields => k_is)
      (case a_l_plain => k_is)
      (case l_l_plain => k_is)
      (case c_l_plain => k_is)
      (case k_l_plain => k_is)
      (case a_l_kinds => k_is)
      (case l_l_kinds => k_is)
      (case c_l_kinds => k_is)
      (case k_l_kinds => k_is)
      (case a_law => k_is)
      (case l_law => k_is)
      (case c_law => k_is)
      (case k_law => k_is)
#print axioms PySem.Challenge.cw_mergeblame_k96_errors_with_their_fields_holds
