import PyProof.Rows.All
import Wide.All
import OpenK.AllK
import Wide.FinOn
import KE.KStateDown
import HandS.Base
import HandS.Call
import HandS.Exc
import HandS.Defaults
import HandS.Ends
import HandS.More
import HandS.Words
import HandS.WordsExc
import HandS.Head0
import HandS.Head1
import HandS.Head2
import HandS.HeadEnd
import HandS.HeadHook1
import HandS.HeadHook2
import HandS.ForMost
import HandS.Wide
import HandS.WideMore
import HandS.TupAny
import HandS.TupMul
import HandS.Deep
import HandS.IsInst
import HandS.TupLen
import HandS.Star
import HandS.Zip
import HandS.Comp
import HandS.DictComp
import KE.SortData
import KE.SortLaws
import HandS.Strs
import HandS.Replace
import HandS.Style
import KE.KRevSl
import KE.GoesEnum
import HandS.Conv
import KE.KDictKeyed
import KE.KDictDisplayH
import KE.KDictCopyH
import KE.KDictPairs
import PySem.Challenge.RW_treesofsteps_k85_whole_known_numbers_of
set_option linter.all false
set_option Elab.async false
set_option maxRecDepth 100000
set_option maxHeartbeats 2000000
/-! HK: the head's facts for many defs: addresses level by level, nothing sorted out. -/
namespace HK
open PySem PySem.Spec PyProof.Rows L2 He
def nxtC (g : Addr → Option Obj) (as : List Addr) : List Addr := as.flatMap fun a => match g a with
  | some o => refsD o
  | none => []
def asC3 (l1 l2 : List Addr) : List Addr := mainGlobals :: (l1 ++ l2)
def asC2 (g : Addr → Option Obj) (l1 : List Addr) : List Addr := asC3 l1 (nxtC g l1)
def asC (g : Addr → Option Obj) : List Addr := asC2 g (nxtC g [mainGlobals])
def obsC (chk : PySem.W.Frag → Bool) (fn : List DefD) (K : PySem.W.Frag) : AlD := (chk K && fn.all fun d => d.ok K, fn.map fun d => fnW K d.at_)
def SaysC (chk : PySem.W.Frag → Bool) (fn : List DefD) (K : PySem.W.Frag) : Prop := obsC chk fn K = valD fn
def obsCG (chk : PySem.W.Frag → Bool) (fn : List DefD) (g : Addr → Option Obj) : AlD := obsC chk fn (frG g (asC g))
def hookC (chk : PySem.W.Frag → Bool) (fn : List DefD) : PySem.W.Hook where
  α := AlD
  obs := fun s => obsCG chk fn s.heap.get?
  val := fun _ => valD fn
  says := fun _ h => ∃ K : PySem.W.Frag, K.In h ∧ SaysC chk fn K
  of := fun _ _ e => ⟨_, frG_in, e⟩
  keeps := fun _ _ _ ⟨K, hK, c⟩ k => ⟨K, PySem.W.Frag.In.keeps hK k, c⟩
theorem obsCG_eq {chk : PySem.W.Frag → Bool} {fn : List DefD} {g : Addr → Option Obj} {s : Shared} (h : ∀ a, g a = s.heap.get? a) : obsCG chk fn g = (hookC chk fn).obs s := by
  have e : g = s.heap.get? := funext h
  rw [e] <;> rfl
section
variable {chk : PySem.W.Frag → Bool} {fn : List DefD} {K : PySem.W.Frag}
theorem SaysC.chk_ (c : SaysC chk fn K) : chk K = true := (ba (show (chk K && fn.all fun d => d.ok K) = true from congrArg (fun z : AlD => z.1) c)).1
theorem SaysC.def_ (c : SaysC chk fn K) {d : DefD} (m : d ∈ fn) : ∃ fd, FunD K d.name d.qual d.params d.body d.scope (d.dvs K) (d.kws K) (fAd K d.at_) fd := by
  have c2 := (ba (show (chk K && fn.all fun d => d.ok K) = true from congrArg (fun z : AlD => z.1) c)).2
  have e : fn.map (fun d => fnW K d.at_) = fn.map DefD.val := congrArg (fun z : AlD => z.2) c
  obtain ⟨i, hi, ei⟩ := List.getElem_of_mem m
  have h : fn[i]? = some d := by rw [List.getElem?_eq_getElem hi, ei]
  have e2 : (fn.map fun d => fnW K d.at_)[i]? = (fn.map DefD.val)[i]? := by rw [e]
  rw [List.getElem?_map, List.getElem?_map, h] at e2
  exact DefD.funD (Option.some.inj e2) (List.all_eq_true.mp c2 d m)
/-- a constant of the top -/
inductive Cv where
  | int (i : Int) | str (x : List Nat) | tup (is : List Int)
def Cv.ok (K : PySem.W.Frag) (x : Str) : Cv → Bool
  | .int i => (Fa.int x i).ok K
  | .str z => (Fa.str x ⟨z.toArray⟩).ok K
  | .tup is => (Fa.glo x).ok K && tupB K x (is.map Dv.int)
end
def defD (topS : Nat → Stmt) (p : Str × Nat) : DefD := ⟨(p.1, none), p.1, p.1, defArgs (topS p.2), defBody (topS p.2), defScope (topS p.2), [], []⟩
end HK

set_option Elab.async false
set_option maxRecDepth 100000
set_option maxHeartbeats 0
namespace M85
open PySem PySem.Spec PyProof.Rows L2 HK
def topS (i : Nat) : Stmt := PySem.Challenge.pw_treesofsteps_k85_whole_known_numbers_of.main.body.getD i (.Pass ⟨0, 0, 0, 0⟩)
def tbl : List (Str × Nat) := [(("is_int" : Str), 10), (("told_divisor" : Str), 15), (("told_fraction" : Str), 16), (("is_exact" : Str), 17), (("is_fraction" : Str), 18), (("plus" : Str), 19), (("opposite" : Str), 20), (("minus" : Str), 21), (("times" : Str), 22), (("over" : Str), 23), (("power" : Str), 24), (("told_sign" : Str), 25), (("added" : Str), 26), (("is_row" : Str), 27), (("is_word" : Str), 33), (("is_wide" : Str), 34), (("told_keys" : Str), 35), (("look_at_long" : Str), 36), (("look_at_letters" : Str), 37), (("told_sum" : Str), 38), (("told_added" : Str), 39), (("told_joined" : Str), 40), (("told_exponential" : Str), 41), (("told_logarithm" : Str), 42), (("told_undone" : Str), 43), (("look_at_number" : Str), 44), (("is_told_lyndon" : Str), 48), (("is_lyndon" : Str), 49), (("told_lyndon" : Str), 50), (("lyndon_words" : Str), 51), (("told_mark" : Str), 52), (("told_power" : Str), 53), (("how_many_lyndon" : Str), 54), (("told_split" : Str), 55), (("are_brackets" : Str), 57), (("look_at_brackets" : Str), 58), (("told_commuted" : Str), 59), (("told_bracket" : Str), 60), (("told_words" : Str), 61), (("told_row" : Str), 62), (("row_taken" : Str), 63), (("are_steps" : Str), 66), (("look_at_steps" : Str), 67), (("told_factor" : Str), 68), (("told_factorial" : Str), 69), (("told_steps" : Str), 70), (("log_of" : Str), 71), (("joined_log" : Str), 72), (("told_lengths" : Str), 73), (("corrections" : Str), 74), (("told_plain" : Str), 78), (("are_same" : Str), 79), (("is_own_turned" : Str), 80), (("scaled" : Str), 81), (("told_jump" : Str), 82), (("told_letters" : Str), 83), (("look_at_most" : Str), 84), (("first_wrong" : Str), 85), (("told_order" : Str), 86), (("order_of" : Str), 87), (("wrong_words" : Str), 88), (("misses" : Str), 89), (("told_ring" : Str), 94), (("look_at_two" : Str), 95), (("told_parts" : Str), 96), (("sum_of_powers" : Str), 97), (("back_places" : Str), 98), (("told_back" : Str), 99), (("must_go_back" : Str), 100), (("is_forward" : Str), 101), (("halves" : Str), 102), (("sums_alike" : Str), 103), (("is_polynomial" : Str), 106), (("look_at_polynomial" : Str), 107), (("poly_value" : Str), 108), (("look_at_numbers" : Str), 119), (("jump" : Str), 120), (("look_at_order" : Str), 121), (("does_raise" : Str), 122), (("told_rest_power" : Str), 123), (("jump_polynomial" : Str), 124), (("told_bare" : Str), 125), (("told_ints" : Str), 126), (("told_divisors" : Str), 127), (("told_candidates" : Str), 128), (("told_rising" : Str), 129), (("look_at_rooted" : Str), 130), (("fraction_roots" : Str), 131), (("outer_number" : Str), 132), (("turned_between" : Str), 133), (("_law_pot" : Str), 135), (("_law_take" : Str), 136), (("_law_cells" : Str), 137), (("_law_frac" : Str), 138), (("_law_times" : Str), 139), (("_law_less" : Str), 140), (("_law_right" : Str), 141), (("law" : Str), 142)]
def frees : List Str := ["len", "abs", "max", "min", "sum", "all", "any", "int", "list", "tuple", "sorted", "dict", "isinstance", "bool", "str", "set", "range", "enumerate", "zip"]
def names0 : List PySem.Str := ["StepError", "BadFraction", "BadRow", "BadInt", "BadPolynomial", "BadTold", "Unlike", "TooMany", "is_int", "NOUGHT", "ONE", "MOST", "told_divisor", "told_fraction", "is_exact", "is_fraction", "plus", "opposite", "minus", "times", "over", "power", "told_sign", "added", "is_row"]
def names1 : List PySem.Str := ["LETTERS", "MOST_LONG", "MOST_WIDE", "MOST_PART", "is_word", "is_wide", "told_keys", "look_at_long", "look_at_letters", "told_sum", "told_added", "told_joined", "told_exponential", "told_logarithm", "told_undone", "look_at_number", "MOST_COUNT", "MOST_LETTERS", "is_told_lyndon", "is_lyndon", "told_lyndon", "lyndon_words", "told_mark", "told_power", "how_many_lyndon"]
def names2 : List PySem.Str := ["told_split", "are_brackets", "look_at_brackets", "told_commuted", "told_bracket", "told_words", "told_row", "row_taken", "MOST_STEPS", "are_steps", "look_at_steps", "told_factor", "told_factorial", "told_steps", "log_of", "joined_log", "told_lengths", "corrections", "ORDER", "LEAST", "told_plain", "are_same", "is_own_turned", "scaled", "told_jump"]
def names3 : List PySem.Str := ["told_letters", "look_at_most", "first_wrong", "told_order", "order_of", "wrong_words", "misses", "BACK", "LOW", "THREE", "told_ring", "look_at_two", "told_parts", "sum_of_powers", "back_places", "told_back", "must_go_back", "is_forward", "halves", "sums_alike", "MOST_DEGREE", "is_polynomial", "look_at_polynomial", "poly_value", "MOST_NUMBERS"]
def names4 : List PySem.Str := ["MOST_POWER", "MOST_OUTER", "MOST_ENDS", "MOST_HALVES", "SO", "NOT", "ROOTS", "NONE", "look_at_numbers", "jump", "look_at_order", "does_raise", "told_rest_power", "jump_polynomial", "told_bare", "told_ints", "told_divisors", "told_candidates", "told_rising", "look_at_rooted", "fraction_roots", "outer_number", "turned_between", "_law_pot", "_law_take"]
def names5 : List PySem.Str := ["_law_cells", "_law_frac", "_law_times", "_law_less", "_law_right"]
def names : List PySem.Str := names0 ++ names1 ++ names2 ++ names3 ++ names4 ++ names5
def consts : List (Str × Cv) := [(("NOUGHT" : Str), Cv.tup [0, 1]), (("ONE" : Str), Cv.tup [1, 1]), (("MOST" : Str), Cv.int 1000000000000), (("LETTERS" : Str), Cv.str [97, 98, 99]), (("MOST_LONG" : Str), Cv.int 8), (("MOST_WIDE" : Str), Cv.int 6), (("MOST_PART" : Str), Cv.int (10 ^ 60)), (("MOST_COUNT" : Str), Cv.int 60), (("MOST_LETTERS" : Str), Cv.int 100), (("MOST_STEPS" : Str), Cv.int 40), (("ORDER" : Str), Cv.str [111, 114, 100, 101, 114]), (("LEAST" : Str), Cv.str [97, 116, 32, 108, 101, 97, 115, 116]), (("BACK" : Str), Cv.str [98, 97, 99, 107]), (("LOW" : Str), Cv.str [108, 111, 119]), (("THREE" : Str), Cv.int 3), (("MOST_DEGREE" : Str), Cv.int 16), (("MOST_NUMBERS" : Str), Cv.int 20), (("MOST_POWER" : Str), Cv.int 13), (("MOST_OUTER" : Str), Cv.int 8), (("MOST_ENDS" : Str), Cv.int 1000000000), (("MOST_HALVES" : Str), Cv.int 60), (("SO" : Str), Cv.str [115, 111]), (("NOT" : Str), Cv.str [110, 111, 116]), (("ROOTS" : Str), Cv.str [114, 111, 111, 116, 115]), (("NONE" : Str), Cv.str [110, 111, 110, 101])]
def fnH : List He.DefD := tbl.map (defD topS)
def chkH (K : PySem.W.Frag) : Bool := (tbl.all fun p => (He.Fa.glo p.1).ok K) && ((frees.all fun x => (He.Fa.free x).ok K) && consts.all fun p => p.2.ok K p.1)
abbrev RH : PySem.W.OpenRow := PySem.W.OpenLaw.row PySem.Challenge.rw_treesofsteps_k85_whole_known_numbers_of
abbrev hkH : PySem.W.Hook := hookC chkH fnH
def obH (s : PySem.W.SharedT) : He.AlD := obsCG chkH fnH (HandSHeadRun.getT s)
theorem obH_eq (s : PySem.W.SharedT) : obH s = hkH.obs s.abs := obsCG_eq (HandSHeadRun.getT_eq s)
theorem runH (w : World) : HandSHeadRun.RunEq RH (PySem.W.view RH.prog [142]) hkH obH 20000 names w := by
  intro os
  kernel_rfl
end M85

set_option Elab.async false
set_option maxRecDepth 100000
set_option maxHeartbeats 2000000
/-! EV: Python values as plain data over the hand layer; what an expression, a statement, a def computes as a plain Lean function over them. -/
namespace EV
open PySem PySem.Spec PyProof.Rows L2

/-- the hash of a tuple of ints -/
def hashT (ks : List Int) : Int := reduceHash (Builtin.Tuple.tupleHashOf (ks.map hashInt))
def entX (x : List Int × Addr) : DictEntry := ⟨hashT x.1, .ref x.2, .bool true⟩
/-- a dict whose keys are tuples of ints, whose values are True: its keys, and where their tuples stand -/
abbrev TDo (d : Addr) (es : List (List Int × Addr)) : HO := .ext fun h => (d == sysModules) = false ∧ es.length ≤ sizeLine ∧ ∃ (o : Obj) (ea : Array DictEntry) (ep : Nat), h.get? d = some o ∧ o.ExactDict ∧ o.data = .dict ea ep ∧ ea.toList = es.map entX ∧ (es.map (·.1)).Nodup
/-- a dict's key -/
abbrev K1 := Sum Int (List Nat)
/-- a value: plain data, or a cell (a list or dict that changes) -/
inductive D where
  | non | bl (b : Bool) | int (i : Int) | str (x : List Nat)
  | tup (xs : List D) | lst (xs : List D)
  | dic (kvs : List (K1 × D)) | dit (kvs : List (List Int))
  | cell (i : Nat) | scr (xs : List Int)
/-- a cell's content (acc: what a comprehension has made so far, the last first, at most n); k: it is locked (a loop walks it) -/
inductive CO where
  | lst (xs : List D) | acc (n : Nat) (xs : List D) | dic (k : Bool) (kvs : List (K1 × D)) | dit (k : Bool) (kvs : List (List Int))
abbrev Sto := List CO
/-- named by no cell -/
def isP : D → Bool
  | .cell _ => false
  | .scr _ => false
  | _ => true
def K1.key : K1 → Key
  | .inl i => .inl i
  | .inr s => .inr ⟨s.toArray⟩

/-- the script -/
def ScrAt (K : PySem.W.Frag) (φ : List Addr) (H : Hp) (a : Addr) (xs : List Int) : Prop :=
  (Rd H a (.lst (xs.map V.int)) ∧ a ∉ φ) ∨
    ∃ (o : Obj) (its : Array Value) (n : Nat), K.lookup a = some o ∧ o.cls = .type "list" ∧ o.dict = none ∧ o.data = .seq its n ∧ its.size ≤ sizeLine ∧ Vals (xs.map V.int) its.toList
theorem ScrAt.sq {K : PySem.W.Frag} {φ : List Addr} {H : Hp} {a : Addr} {xs : List Int} (h : ScrAt K φ H a xs) : SqL K H a (xs.map V.int) := h.imp (fun h => h.1) id
/-- the keys' tuples -/
def RTs (K : PySem.W.Frag) (H : Hp) (ks : List (List Int)) (es : List (List Int × Addr)) : Prop := es.map (·.1) = ks ∧ ∀ x ∈ es, SqT K H x.2 (x.1.map V.int)
mutual
inductive RD (K : PySem.W.Frag) (φ : List Addr) (H : Hp) : D → V → Prop
  | non : RD K φ H .non .non
  | bl (b : Bool) : RD K φ H (.bl b) (.bl b)
  | int (i : Int) : RD K φ H (.int i) (.int i)
  | str (x : List Nat) : RD K φ H (.str x) (.str ⟨x.toArray⟩)
  | tup {ds : List D} {a : Addr} {vs : List V} : SqT K H a vs → RDs K φ H ds vs → ds.all isP = true → RD K φ H (.tup ds) (.ref a)
  | lst {ds : List D} {a : Addr} {vs : List V} : H a = some (.lst vs) → a ∉ φ → RDs K φ H ds vs → ds.all isP = true → RD K φ H (.lst ds) (.ref a)
  | dic {kvs : List (K1 × D)} {a : Addr} {kus : List (Key × V)} : Rd H a (.dK kus) → a ∉ φ → RKs K φ H kvs kus → RD K φ H (.dic kvs) (.ref a)
  | dit {kvs : List (List Int)} {a : Addr} {kus : List (List Int × Addr)} : Rd H a (TDo a kus) → a ∉ φ → RTs K H kvs kus → RD K φ H (.dit kvs) (.ref a)
  | cell {i : Nat} {a : Addr} : φ[i]? = some a → RD K φ H (.cell i) (.ref a)
  | scr {xs : List Int} {a : Addr} : ScrAt K φ H a xs → RD K φ H (.scr xs) (.ref a)
inductive RDs (K : PySem.W.Frag) (φ : List Addr) (H : Hp) : List D → List V → Prop
  | nil : RDs K φ H [] []
  | cons {d : D} {v : V} {ds : List D} {vs : List V} : RD K φ H d v → RDs K φ H ds vs → RDs K φ H (d :: ds) (v :: vs)
inductive RKs (K : PySem.W.Frag) (φ : List Addr) (H : Hp) : List (K1 × D) → List (Key × V) → Prop
  | nil : RKs K φ H [] []
  | cons {k : K1} {d : D} {v : V} {ds : List (K1 × D)} {vs : List (Key × V)} : RD K φ H d v → isP d = true → RKs K φ H ds vs → RKs K φ H ((k, d) :: ds) ((k.key, v) :: vs)
end

/-- what a cell holds stands at its address -/
def COat (K : PySem.W.Frag) (φ : List Addr) (H : Hp) (a : Addr) : CO → Prop
  | .lst ds => ∃ vs, H a = some (.lst vs) ∧ RDs K φ H ds vs ∧ ds.all isP = true
  | .acc n ds => ∃ vs, H a = some (.lst vs) ∧ RDs K φ H ds.reverse vs ∧ ds.all isP = true ∧ ds.length ≤ n
  | .dic k kvs => ∃ kus, (if k = true then ∃ od, H a = some (.frz od (.dK kus)) else H a = some (.dK kus)) ∧ RKs K φ H kvs kus
  | .dit k kvs => ∃ kus, (if k = true then ∃ od, H a = some (.frz od (TDo a kus)) else H a = some (TDo a kus)) ∧ RTs K H kvs kus
structure Good (K : PySem.W.Frag) (φ : List Addr) (H : Hp) (st : Sto) : Prop where
  len : φ.length = st.length
  nd : φ.Nodup
  at_ : ∀ (i : Nat) (c : CO) (a : Addr), st[i]? = some c → φ[i]? = some a → COat K φ H a c
/-- no lock -/
def nf : HO → Prop
  | .frz _ _ => False
  | _ => True
structure Ext0 (φ φ' : List Addr) (H H' : Hp) : Prop where
  pre : φ <+: φ'
  new : ∀ a ∈ φ', a ∉ φ → H a = none
  keep : ∀ a u, nf u → Rd H a u → a ∉ φ → Rd H' a u
  keepL : ∀ a vs, H a = some (.lst vs) → a ∉ φ → H' a = some (.lst vs)
  dom : ∀ a, H' a = none → H a = none
structure Ext (φ φ' : List Addr) (H H' : Hp) : Prop extends Ext0 φ φ' H H' where
  keepK : ∀ a kvs, H a = some (.dK kvs) → a ∉ φ → H' a = some (.dK kvs)
  keepT : ∀ a kvs, H a = some (.dT kvs) → a ∉ φ → H' a = some (.dT kvs)
  keepF : ∀ a o u, H a = some (.frz o u) → H' a = some (.frz o u)
theorem Ext0.refl (φ : List Addr) (H : Hp) : Ext0 φ φ H H := ⟨List.prefix_refl _, fun a h n => absurd h n, fun _ _ _ h _ => h, fun _ _ h _ => h, fun _ h => h⟩
theorem Ext.refl (φ : List Addr) (H : Hp) : Ext φ φ H H := ⟨.refl φ H, fun _ _ h _ => h, fun _ _ h _ => h, fun _ _ _ h => h⟩
theorem rd_some {H : Hp} {a : Addr} {u : HO} (h : Rd H a u) : H a ≠ none := by
  rcases h with h | ⟨o, h⟩ <;> rw [h] <;> simp
theorem Ext0.not_mem {φ φ' : List Addr} {H H' : Hp} (e : Ext0 φ φ' H H') {a : Addr} (h : H a ≠ none) (n : a ∉ φ) : a ∉ φ' := fun m => h (e.new a m n)
theorem Ext0.trans {φ φ1 φ2 : List Addr} {H H1 H2 : Hp} (a : Ext0 φ φ1 H H1) (b : Ext0 φ1 φ2 H1 H2) : Ext0 φ φ2 H H2 where
  pre := a.pre.trans b.pre
  new := fun x m n => by
    by_cases h : x ∈ φ1
    · exact a.new x h n
    · exact a.dom x (b.new x m h)
  keep := fun x u z r n => b.keep x u z (a.keep x u z r n) (a.not_mem (rd_some r) n)
  keepL := fun x u r n => b.keepL x u (a.keepL x u r n) (a.not_mem (by rw [r]; simp) n)
  dom := fun x h => a.dom x (b.dom x h)
theorem Ext.not_mem {φ φ' : List Addr} {H H' : Hp} (e : Ext φ φ' H H') {a : Addr} (h : H a ≠ none) (n : a ∉ φ) : a ∉ φ' := e.toExt0.not_mem h n
theorem Ext.trans {φ φ1 φ2 : List Addr} {H H1 H2 : Hp} (a : Ext φ φ1 H H1) (b : Ext φ1 φ2 H1 H2) : Ext φ φ2 H H2 :=
  ⟨a.toExt0.trans b.toExt0, fun x u r n => b.keepK x u (a.keepK x u r n) (a.not_mem (by rw [r]; simp) n), fun x u r n => b.keepT x u (a.keepT x u r n) (a.not_mem (by rw [r]; simp) n), fun x o u r => b.keepF x o u (a.keepF x o u r)⟩
section
variable {K : PySem.W.Frag} {φ φ' : List Addr} {H H' : Hp}
theorem sqT_keep (e : Ext0 φ φ' H H') {a : Addr} {vs : List V} (nt : ∀ b vs, Rd H b (.tup vs) → b ∉ φ) (h : SqT K H a vs) : SqT K H' a vs := h.imp (fun h => e.keep _ _ trivial h (nt _ _ h)) id
theorem ScrAt.keep (e : Ext0 φ φ' H H') {a : Addr} {xs : List Int} (h : ScrAt K φ H a xs) : ScrAt K φ' H' a xs :=
  h.imp (fun h => ⟨e.keep _ _ trivial h.1 h.2, e.not_mem (rd_some h.1) h.2⟩) id
end
/-- no cell is a tuple -/
def NoTup (φ : List Addr) (H : Hp) : Prop := ∀ b vs, Rd H b (.tup vs) → b ∉ φ
theorem Good.notup {K : PySem.W.Frag} {φ : List Addr} {H : Hp} {st : Sto} (g : Good K φ H st) : NoTup φ H := by
  intro b vs r m
  obtain ⟨i, hi, e⟩ := List.getElem_of_mem m
  have hs : i < st.length := by rw [← g.len]; exact hi
  have q := g.at_ i st[i] b (by simp [hs]) (by simp [hi, e])
  cases hc : st[i] with
  | lst ds =>
    rw [hc] at q
    obtain ⟨vs', q, _⟩ := q
    rcases r with r | ⟨o, r⟩ <;> rw [q] at r <;> cases r
  | acc _ ds =>
    rw [hc] at q
    obtain ⟨vs', q, _⟩ := q
    rcases r with r | ⟨o, r⟩ <;> rw [q] at r <;> cases r
  | dic k kvs =>
    rw [hc] at q
    obtain ⟨kus, q, _⟩ := q
    have q2 : Rd H b (.dK kus) := by
      split at q
      · exact .inr q
      · exact .inl q
    rcases r with r | ⟨o, r⟩ <;> rcases q2 with q2 | ⟨o2, q2⟩ <;> rw [q2] at r <;> cases r
  | dit k kvs =>
    rw [hc] at q
    obtain ⟨kus, q, _⟩ := q
    have q2 : Rd H b (TDo b kus) := by
      split at q
      · exact .inr q
      · exact .inl q
    rcases r with r | ⟨o, r⟩ <;> rcases q2 with q2 | ⟨o2, q2⟩ <;> rw [q2] at r <;> cases r
theorem RTs.keep0 {K : PySem.W.Frag} {φ φ' : List Addr} {H H' : Hp} (e : Ext0 φ φ' H H') (nt : NoTup φ H) {ks : List (List Int)} {es : List (List Int × Addr)} (h : RTs K H ks es) : RTs K H' ks es := ⟨h.1, fun x m => sqT_keep e nt (h.2 x m)⟩
mutual
theorem RD.keep0 {K : PySem.W.Frag} {φ φ' : List Addr} {H H' : Hp} (e : Ext0 φ φ' H H') (nt : NoTup φ H) : ∀ {d : D} {v : V}, RD K φ H d v → RD K φ' H' d v
  | _, _, .non => .non
  | _, _, .bl b => .bl b
  | _, _, .int i => .int i
  | _, _, .str x => .str x
  | _, _, .tup h r p => .tup (sqT_keep e nt h) (RDs.keep0 e nt r) p
  | _, _, .lst h n r p => .lst (e.keepL _ _ h n) (e.not_mem (by rw [h]; simp) n) (RDs.keep0 e nt r) p
  | _, _, .dic h n r => .dic (e.keep _ _ trivial h n) (e.not_mem (rd_some h) n) (RKs.keep0 e nt r)
  | _, _, .dit h n r => .dit (e.keep _ _ trivial h n) (e.not_mem (rd_some h) n) (r.keep0 e nt)
  | _, _, .cell h => .cell (by
      obtain ⟨t, rfl⟩ := e.pre
      rw [List.getElem?_append_left (List.getElem?_eq_some_iff.mp h).1]
      exact h)
  | _, _, .scr h => .scr (h.keep e)
theorem RDs.keep0 {K : PySem.W.Frag} {φ φ' : List Addr} {H H' : Hp} (e : Ext0 φ φ' H H') (nt : NoTup φ H) : ∀ {ds : List D} {vs : List V}, RDs K φ H ds vs → RDs K φ' H' ds vs
  | _, _, .nil => .nil
  | _, _, .cons h r => .cons (RD.keep0 e nt h) (RDs.keep0 e nt r)
theorem RKs.keep0 {K : PySem.W.Frag} {φ φ' : List Addr} {H H' : Hp} (e : Ext0 φ φ' H H') (nt : NoTup φ H) : ∀ {ds : List (K1 × D)} {vs : List (Key × V)}, RKs K φ H ds vs → RKs K φ' H' ds vs
  | _, _, .nil => .nil
  | _, _, .cons h p r => .cons (RD.keep0 e nt h) p (RKs.keep0 e nt r)
end
section
variable {K : PySem.W.Frag} {φ φ' : List Addr} {H H' : Hp}
theorem RD.keep (e : Ext φ φ' H H') (nt : NoTup φ H) {d : D} {v : V} (h : RD K φ H d v) : RD K φ' H' d v := h.keep0 e.toExt0 nt
theorem RDs.keep (e : Ext φ φ' H H') (nt : NoTup φ H) {d : List D} {v : List V} (h : RDs K φ H d v) : RDs K φ' H' d v := h.keep0 e.toExt0 nt
theorem RKs.keep (e : Ext φ φ' H H') (nt : NoTup φ H) {d : List (K1 × D)} {v : List (Key × V)} (h : RKs K φ H d v) : RKs K φ' H' d v := h.keep0 e.toExt0 nt
theorem RTs.keep (e : Ext φ φ' H H') (nt : NoTup φ H) {d : List (List Int)} {v : List (List Int × Addr)} (h : RTs K H d v) : RTs K H' d v := h.keep0 e.toExt0 nt
end
end EV

set_option Elab.async false
set_option maxRecDepth 100000
set_option maxHeartbeats 2000000
namespace EV
open PySem PySem.Spec PyProof.Rows L2

/-- what an expression comes to: a value (fr: its list or dict is new), an error of the class c with d, or nothing known -/
inductive R where
  | ok (d : D) (fr : Bool) (st : Sto) | exc (c : Nat) (d : D) (st : Sto) | stuck
/-- a frame: from which cell on they are its own; its slots -/
structure Fr where
  b : Nat
  s : List (Option D)
abbrev FE := Fr → Sto → R
inductive RA where
  | ok (ds : List D) (st : Sto) | exc (c : Nat) (d : D) (st : Sto) | stuck
abbrev FA := Fr → Sto → RA
inductive RS where
  | nxt (s : List (Option D)) (st : Sto) | ret (d : D) (fr : Bool) (st : Sto) | brk (s : List (Option D)) (st : Sto) | cnt (s : List (Option D)) (st : Sto)
  | exc (c : Nat) (d : D) (s : List (Option D)) (st : Sto) | stuck
abbrev FS := Fr → Sto → RS
/-- how an error stands in the heap -/
abbrev XAT := Nat → D → Value → Option Addr → List Addr → Hp → Prop

structure Rel (K : PySem.W.Frag) (φ : List Addr) (H : Hp) (s : List (Option D)) (σ : L2.St) : Prop where
  len : s.length = σ.length
  at_ : ∀ (i : Nat) (d : D), s[i]? = some (some d) → ∃ v, σ[i]? = some (some v) ∧ RD K φ H d v
theorem Rel.keep {K : PySem.W.Frag} {φ φ' : List Addr} {H H' : Hp} {s : List (Option D)} {σ : L2.St} (e : Ext φ φ' H H') (nt : NoTup φ H) (r : Rel K φ H s σ) : Rel K φ' H' s σ :=
  ⟨r.len, fun i d h => let ⟨v, h1, h2⟩ := r.at_ i d h; ⟨v, h1, h2.keep e nt⟩⟩
theorem Rel.set {K : PySem.W.Frag} {φ : List Addr} {H : Hp} {s : List (Option D)} {σ : L2.St} (r : Rel K φ H s σ) {d : D} {v : V} (h : RD K φ H d v) (i : Nat) : Rel K φ H (s.set i (some d)) (σ.set i (some v)) := by
  refine ⟨by rw [List.length_set, List.length_set, r.len], fun j e hj => ?_⟩
  by_cases hi : i = j
  · subst hi
    rw [List.getElem?_set] at hj
    rw [if_pos rfl] at hj
    split at hj
    · rename_i hl
      cases hj
      exact ⟨v, by rw [List.getElem?_set_self (by rw [← r.len]; exact hl)], h⟩
    · cases hj
  · rw [List.getElem?_set_ne hi] at hj ⊢
    exact r.at_ j e hj

def toCO : D → Option CO
  | .lst xs => some (.lst xs)
  | .dic k => some (.dic false k)
  | .dit k => some (.dit false k)
  | _ => none
/-- the value's list or dict is new and named by nothing else -/
def Frs (K : PySem.W.Frag) (H : Hp) (φ' : List Addr) (H' : Hp) (st' : Sto) (d : D) (v : V) : Prop :=
  ∃ a c, v = .ref a ∧ H a = none ∧ toCO d = some c ∧ Good K (φ' ++ [a]) H' (st' ++ [c])
theorem Frs.back {K : PySem.W.Frag} {φ φ' φ'' : List Addr} {H H' H'' : Hp} {st : Sto} {d : D} {v : V} (e : Ext φ φ' H H') (f : Frs K H' φ'' H'' st d v) : Frs K H φ'' H'' st d v :=
  let ⟨a, c, h1, h2, h3⟩ := f; ⟨a, c, h1, e.dom a h2, h3⟩

section
variable (K : PySem.W.Frag) (XA : XAT)
/-- the end of an expression is what is wanted -/
def RQ (φ : List Addr) (H : Hp) (E : XK) (Q : VK) : R → Prop
  | .ok d fr st' => ∀ φ' H' v, Ext φ φ' H H' → Good K φ' H' st' → RD K φ' H' d v → (fr = true → Frs K H φ' H' st' d v) → Q v H'
  | .exc c d st' => ∀ φ' H' cls dd, Ext φ φ' H H' → Good K φ' H' st' → XA c d cls dd φ' H' → E cls dd H'
  | .stuck => False
def RQA (φ : List Addr) (H : Hp) (E : XK) (Q : List V → Hp → Prop) : RA → Prop
  | .ok ds st' => ∀ φ' H' vs, Ext φ φ' H H' → Good K φ' H' st' → RDs K φ' H' ds vs → Q vs H'
  | .exc c d st' => ∀ φ' H' cls dd, Ext φ φ' H H' → Good K φ' H' st' → XA c d cls dd φ' H' → E cls dd H'
  | .stuck => False
def RQS (φ : List Addr) (H : Hp) (E : L2.St → XK) (Dn : Ends) : RS → Prop
  | .nxt s' st' => ∀ φ' H' σ', Ext φ φ' H H' → Good K φ' H' st' → Rel K φ' H' s' σ' → Dn.nx σ' H'
  | .brk s' st' => ∀ φ' H' σ', Ext φ φ' H H' → Good K φ' H' st' → Rel K φ' H' s' σ' → Dn.bk σ' H'
  | .cnt s' st' => ∀ φ' H' σ', Ext φ φ' H H' → Good K φ' H' st' → Rel K φ' H' s' σ' → Dn.ct σ' H'
  | .ret d fr st' => ∀ φ' H' v, Ext φ φ' H H' → Good K φ' H' st' → RD K φ' H' d v → (fr = true → Frs K H φ' H' st' d v) → Dn.rt v H'
  | .exc c d s' st' => ∀ φ' H' σ' cls dd, Ext φ φ' H H' → Good K φ' H' st' → Rel K φ' H' s' σ' → XA c d cls dd φ' H' → E σ' cls dd H'
  | .stuck => False
/-- the frame and the cells as they stand -/
structure Now (φ : List Addr) (H : Hp) (σ : L2.St) (e : Fr) (st : Sto) : Prop where
  rel : Rel K φ H e.s σ
  good : Good K φ H st
  base : e.b ≤ st.length
def lift (E : L2.St → XK) (f : FE) : TE := fun σ H Q => ∃ e st φ, Now K φ H σ e st ∧ RQ K XA φ H (E σ) Q (f e st)
def liftA (E : L2.St → XK) (f : FA) : TA := fun σ H Q => ∃ e st φ, Now K φ H σ e st ∧ RQA K XA φ H (E σ) Q (f e st)
def liftT (E : L2.St → XK) (f : FE) : TT := fun σ H Q => lift K XA E f σ H fun v H' => ∃ b, v = .bl b ∧ Q b H'
def liftS (E : L2.St → XK) (f : FS) : TS := fun Dn σ H => ∃ e st φ, Now K φ H σ e st ∧ RQS K XA φ H E Dn (f e st)
end
section
variable {K : PySem.W.Frag} {XA : XAT} {φ φ' : List Addr} {H H' : Hp} {E : XK} {σ : L2.St} {e : Fr} {st st' : Sto}
theorem Ext.len (x : Ext φ φ' H H') : φ.length ≤ φ'.length := x.pre.length_le
theorem Now.keep (n : Now K φ H σ e st) (x : Ext φ φ' H H') (g : Good K φ' H' st') : Now K φ' H' σ e st' :=
  ⟨n.rel.keep x n.good.notup, g, by rw [← g.len]; exact Nat.le_trans n.base (by rw [← n.good.len]; exact x.len)⟩
theorem RQ.mono {Q Q' : VK} (x : Ext φ φ' H H') : ∀ {r : R}, RQ K XA φ H E Q r → (∀ v H'', Q v H'' → Q' v H'') → RQ K XA φ' H' E Q' r
  | .ok _ _ _, h, m => fun φ2 H2 v x2 g r f => m _ _ (h φ2 H2 v (x.trans x2) g r fun z => (f z).back x)
  | .exc _ _ _, h, _ => fun φ2 H2 c dd x2 g r => h φ2 H2 c dd (x.trans x2) g r
  | .stuck, h, _ => h
theorem RQA.mono {Q Q' : List V → Hp → Prop} (x : Ext φ φ' H H') : ∀ {r : RA}, RQA K XA φ H E Q r → (∀ v H'', Q v H'' → Q' v H'') → RQA K XA φ' H' E Q' r
  | .ok _ _, h, m => fun φ2 H2 v x2 g r => m _ _ (h φ2 H2 v (x.trans x2) g r)
  | .exc _ _ _, h, _ => fun φ2 H2 c dd x2 g r => h φ2 H2 c dd (x.trans x2) g r
  | .stuck, h, _ => h
theorem RQS.mono {E : L2.St → XK} {Dn : Ends} (x : Ext φ φ' H H') : ∀ {r : RS}, RQS K XA φ H E Dn r → RQS K XA φ' H' E Dn r
  | .nxt _ _, h => fun φ2 H2 v x2 g r => h φ2 H2 v (x.trans x2) g r
  | .brk _ _, h => fun φ2 H2 v x2 g r => h φ2 H2 v (x.trans x2) g r
  | .cnt _ _, h => fun φ2 H2 v x2 g r => h φ2 H2 v (x.trans x2) g r
  | .ret _ _ _, h => fun φ2 H2 v x2 g r f => h φ2 H2 v (x.trans x2) g r fun z => (f z).back x
  | .exc _ _ _ _, h => fun φ2 H2 s c dd x2 g r q => h φ2 H2 s c dd (x.trans x2) g r q
  | .stuck, h => h
end
/-! ### weakening of readings -/
section
variable {X : Cx} {e : Expr} {es : List Expr} {s : Stmt} {ss : List Stmt}
theorem PE.weak {t t' : TE} (h : PE X e t) (m : ∀ σ H Q, t' σ H Q → t σ H Q) : PE X e t' := ⟨fun p s σ H Q I q => h.run p s σ H Q I (m _ _ _ q)⟩
theorem PT.weak {t t' : TT} (h : PT X e t) (m : ∀ σ H Q, t' σ H Q → t σ H Q) : PT X e t' := ⟨fun p s σ H Q I q => h.run p s σ H Q I (m _ _ _ q)⟩
theorem PW.weak {t t' : TT} (h : PW X e t) (m : ∀ σ H Q, t' σ H Q → t σ H Q) : PW X e t' := ⟨fun wh p s σ H Q I q => h.run wh p s σ H Q I (m _ _ _ q)⟩
theorem PA.weak {t t' : TA} (h : PA X es t) (m : ∀ σ H Q, t' σ H Q → t σ H Q) : PA X es t' := ⟨fun ps p s σ H Q I q => h.run ps p s σ H Q I (m _ _ _ q)⟩
theorem PS.weak {t t' : TS} (h : PS X s t) (m : ∀ D σ H, t' D σ H → t D σ H) : PS X s t' := ⟨fun p s σ H D I q => h.run p s σ H D I (m _ _ _ q)⟩
theorem PSs.weak {t t' : TS} (h : PSs X ss t) (m : ∀ D σ H, t' D σ H → t D σ H) : PSs X ss t' := ⟨fun p s σ H D I q => h.run p s σ H D I (m _ _ _ q)⟩
end
/-! ### the parts of an expression, one behind the other -/
def fBind (f : FE) (k : D → FE) : FE := fun e st => match f e st with
  | .ok d _ st' => k d e st'
  | r => r
section
variable {K : PySem.W.Frag} {XA : XAT} {E : L2.St → XK}
/-- behind one part: what is left goes on over the state behind it -/
theorem RQ.bind {φ : List Addr} {H : Hp} {σ : L2.St} {e : Fr} {st : Sto} {f : FE} {k : D → FE} {Q : VK} (n : Now K φ H σ e st) (h : RQ K XA φ H (E σ) Q (fBind f k e st)) {T : V → Hp → Prop}
    (hT : ∀ d fr φ1 H1 st1 v, f e st = .ok d fr st1 → Ext φ φ1 H H1 → Now K φ1 H1 σ e st1 → RD K φ1 H1 d v → RQ K XA φ1 H1 (E σ) Q (k d e st1) → T v H1) : lift K XA E f σ H T := by
  refine ⟨e, st, φ, n, ?_⟩
  unfold fBind at h
  cases hf : f e st with
  | ok d fr st1 =>
    rw [hf] at h
    exact fun φ1 H1 v x g r _ => hT d fr φ1 H1 st1 v hf x (n.keep x g) r (RQ.mono x h fun _ _ q => q)
  | exc c d st1 =>
    rw [hf] at h
    exact h
  | stuck =>
    rw [hf] at h
    exact h.elim
end
/-! ### names, constants -/
def fV (i : Nat) : FE := fun e st => match e.s[i]? with
  | some (some d) => .ok d false st
  | _ => .stuck
def fC (d : D) : FE := fun _ st => .ok d false st
section
variable {X : Cx} {XA : XAT} {E : L2.St → XK}
theorem e_var {i : Nat} {e : Expr} (h : PE X e (tVar i)) : PE X e (lift X.K XA E (fV i)) := by
  refine PE.weak h ?_
  rintro σ H Q ⟨e, st, φ, n, q⟩
  unfold fV at q
  cases hi : e.s[i]? with
  | none => rw [hi] at q; exact q.elim
  | some o =>
    cases o with
    | none => rw [hi] at q; exact q.elim
    | some d =>
      rw [hi] at q
      obtain ⟨v, h1, h2⟩ := n.rel.at_ i d hi
      exact ⟨v, h1, q φ H v (Ext.refl _ _) n.good h2 (fun z => by cases z)⟩
theorem e_const {v : V} {d : D} {e : Expr} (h : PE X e (tC v)) (hd : ∀ φ H, RD X.K φ H d v) : PE X e (lift X.K XA E (fC d)) := by
  refine PE.weak h ?_
  rintro σ H Q ⟨e, st, φ, n, q⟩
  exact q φ H v (Ext.refl _ _) n.good (hd _ _) (fun z => by cases z)
end
/-! ### two parts, an operation on values -/
/-- g tells the operation r, by the values and the cells -/
def Op2 (K : PySem.W.Frag) (r : R2) (g : Sto → D → D → Option (D × Bool)) : Prop :=
  ∀ (φ : List Addr) (H : Hp) (st : Sto) (x y d : D) (vx vy : V) (fr : Bool) (Q : VK), Good K φ H st → RD K φ H x vx → RD K φ H y vy → g st x y = some (d, fr) →
    (∀ H' v, Ext φ φ H H' → Good K φ H' st → RD K φ H' d v → (fr = true → Frs K H φ H' st d v) → Q v H') → r vx vy H Q
def ofO (st : Sto) : Option (D × Bool) → R
  | some (d, fr) => .ok d fr st
  | none => .stuck
def f2 (g : Sto → D → D → Option (D × Bool)) (fa fb : FE) : FE := fBind fa fun x => fBind fb fun y => fun _ st => ofO st (g st x y)
theorem RQ.of {K : PySem.W.Frag} {XA : XAT} {φ : List Addr} {H : Hp} {E : XK} {Q : VK} {st : Sto} {o : Option (D × Bool)} (h : RQ K XA φ H E Q (ofO st o)) :
    ∃ d fr, o = some (d, fr) ∧ ∀ φ' H' v, Ext φ φ' H H' → Good K φ' H' st → RD K φ' H' d v → (fr = true → Frs K H φ' H' st d v) → Q v H' := by
  cases o with
  | none => exact h.elim
  | some p => exact ⟨p.1, p.2, rfl, h⟩
section
variable {X : Cx} {XA : XAT} {E : L2.St → XK}
theorem t_op2 {r : R2} {g : Sto → D → D → Option (D × Bool)} {fa fb : FE} (hg : Op2 X.K r g) (σ : L2.St) (H : Hp) (Q : VK) (h : lift X.K XA E (f2 g fa fb) σ H Q) : tOp r (lift X.K XA E fa) (lift X.K XA E fb) σ H Q := by
  obtain ⟨e, st, φ, n, q⟩ := h
  refine RQ.bind n q fun x fx φ1 H1 st1 v1 ef x1 n1 r1 q1 => ?_
  refine RQ.bind n1 q1 fun y fy φ2 H2 st2 v2 ef2 x2 n2 r2 q2 => ?_
  obtain ⟨d, fr, hd, q3⟩ := RQ.of q2
  exact hg φ2 H2 st2 x y d v1 v2 fr Q n2.good (r1.keep x2 n1.good.notup) r2 hd fun H' v x3 g3 r3 f3 => q3 φ2 H' v x3 g3 r3 f3
theorem e_bin {op : Operator} {r : R2} {g : Sto → D → D → Option (D × Bool)} {fa fb : FE} {a b : Expr} {pos : Pos} (ho : OpR X (binaryOp op) r) (hg : Op2 X.K r g) (ha : PE X a (lift X.K XA E fa)) (hb : PE X b (lift X.K XA E fb)) :
    PE X (.BinOp a op b pos) (lift X.K XA E (f2 g fa fb)) := PE.weak (pe_op ho ha hb) (t_op2 hg)
theorem e_cmp {op : CmpOp} {r : R2} {g : Sto → D → D → Option (D × Bool)} {fa fb : FE} {a b : Expr} {pos : Pos} (ho : OpR X (compareOp op) r) (hg : Op2 X.K r g) (ha : PE X a (lift X.K XA E fa)) (hb : PE X b (lift X.K XA E fb)) (hm : behindInMarks op b = false) :
    PE X (.Compare a [op] [b] pos) (lift X.K XA E (f2 g fa fb)) := PE.weak (pe_cmpR ho ha hb hm) (t_op2 hg)
theorem t_cmp {op : CmpOp} {r : R2} {g : Sto → D → D → Option (D × Bool)} {fa fb : FE} {a b : Expr} {pos : Pos} (ho : OpR X (compareOp op) r) (hg : Op2 X.K r g) (ha : PE X a (lift X.K XA E fa)) (hb : PE X b (lift X.K XA E fb)) (hm : behindInMarks op b = false) :
    PT X (.Compare a [op] [b] pos) (liftT X.K XA E (f2 g fa fb)) := PT.weak (pt_cmpR ho ha hb hm) fun σ H Q h => t_op2 hg σ H _ h
theorem e_ix {r : R2} {g : Sto → D → D → Option (D × Bool)} {fa fb : FE} {a b : Expr} {pos : Pos} (ho : IxR X r) (hg : Op2 X.K r g) (ha : PE X a (lift X.K XA E fa)) (hb : PE X b (lift X.K XA E fb)) (hs : PlainIx b) :
    PE X (.Subscript a b pos) (lift X.K XA E (f2 g fa fb)) := PE.weak (pe_ix ho ha hb hs) (t_op2 hg)
theorem opR_or {f : Value → Value → Sem Value} {r r' : R2} (h : OpR X f r) (h' : OpR X f r') : OpR X f (fun x y H Q => r x y H Q ∨ r' x y H Q) := by
  intro pins s σ H x y v u Q I rx ry q
  rcases q with q | q
  · exact h pins s σ H x y v u Q I rx ry q
  · exact h' pins s σ H x y v u Q I rx ry q
/-- an operation on ints that makes no object -/
theorem op2_int {C : Int → Int → Prop} {k : Int → Int → V} {g : Sto → D → D → Option (D × Bool)} {K : PySem.W.Frag} (kd : Int → Int → D) (hg : ∀ st x y d fr, g st x y = some (d, fr) → fr = false ∧ ∃ i j, x = .int i ∧ y = .int j ∧ C i j ∧ d = kd i j) (hk : ∀ φ H i j, RD K φ H (kd i j) (k i j)) : Op2 K (rI C k) g := by
  intro φ H st x y d vx vy fr Q gd rx ry hd q
  obtain ⟨rfl, i, j, rfl, rfl, hc, rfl⟩ := hg st x y d fr hd
  cases rx
  cases ry
  exact ⟨i, j, rfl, rfl, hc, q H _ (Ext.refl _ _) gd (hk _ _ _ _) (fun z => by cases z)⟩
end
end EV

set_option Elab.async false
set_option maxRecDepth 100000
set_option maxHeartbeats 2000000
namespace EV
open PySem PySem.Spec PyProof.Rows L2

abbrev SZ : Nat := 16777216
theorem sz_eq : sizeLine = SZ := sizeLine_eq
/-! ### new objects -/
section
variable {K : PySem.W.Frag} {φ : List Addr} {H : Hp} {st : Sto} {p : Addr} {o : HO}
theorem ext_new (h : H p = none) : Ext φ φ H (upd H p o) := by
  refine ⟨⟨List.prefix_refl _, fun a m n => absurd m n, fun a u _ r _ => ?_, fun a vs r _ => ?_, fun a r => ?_⟩, fun a vs r _ => ?_, fun a vs r _ => ?_, fun a o u r => ?_⟩
  · have ne : a ≠ p := fun z => rd_some r (z ▸ h)
    rcases r with r | ⟨ob, r⟩
    · exact .inl (by rw [upd_ne ne]; exact r)
    · exact .inr ⟨ob, by rw [upd_ne ne]; exact r⟩
  · have ne : a ≠ p := fun z => by rw [z, h] at r; cases r
    rw [upd_ne ne]
    exact r
  · by_cases ne : a = p
    · rw [ne]; exact h
    · rw [upd_ne ne] at r; exact r
  · have ne : a ≠ p := fun z => by rw [z, h] at r; cases r
    rw [upd_ne ne]
    exact r
  · have ne : a ≠ p := fun z => by rw [z, h] at r; cases r
    rw [upd_ne ne]
    exact r
  · have ne : a ≠ p := fun z => by rw [z, h] at r; cases r
    rw [upd_ne ne]
    exact r
theorem rd_same {H H' : Hp} {a : Addr} {u : HO} (e : H' a = H a) (r : Rd H a u) : Rd H' a u := by
  rcases r with r | ⟨ob, r⟩
  · exact .inl (by rw [e]; exact r)
  · exact .inr ⟨ob, by rw [e]; exact r⟩
theorem COat.keep {φ' : List Addr} {H' : Hp} {a : Addr} {c : CO} (x : Ext φ φ' H H') (nt : NoTup φ H) (e : H' a = H a) (h : COat K φ H a c) : COat K φ' H' a c := by
  cases c with
  | lst ds =>
    obtain ⟨vs, h1, h2, h3⟩ := h
    exact ⟨vs, by rw [e]; exact h1, h2.keep x nt, h3⟩
  | acc _ ds =>
    obtain ⟨vs, h1, h2, h3⟩ := h
    exact ⟨vs, by rw [e]; exact h1, h2.keep x nt, h3⟩
  | dic k kvs =>
    obtain ⟨kus, h1, h2⟩ := h
    refine ⟨kus, ?_, h2.keep x nt⟩
    split
    · rename_i hk
      rw [if_pos hk] at h1
      rw [e]; exact h1
    · rename_i hk
      rw [if_neg hk] at h1
      rw [e]; exact h1
  | dit k kvs =>
    obtain ⟨kus, h1, h2⟩ := h
    refine ⟨kus, ?_, h2.keep x nt⟩
    split
    · rename_i hk
      rw [if_pos hk] at h1
      rw [e]; exact h1
    · rename_i hk
      rw [if_neg hk] at h1
      rw [e]; exact h1
theorem COat.tracked {a : Addr} {c : CO} (h : COat K φ H a c) : H a ≠ none := by
  cases c with
  | lst ds => obtain ⟨vs, h1, _⟩ := h; rw [h1]; simp
  | acc _ ds => obtain ⟨vs, h1, _⟩ := h; rw [h1]; simp
  | dic k kvs =>
    obtain ⟨kus, h1, _⟩ := h
    split at h1
    · obtain ⟨od, h1⟩ := h1; rw [h1]; simp
    · rw [h1]; simp
  | dit k kvs =>
    obtain ⟨kus, h1, _⟩ := h
    split at h1
    · obtain ⟨od, h1⟩ := h1; rw [h1]; simp
    · rw [h1]; simp
theorem Good.cell_at (g : Good K φ H st) {a : Addr} (m : a ∈ φ) : ∃ (i : Nat) (c : CO), st[i]? = some c ∧ φ[i]? = some a ∧ COat K φ H a c := by
  obtain ⟨i, hi, e⟩ := List.getElem_of_mem m
  have hs : i < st.length := by rw [← g.len]; exact hi
  exact ⟨i, st[i], by simp [hs], by simp [hi, e], g.at_ i st[i] a (by simp [hs]) (by simp [hi, e])⟩
theorem Good.notin (g : Good K φ H st) {a : Addr} (h : H a = none) : a ∉ φ := fun m =>
  let ⟨_, _, _, _, q⟩ := g.cell_at m; q.tracked h
theorem Good.ext {H' : Hp} (g : Good K φ H st) (x : Ext φ φ H H') (e : ∀ a ∈ φ, H' a = H a) : Good K φ H' st :=
  ⟨g.len, g.nd, fun i c a h1 h2 => (g.at_ i c a h1 h2).keep x g.notup (e a (List.mem_of_getElem? h2))⟩
theorem Good.new (g : Good K φ H st) (h : H p = none) : Good K φ (upd H p o) st := g.ext (ext_new h) fun a m => upd_ne fun z => g.notin h (z ▸ m)
end
/-! ### what is read of a value: a cell's content stands for the cell -/
def resC (i : Nat) : Option CO → D
  | some (.lst xs) => .lst xs
  | some (.dic _ k) => .dic k
  | some (.dit _ k) => .dit k
  | _ => .cell i
def res (st : Sto) : D → D
  | .cell i => resC i st[i]?
  | d => d
/-- a list (a cell or none) as it stands -/
def IsL (K : PySem.W.Frag) (φ : List Addr) (H : Hp) (ds : List D) (v : V) : Prop := ∃ a vs, v = .ref a ∧ H a = some (.lst vs) ∧ RDs K φ H ds vs ∧ ds.all isP = true
def IsDc (K : PySem.W.Frag) (φ : List Addr) (H : Hp) (ds : List (K1 × D)) (v : V) : Prop := ∃ a vs, v = .ref a ∧ Rd H a (.dK vs) ∧ RKs K φ H ds vs
def IsDt (K : PySem.W.Frag) (φ : List Addr) (H : Hp) (ds : List (List Int)) (v : V) : Prop := ∃ a vs, v = .ref a ∧ Rd H a (TDo a vs) ∧ RTs K H ds vs
section
variable {K : PySem.W.Frag} {φ : List Addr} {H : Hp} {st : Sto} {d : D} {v : V}
theorem res_lst {ds : List D} (g : Good K φ H st) (r : RD K φ H d v) (e : res st d = .lst ds) : IsL K φ H ds v := by
  cases r with
  | lst h n r p => cases e; exact ⟨_, _, rfl, h, r, p⟩
  | @cell i a h =>
    have e : resC i st[i]? = _ := e
    cases hc : st[i]? with
    | none => rw [hc] at e; cases e
    | some c =>
      rw [hc] at e
      have q := g.at_ i c a hc h
      cases c with
      | lst xs => cases e; obtain ⟨vs, q1, q2, q3⟩ := q; exact ⟨_, _, rfl, q1, q2, q3⟩
      | acc _ xs => cases e
      | dic k xs => cases e
      | dit k xs => cases e
  | _ => cases e
theorem res_dic {ds : List (K1 × D)} (g : Good K φ H st) (r : RD K φ H d v) (e : res st d = .dic ds) : IsDc K φ H ds v := by
  cases r with
  | dic h n r => cases e; exact ⟨_, _, rfl, h, r⟩
  | @cell i a h =>
    have e : resC i st[i]? = _ := e
    cases hc : st[i]? with
    | none => rw [hc] at e; cases e
    | some c =>
      rw [hc] at e
      have q := g.at_ i c a hc h
      cases c with
      | lst xs => cases e
      | acc _ xs => cases e
      | dic k xs =>
        cases e
        obtain ⟨vs, q1, q2⟩ := q
        refine ⟨_, _, rfl, ?_, q2⟩
        split at q1
        · exact .inr q1
        · exact .inl q1
      | dit k xs => cases e
  | _ => cases e
theorem res_dit {ds : List (List Int)} (g : Good K φ H st) (r : RD K φ H d v) (e : res st d = .dit ds) : IsDt K φ H ds v := by
  cases r with
  | dit h n r => cases e; exact ⟨_, _, rfl, h, r⟩
  | @cell i a h =>
    have e : resC i st[i]? = _ := e
    cases hc : st[i]? with
    | none => rw [hc] at e; cases e
    | some c =>
      rw [hc] at e
      have q := g.at_ i c a hc h
      cases c with
      | lst xs => cases e
      | acc _ xs => cases e
      | dic k xs => cases e
      | dit k xs =>
        cases e
        obtain ⟨vs, q1, q2⟩ := q
        refine ⟨_, _, rfl, ?_, q2⟩
        split at q1
        · exact .inr q1
        · exact .inl q1
  | _ => cases e
/-- res leaves all else -/
theorem res_other {e : D} (h : res st d = e) (n1 : ∀ i, e ≠ .cell i) (n2 : ∀ xs, e ≠ .lst xs) (n3 : ∀ xs, e ≠ .dic xs) (n4 : ∀ xs, e ≠ .dit xs) : d = e := by
  cases d with
  | cell i =>
    have h : resC i st[i]? = _ := h
    cases hc : st[i]? with
    | none => rw [hc] at h; exact absurd h.symm (n1 i)
    | some c =>
      rw [hc] at h
      cases c with
      | lst xs => exact absurd h.symm (n2 _)
      | acc _ xs => exact absurd h.symm (n1 i)
      | dic k xs => exact absurd h.symm (n3 _)
      | dit k xs => exact absurd h.symm (n4 _)
  | _ => exact h
theorem RDs.append {φ : List Addr} {H : Hp} : ∀ {as bs : List D} {us vs : List V}, RDs K φ H as us → RDs K φ H bs vs → RDs K φ H (as ++ bs) (us ++ vs)
  | _, _, _, _, .nil, s => s
  | _, _, _, _, .cons h r, s => .cons h (RDs.append r s)
theorem RDs.length {φ : List Addr} {H : Hp} : ∀ {as : List D} {us : List V}, RDs K φ H as us → as.length = us.length
  | _, _, .nil => rfl
  | _, _, .cons h r => congrArg (· + 1) (RDs.length r)
theorem RDs.drop {φ : List Addr} {H : Hp} : ∀ (n : Nat) {as : List D} {us : List V}, RDs K φ H as us → RDs K φ H (as.drop n) (us.drop n)
  | 0, _, _, h => h
  | n + 1, _, _, .nil => .nil
  | n + 1, _, _, .cons h r => RDs.drop n r
theorem RDs.take {φ : List Addr} {H : Hp} : ∀ (n : Nat) {as : List D} {us : List V}, RDs K φ H as us → RDs K φ H (as.take n) (us.take n)
  | 0, _, _, h => .nil
  | n + 1, _, _, .nil => .nil
  | n + 1, _, _, .cons h r => .cons h (RDs.take n r)
theorem RDs.get {φ : List Addr} {H : Hp} : ∀ {as : List D} {us : List V} {i : Nat} {d : D}, RDs K φ H as us → as[i]? = some d → ∃ v, us[i]? = some v ∧ RD K φ H d v
  | _, _, 0, d, .cons h r, e => by cases e; exact ⟨_, rfl, h⟩
  | _, _, i + 1, d, .cons h r, e => RDs.get (i := i) r e
theorem RDs.of_get {φ : List Addr} {H : Hp} : ∀ {as : List D} {us : List V} {i : Nat} {v : V}, RDs K φ H as us → us[i]? = some v → ∃ d, as[i]? = some d ∧ RD K φ H d v
  | _, _, 0, d, .cons h r, e => by cases e; exact ⟨_, rfl, h⟩
  | _, _, i + 1, d, .cons h r, e => RDs.of_get (i := i) r e
end
/-! ### arithmetic -/
def gInt (f : Int → Int → Option D) (_ : Sto) (x y : D) : Option (D × Bool) := match x, y with
  | .int i, .int j => (f i j).map fun d => (d, false)
  | _, _ => none
theorem gInt_some {f : Int → Int → Option D} {st : Sto} {x y d : D} {fr : Bool} (h : gInt f st x y = some (d, fr)) : fr = false ∧ ∃ i j, x = .int i ∧ y = .int j ∧ f i j = some d := by
  unfold gInt at h
  split at h
  · cases hf : f _ _ with
    | none => rw [hf] at h; cases h
    | some e =>
      rw [hf] at h
      cases h
      exact ⟨rfl, _, _, rfl, rfl, hf⟩
  · cases h
theorem op2_gInt {K : PySem.W.Frag} {C : Int → Int → Prop} {k : Int → Int → V} {f : Int → Int → Option D} (hf : ∀ i j d, f i j = some d → C i j ∧ ∀ φ H, RD K φ H d (k i j)) : Op2 K (rI C k) (gInt f) := by
  intro φ H st x y d vx vy fr Q gd rx ry hd q
  obtain ⟨rfl, i, j, rfl, rfl, h⟩ := gInt_some hd
  cases rx
  cases ry
  obtain ⟨hc, hr⟩ := hf i j d h
  exact ⟨i, j, rfl, rfl, hc, q H _ (Ext.refl _ _) gd (hr _ _) (fun z => by cases z)⟩
theorem op2_gInt0 {K : PySem.W.Frag} {k : Int → Int → V} {f : Int → Int → Option D} (hf : ∀ i j d, f i j = some d → ∀ φ H, RD K φ H d (k i j)) : Op2 K (rI0 k) (gInt f) := by
  intro φ H st x y d vx vy fr Q gd rx ry hd q
  obtain ⟨rfl, i, j, rfl, rfl, h⟩ := gInt_some hd
  cases rx
  cases ry
  exact ⟨i, j, rfl, rfl, q H _ (Ext.refl _ _) gd (hf i j d h _ _) (fun z => by cases z)⟩
/-- the greatest size of a factor, of a divisor -/
def okM (i : Int) : Bool := decide (i.natAbs < 2 ^ 400000)
def okD (j : Int) : Bool := decide (0 < j) && decide (j.natAbs < 2 ^ 8999)
def kSub (i j : Int) : Option D := some (.int (i - j))
def kMulI (i j : Int) : Option D := if okM i && okM j then some (.int (i * j)) else none
def kDiv (i j : Int) : Option D := if okD j then some (.int (i / j)) else if okD (-j) then some (.int ((-i) / (-j))) else none
def kMod (i j : Int) : Option D := if 0 < j then some (.int (i % j)) else none
def kPow (i j : Int) : Option D := if decide (0 ≤ j) && decide (j ≤ 1000000) && decide (i.natAbs < 2 ^ 64) then some (.int (i ^ j.toNat)) else none
theorem log_lt {i : Int} {n : Nat} (h : i.natAbs < 2 ^ n) (h0 : 0 < n) : i.natAbs.log2 < n := PySem.Flt.log2_lt_of h0 h
section
variable {K : PySem.W.Frag}
theorem g_sub : Op2 K (rI0 fun i j => .int (i - j)) (gInt kSub) := op2_gInt0 fun i j d h φ H => by cases h; exact .int _
theorem mulOk {i j : Int} (h : (okM i && okM j) = true) : CMulW i j := by
  rw [Bool.and_eq_true] at h
  have h1 := log_lt (of_decide_eq_true h.1) (by decide)
  have h2 := log_lt (of_decide_eq_true h.2) (by decide)
  unfold CMulW
  omega
theorem g_mulI : Op2 K (rI CMulW fun i j => .int (i * j)) (gInt kMulI) := op2_gInt fun i j d h => by
  unfold kMulI at h
  split at h
  · rename_i c
    cases h
    exact ⟨mulOk c, fun φ H => .int _⟩
  · cases h
theorem divOk {i j : Int} (h : okD j = true) : CDivW i j := by
  unfold okD at h
  rw [Bool.and_eq_true] at h
  exact ⟨of_decide_eq_true h.1, Nat.lt_trans (log_lt (of_decide_eq_true h.2) (by decide)) (by decide)⟩
theorem g_mod : Op2 K (rI (fun _ j => 0 < j) fun i j => .int (i % j)) (gInt kMod) := op2_gInt fun i j d h => by
  unfold kMod at h
  split at h
  · cases h
    exact ⟨by assumption, fun φ H => .int _⟩
  · cases h
theorem g_pow : Op2 K (rI CPow fun i j => .int (i ^ j.toNat)) (gInt kPow) := op2_gInt fun i j d h => by
  unfold kPow at h
  split at h
  · rename_i c
    cases h
    simp only [Bool.and_eq_true, decide_eq_true_eq] at c
    exact ⟨⟨c.1.1, c.1.2, c.2⟩, fun φ H => .int _⟩
  · cases h
end
/-- // by a divisor of any sign below 2 ^ 9000 -/
def CDivZ (_ j : Int) : Prop := j ≠ 0 ∧ j.natAbs.log2 < 9000
theorem op_fdivZ {X : Cx} : OpR X (binaryOp .FloorDiv) (rI CDivZ fun i j => .int (i.fdiv j)) := opI fun i j _ _ _ _ _ hc q =>
  floordiv_int hc.1 q (.inl (PyProof.noPylong_of_log2 hc.2))
theorem fdiv_neg_neg (i j : Int) : (-i).fdiv (-j) = i.fdiv j := by
  first | exact Int.neg_fdiv_neg i j | simp
theorem g_div {K : PySem.W.Frag} : Op2 K (rI CDivZ fun i j => .int (i.fdiv j)) (gInt kDiv) := op2_gInt fun i j d h => by
  unfold kDiv at h
  split at h
  · rename_i c
    cases h
    have z := divOk (i := i) c
    refine ⟨⟨by have := z.1; omega, z.2⟩, fun φ H => ?_⟩
    rw [Int.fdiv_eq_ediv_of_nonneg i (by have := z.1; omega)]
    exact .int _
  · split at h
    · rename_i c
      cases h
      have z := divOk (i := i) c
      have z1 := z.1
      refine ⟨⟨by omega, by have := z.2; rw [Int.natAbs_neg] at this; exact this⟩, fun φ H => ?_⟩
      have e : i.fdiv j = (-i) / (-j) := by
        rw [← fdiv_neg_neg i j, Int.fdiv_eq_ediv_of_nonneg (-i) (by omega)]
      rw [e]
      exact .int _
    · cases h
end EV

set_option Elab.async false
set_option maxRecDepth 100000
set_option maxHeartbeats 4000000
namespace EV
open PySem PySem.Spec PyProof.Rows L2
theorem tuple_mul1 (l : Addr) (items : Array Value) (n : Nat) (dd : Option Addr) (sl : Array (Option Value)) (u : Tok) :
    Meets (Builtin.«tuple.__mul__» ⟨[.ref l, .int 1 u], []⟩) (fun _ R s => s.heap.get? l = some { cls := .type "tuple", dict := dd, data := .seq items n, slots := sl } ∧
      R (.ok (.ret (Value.ref l))) s) :=
  .of_wp fun prog w A R s h => by
    obtain ⟨hp, g, d, tk, os⟩ := s
    obtain ⟨hl, h⟩ := h
    have f1 := AutoSeq1.idx_int
    wp_walk using wpAny_loadPart' hl
    exact ⟨_, rfl, h⟩
section
variable {X : Cx}
def rRepT1 (K : PySem.W.Frag) : R2 := fun x y H Q => ∃ l xs, x = .ref l ∧ y = .int 1 ∧ SqT K H l xs ∧ Q (.ref l) H
theorem op_repT1 : OpR X (binaryOp .Mult) (rRepT1 X.K) := by
  intro pins s σ H x y v u Q I rx ry h
  obtain ⟨l, xs, rfl, rfl, hT, q⟩ := h
  cases rx
  obtain ⟨t, rfl⟩ := ry
  obtain ⟨its, r, ⟨⟨cls, dd, data, sl⟩, ho, hc, n, hd⟩, hs⟩ := I.tuple hT
  simp only at hc hd
  subst hc hd
  refine wpAny_binaryOp_repeat_ref (T := "tuple") (U := "int") (by decide) ⟨_, ho, rfl⟩ (fun s' => typeIs_int s' 1 t) noFill_tuple_mul F.fills_int_mul F.slot_int_rmul repeat_tuple F.slot_int_index.lookup
    (call_meets F.slot_int_rmul (typeIs_int s 1 t) F.entry_int_rmul (F.args_int_rmul_2 _ _) (int_rmul_tuple 1 t l its.toArray n dd sl)
      ⟨ho, rfl, ⟨_, ho, rfl⟩, call_meets F.slot_tuple_mul ⟨_, ho, rfl⟩ F.entry_tuple_mul (F.args_tuple_mul_2 _ _) (tuple_mul1 l its.toArray n dd sl t) ⟨ho, ?_⟩⟩)
  exact ⟨.ref l, H, I, rfl, q⟩
def rRepS : R2 := fun x y H Q => ∃ z k, x = .str z ∧ y = .int k ∧ z.length ≤ 1000 ∧ -1000 ≤ k ∧ k ≤ 1000 ∧ Q (.str ⟨(List.replicate k.toNat z.cps.toList).flatten.toArray⟩) H
theorem foldl_app (c : Array Nat) : ∀ (n : Nat) (acc : Array Nat), ((List.replicate n c).foldl (· ++ ·) acc) = acc ++ (List.replicate n c.toList).flatten.toArray
  | 0, acc => by simp
  | n + 1, acc => by
    rw [List.replicate_succ, List.foldl_cons, foldl_app c n]
    apply Array.toList_inj.mp
    simp [List.replicate_succ]
theorem op_mulS : OpR X (binaryOp .Mult) rRepS := by
  intro pins s σ H x y v u Q I rx ry h
  obtain ⟨z, k, rfl, rfl, hz, k1, k2, q⟩ := h
  obtain ⟨t, rfl⟩ := rx
  obtain ⟨t2, rfl⟩ := ry
  have fin : ∀ (zz : Str) (tk : Tok) (s' : Shared), zz = ⟨(List.replicate k.toNat z.cps.toList).flatten.toArray⟩ → Inv X pins σ H s' → EP X pins σ Q (.str zz tk) s' := fun zz tk s' e I' => ⟨.str zz, H, I', ⟨tk, rfl⟩, by rw [e]; exact q⟩
  refine PySem.P.mul_str (by rw [decide_eq_false (by omega), decide_eq_false (by omega)]; rfl) (fun h1 h2 => ?_) (fun h1 h2 => ?_) ?_
  · have : (1000 : Int) ≤ (2 ^ 63 - 1) / k := by
      refine Int.le_ediv_of_mul_le (by omega) ?_
      omega
    omega
  · unfold PySem.Builtin.Str.tooLong
    have a1 : z.length * k.toNat ≤ 1000 * 1000 := Nat.mul_le_mul hz (by omega)
    rw [sizeLine_eq]
    exact decide_eq_false (by omega)
  · by_cases h1 : k < 1
    · rw [if_pos h1]
      have e : k.toNat = 0 := by omega
      refine ⟨by decide, fin _ _ _ ?_ (I.tok _)⟩
      rw [e]; rfl
    · rw [if_neg h1]
      by_cases h2 : (k == 1 || z.length == 0) = true
      · rw [if_pos h2]
        refine fin _ _ _ ?_ I
        rcases Bool.or_eq_true_iff.mp h2 with h3 | h3
        · have e : k = 1 := by simpa using h3
          subst e
          simp
        · have e : z.cps.toList = [] := by
            have : z.cps.size = 0 := by simpa [Str.length] using h3
            exact List.eq_nil_of_length_eq_zero (by simpa using this)
          rw [e]
          have e2 : (List.replicate k.toNat ([] : List Nat)).flatten = [] := by simp
          rw [e2]
          obtain ⟨c⟩ := z
          simp at e
          simp [e]
      · rw [if_neg h2]
        refine ⟨?_, fin _ _ _ ?_ (I.tok _)⟩
        · rw [foldl_app]
          have a1 : k.toNat * z.cps.toList.length ≤ 1000 * 1000 := Nat.mul_le_mul (by omega) (by simpa [Str.length] using hz)
          have e : ((#[] ++ (List.replicate k.toNat z.cps.toList).flatten.toArray : Array Nat)).size = k.toNat * z.cps.toList.length := by simp
          show ((#[] ++ (List.replicate k.toNat z.cps.toList).flatten.toArray : Array Nat)).size ≤ sizeLine
          rw [e, sizeLine_eq]
          omega
        · rw [foldl_app]
          simp
end
end EV

set_option Elab.async false
set_option maxRecDepth 100000
set_option maxHeartbeats 2000000
namespace EV
open PySem PySem.Spec PyProof.Rows L2
section
variable {K : PySem.W.Frag} {φ : List Addr} {H : Hp} {st : Sto}
theorem RD.of_tup {ds : List D} {v : V} (h : RD K φ H (.tup ds) v) : ∃ a vs, v = .ref a ∧ SqT K H a vs ∧ RDs K φ H ds vs ∧ ds.all isP = true := by
  cases h with
  | tup h r p => exact ⟨_, _, rfl, h, r, p⟩
theorem all_append {as bs : List D} (h : as.all isP = true) (h' : bs.all isP = true) : (as ++ bs).all isP = true := by
  rw [List.all_append, h, h'] <;> rfl
/-- one more cell -/
theorem Good.push {H' : Hp} {p : Addr} {c : CO} (g : Good K φ H st) (hp : H p = none) (x : Ext φ (φ ++ [p]) H H') (h : COat K (φ ++ [p]) H' p c) (e : ∀ a ∈ φ, H' a = H a) : Good K (φ ++ [p]) H' (st ++ [c]) := by
  refine ⟨by rw [List.length_append, List.length_append, g.len]; rfl, ?_, fun i c' a h1 h2 => ?_⟩
  · rw [List.nodup_append]
    refine ⟨g.nd, by simp, fun a ha b hb => ?_⟩
    rw [List.mem_singleton.mp hb]
    exact fun z => g.notin hp (z ▸ ha)
  · by_cases hi : i < st.length
    · rw [List.getElem?_append_left hi] at h1
      rw [List.getElem?_append_left (by rw [g.len]; exact hi)] at h2
      exact (g.at_ i c' a h1 h2).keep x g.notup (e a (List.mem_of_getElem? h2))
    · have l1 : i < (st ++ [c]).length := (List.getElem?_eq_some_iff.mp h1).1
      rw [List.length_append, List.length_singleton] at l1
      have e1 : i = st.length := by omega
      subst e1
      rw [List.getElem?_concat_length] at h1
      cases h1
      rw [← g.len, List.getElem?_concat_length] at h2
      cases h2
      exact h
/-- a new list of known values: the end -/
theorem new_lst {p : Addr} {ds : List D} {vs : List V} (g : Good K φ H st) (hp : H p = none) (r : RDs K φ H ds vs) (ps : ds.all isP = true) :
    Ext φ φ H (upd H p (.lst vs)) ∧ Good K φ (upd H p (.lst vs)) st ∧ RD K φ (upd H p (.lst vs)) (.lst ds) (.ref p) ∧ Frs K H φ (upd H p (.lst vs)) st (.lst ds) (.ref p) := by
  have x : Ext φ φ H (upd H p (.lst vs)) := ext_new hp
  have x2 : Ext φ (φ ++ [p]) H (upd H p (.lst vs)) := ⟨⟨List.prefix_append _ _, fun a m n => by
    rcases List.mem_append.mp m with m | m
    · exact absurd m n
    · rw [List.mem_singleton.mp m]; exact hp, x.keep, x.keepL, x.dom⟩, x.keepK, x.keepT, x.keepF⟩
  exact ⟨x, g.new hp, .lst upd_same (g.notin hp) (r.keep x g.notup) ps, p, _, rfl, hp, rfl, g.push hp x2 ⟨vs, upd_same, r.keep x2 g.notup, ps⟩ fun a m => upd_ne fun z => g.notin hp (z ▸ m)⟩
theorem new_tup {p : Addr} {ds : List D} {vs : List V} (g : Good K φ H st) (hp : H p = none) (r : RDs K φ H ds vs) (ps : ds.all isP = true) :
    Ext φ φ H (upd H p (.tup vs)) ∧ Good K φ (upd H p (.tup vs)) st ∧ RD K φ (upd H p (.tup vs)) (.tup ds) (.ref p) := by
  have x : Ext φ φ H (upd H p (.tup vs)) := ext_new hp
  exact ⟨x, g.new hp, .tup (SqT.of upd_same) (r.keep x g.notup) ps⟩
end
/-! ### + -/
def gAdd (st : Sto) (x y : D) : Option (D × Bool) := match res st x, res st y with
  | .int i, .int j => some (.int (i + j), false)
  | .str a, .str b => if a.length + b.length ≤ SZ then some (.str (a ++ b), false) else none
  | .tup a, .tup b => if a.length + b.length ≤ SZ then some (.tup (a ++ b), false) else none
  | .lst a, .lst b => if a.length + b.length ≤ SZ then some (.lst (a ++ b), true) else none
  | _, _ => none
def rAddS : R2 := fun x y H Q => ∃ i j, x = .str i ∧ y = .str j ∧ i.length + j.length ≤ sizeLine ∧ Q (.str (i ++ j)) H
def rAdd (K : PySem.W.Frag) : R2 := fun x y H Q => ((rI0 fun i j => .int (i + j)) x y H Q ∨ rAddS x y H Q) ∨ (rCatA K x y H Q ∨ rCat x y H Q)
theorem op_addA {X : Cx} : OpR X (binaryOp .Add) (rAdd X.K) := opR_or (opR_or op_add op_add_str) (opR_or op_catA op_cat)
theorem res_int {st : Sto} {d : D} {i : Int} (h : res st d = .int i) : d = .int i := res_other h (fun _ z => by cases z) (fun _ z => by cases z) (fun _ z => by cases z) fun _ z => by cases z
theorem res_str {st : Sto} {d : D} {i : List Nat} (h : res st d = .str i) : d = .str i := res_other h (fun _ z => by cases z) (fun _ z => by cases z) (fun _ z => by cases z) fun _ z => by cases z
theorem res_tup {st : Sto} {d : D} {i : List D} (h : res st d = .tup i) : d = .tup i := res_other h (fun _ z => by cases z) (fun _ z => by cases z) (fun _ z => by cases z) fun _ z => by cases z
theorem res_bl {st : Sto} {d : D} {i : Bool} (h : res st d = .bl i) : d = .bl i := res_other h (fun _ z => by cases z) (fun _ z => by cases z) (fun _ z => by cases z) fun _ z => by cases z
theorem res_non {st : Sto} {d : D} (h : res st d = .non) : d = .non := res_other h (fun _ z => by cases z) (fun _ z => by cases z) (fun _ z => by cases z) fun _ z => by cases z
theorem str_len (x : List Nat) : (⟨x.toArray⟩ : Str).length = x.length := by unfold Str.length; simp
theorem str_app (a b : List Nat) : (⟨a.toArray⟩ : Str) ++ ⟨b.toArray⟩ = ⟨(a ++ b).toArray⟩ := by
  show (⟨a.toArray ++ b.toArray⟩ : Str) = _
  congr 1
  simp
theorem g_add {K : PySem.W.Frag} : Op2 K (rAdd K) gAdd := by
  intro φ H st x y d vx vy fr Q g rx ry hd q
  unfold gAdd at hd
  split at hd
  · rename_i i j hx hy
    cases hd
    cases res_int hx
    cases res_int hy
    cases rx
    cases ry
    exact .inl (.inl ⟨i, j, rfl, rfl, q H _ (Ext.refl _ _) g (.int _) fun z => by cases z⟩)
  · rename_i a b hx hy
    split at hd
    · rename_i hz
      cases hd
      cases res_str hx
      cases res_str hy
      cases rx
      cases ry
      refine .inl (.inr ⟨_, _, rfl, rfl, by rw [str_len, str_len, sz_eq]; exact hz, ?_⟩)
      rw [str_app]
      exact q H _ (Ext.refl _ _) g (.str _) fun z => by cases z
    · cases hd
  · rename_i a b hx hy
    split at hd
    · rename_i hz
      cases hd
      cases res_tup hx
      cases res_tup hy
      obtain ⟨p, vs, rfl, h1, r1, p1⟩ := rx.of_tup
      obtain ⟨p', vs', rfl, h2, r2, p2⟩ := ry.of_tup
      refine .inr (.inl ⟨p, p', vs, vs', rfl, rfl, h1, h2, by rw [← r1.length, ← r2.length, sz_eq]; exact hz, fun e => ?_, fun n e => ?_, fun n n' t ht => ?_⟩)
      · subst e
        cases r1
        exact q H _ (Ext.refl _ _) g (.tup h2 r2 p2) fun z => by cases z
      · subst e
        cases r2
        rw [List.append_nil] at q
        exact q H _ (Ext.refl _ _) g (.tup h1 r1 p1) fun z => by cases z
      · obtain ⟨x1, x2, x3⟩ := new_tup g ht (r1.append r2) (all_append p1 p2)
        exact q _ _ x1 x2 x3 fun z => by cases z
    · cases hd
  · rename_i a b hx hy
    split at hd
    · rename_i hz
      cases hd
      obtain ⟨p, vs, rfl, h1, r1, p1⟩ := res_lst g rx hx
      obtain ⟨p', vs', rfl, h2, r2, p2⟩ := res_lst g ry hy
      refine .inr (.inr ⟨p, p', vs, vs', rfl, rfl, h1, h2, by rw [← r1.length, ← r2.length, sz_eq]; exact hz, fun t ht => ?_⟩)
      obtain ⟨x1, x2, x3, x4⟩ := new_lst g ht (r1.append r2) (all_append p1 p2)
      exact q _ _ x1 x2 x3 fun _ => x4
    · cases hd
  · cases hd
/-! ### * -/
def gMul (st : Sto) (x y : D) : Option (D × Bool) := match res st x, y with
  | .int i, .int j => if okM i && okM j then some (.int (i * j), false) else none
  | .str a, .int k => if decide (a.length ≤ 1000) && decide (-1000 ≤ k) && decide (k ≤ 1000) then some (.str (List.replicate k.toNat a).flatten, false) else none
  | .tup a, .int k => if k = 1 then some (.tup a, false) else if decide (a ≠ []) && decide (2 ≤ k) && decide (k ≤ 1000) && decide (a.length ≤ 1000) then some (.tup (List.replicate k.toNat a).flatten, false) else none
  | .lst a, .int k => if decide (a.length ≤ 1000) && decide (-1000 ≤ k) && decide (k ≤ 1000) then some (.lst (List.replicate k.toNat a).flatten, true) else none
  | _, _ => none
def rMul (K : PySem.W.Frag) : R2 := fun x y H Q => (((rI CMulW fun i j => .int (i * j)) x y H Q ∨ rRepS x y H Q) ∨ (rRepT K x y H Q ∨ rRepT1 K x y H Q)) ∨ rRep x y H Q
theorem op_mulA {X : Cx} : OpR X (binaryOp .Mult) (rMul X.K) := opR_or (opR_or (opR_or op_mulW op_mulS) (opR_or op_repT op_repT1)) op_rep
theorem RDs.rep {K : PySem.W.Frag} {φ : List Addr} {H : Hp} {ds : List D} {vs : List V} (r : RDs K φ H ds vs) : ∀ n : Nat, RDs K φ H (List.replicate n ds).flatten (List.replicate n vs).flatten
  | 0 => .nil
  | n + 1 => by rw [List.replicate_succ, List.replicate_succ, List.flatten_cons, List.flatten_cons]; exact r.append (RDs.rep r n)
theorem all_rep {ds : List D} (h : ds.all isP = true) : ∀ n : Nat, (List.replicate n ds).flatten.all isP = true
  | 0 => rfl
  | n + 1 => by rw [List.replicate_succ, List.flatten_cons]; exact all_append h (all_rep h n)
theorem g_mul {K : PySem.W.Frag} : Op2 K (rMul K) gMul := by
  intro φ H st x y d vx vy fr Q g rx ry hd q
  unfold gMul at hd
  split at hd
  · rename_i i j hx
    split at hd
    · rename_i c
      cases hd
      cases res_int hx
      cases rx
      cases ry
      exact .inl (.inl (.inl ⟨i, j, rfl, rfl, mulOk c, q H _ (Ext.refl _ _) g (.int _) fun z => by cases z⟩))
    · cases hd
  · rename_i a k hx
    split at hd
    · rename_i c
      cases hd
      cases res_str hx
      cases rx
      cases ry
      simp only [Bool.and_eq_true, decide_eq_true_eq] at c
      refine .inl (.inl (.inr ⟨_, _, rfl, rfl, by rw [str_len]; exact c.1.1, c.1.2, c.2, ?_⟩))
      exact q H _ (Ext.refl _ _) g (.str _) fun z => by cases z
    · cases hd
  · rename_i a k hx
    cases res_tup hx
    cases ry
    obtain ⟨p, vs, rfl, h1, r1, p1⟩ := rx.of_tup
    split at hd
    · rename_i e
      cases hd
      subst e
      exact .inl (.inr (.inr ⟨p, vs, rfl, rfl, h1, q H _ (Ext.refl _ _) g (.tup h1 r1 p1) fun z => by cases z⟩))
    · split at hd
      · rename_i c
        cases hd
        simp only [Bool.and_eq_true, decide_eq_true_eq] at c
        refine .inl (.inr (.inl ⟨p, k, vs, rfl, rfl, h1, fun e => ?_, c.1.1.2, c.1.2, by rw [← r1.length]; exact c.2, fun t ht => ?_⟩))
        · subst e
          cases r1
          exact c.1.1.1 rfl
        · obtain ⟨x1, x2, x3⟩ := new_tup g ht (r1.rep k.toNat) (all_rep p1 _)
          exact q _ _ x1 x2 x3 fun z => by cases z
      · cases hd
  · rename_i a k hx
    split at hd
    · rename_i c
      cases hd
      cases ry
      obtain ⟨p, vs, rfl, h1, r1, p1⟩ := res_lst g rx hx
      simp only [Bool.and_eq_true, decide_eq_true_eq] at c
      refine .inr ⟨p, k, vs, rfl, rfl, h1, by omega, by omega, ?_, fun t ht => ?_⟩
      · have a1 : vs.length * k.toNat ≤ 1000 * 1000 := Nat.mul_le_mul (by rw [← r1.length]; exact c.1.1) (by omega)
        rw [sz_eq]
        exact Nat.le_trans a1 (by decide)
      · obtain ⟨x1, x2, x3, x4⟩ := new_lst g ht (r1.rep k.toNat) (all_rep p1 _)
        exact q _ _ x1 x2 x3 fun _ => x4
    · cases hd
  · cases hd
end EV

set_option Elab.async false
set_option maxRecDepth 100000
set_option maxHeartbeats 2000000
namespace EV
open PySem PySem.Spec PyProof.Rows L2
/-! ### one part -/
def Op1 (K : PySem.W.Frag) (r : V → Hp → VK → Prop) (g : Sto → D → Option (D × Bool)) : Prop :=
  ∀ (φ : List Addr) (H : Hp) (st : Sto) (x d : D) (vx : V) (fr : Bool) (Q : VK), Good K φ H st → RD K φ H x vx → g st x = some (d, fr) →
    (∀ H' v, Ext φ φ H H' → Good K φ H' st → RD K φ H' d v → (fr = true → Frs K H φ H' st d v) → Q v H') → r vx H Q
def f1 (g : Sto → D → Option (D × Bool)) (fa : FE) : FE := fBind fa fun x _ st => ofO st (g st x)
section
variable {X : Cx} {XA : XAT} {E : L2.St → XK}
theorem t_op1 {r : V → Hp → VK → Prop} {g : Sto → D → Option (D × Bool)} {fa : FE} (hg : Op1 X.K r g) (σ : L2.St) (H : Hp) (Q : VK) (h : lift X.K XA E (f1 g fa) σ H Q) : lift X.K XA E fa σ H fun x H1 => r x H1 Q := by
  obtain ⟨e, st, φ, n, q⟩ := h
  refine RQ.bind n q fun x fx φ1 H1 st1 v1 ef x1 n1 r1 q1 => ?_
  obtain ⟨d, fr, hd, q3⟩ := RQ.of q1
  exact hg φ1 H1 st1 x d v1 fr Q n1.good r1 hd fun H' v x3 g3 r3 f3 => q3 φ1 H' v x3 g3 r3 f3
def gNeg (_ : Sto) : D → Option (D × Bool)
  | .int i => some (.int (-i), false)
  | _ => none
theorem g_neg {K : PySem.W.Frag} : Op1 K (rU fun i => .int (-i)) gNeg := by
  intro φ H st x d vx fr Q g rx hd q
  unfold gNeg at hd
  split at hd
  · cases hd
    cases rx
    exact ⟨_, rfl, q H _ (Ext.refl _ _) g (.int _) fun z => by cases z⟩
  · cases hd
theorem e_neg {fa : FE} {a : Expr} {pos : Pos} (ha : PE X a (lift X.K XA E fa)) : PE X (.UnaryOp .USub a pos) (lift X.K XA E (f1 gNeg fa)) := PE.weak (pe_un un_neg ha) (t_op1 g_neg)
end
/-! ### data: what == looks at -/
mutual
def pd : D → PyData
  | .bl b => .bool b
  | .int i => .int i
  | .str x => .str ⟨x.toArray⟩
  | .tup xs => .tuple (pds xs)
  | .lst xs => .list (pds xs)
  | _ => .none
def pds : List D → List PyData
  | [] => []
  | x :: xs => pd x :: pds xs
end
mutual
/-- plain data, not deeper than n -/
def okE : Nat → D → Bool
  | _, .non => true
  | _, .bl _ => true
  | _, .int _ => true
  | _, .str x => x.all fun c => decide (c < 1114112)
  | 0, .tup _ => false
  | n + 1, .tup xs => okEs n xs
  | 0, .lst _ => false
  | n + 1, .lst xs => okEs n xs
  | _, .dic _ => false
  | _, .dit _ => false
  | _, .cell _ => false
  | _, .scr _ => false
def okEs : Nat → List D → Bool
  | _, [] => true
  | n, x :: xs => okE n x && okEs n xs
end
mutual
/-- x == y -/
def deq : D → D → Bool
  | .non, .non => true
  | .bl a, .bl b => a == b
  | .bl a, .int j => (if a then 1 else 0) == j
  | .int i, .bl b => i == (if b then 1 else 0)
  | .int i, .int j => i == j
  | .str x, .str y => x == y
  | .lst xs, .lst ys => deqs xs ys
  | .tup xs, .tup ys => deqs xs ys
  | _, _ => false
def deqs : List D → List D → Bool
  | [], [] => true
  | x :: xs, y :: ys => deq x y && deqs xs ys
  | _, _ => false
end
mutual
theorem ok_shaped : ∀ (n : Nat) (d : D), okE n d = true → PyData.canLay0 (pd d) = true ∧ PyData.depth (pd d) ≤ n
  | n, .non, h => by simp [pd, PyData.canLay0, PyData.depth]
  | n, .bl _, h => by simp [pd, PyData.canLay0, PyData.depth]
  | n, .int _, h => by simp [pd, PyData.canLay0, PyData.depth]
  | n, .str x, h => by
    simp only [pd, PyData.canLay0, PyData.depth, Nat.zero_le, and_true]
    unfold okE at h
    unfold PyData.strOk
    rw [← Array.all_toList]
    exact h
  | 0, .tup _, h => by unfold okE at h; cases h
  | n + 1, .tup xs, h => by
    unfold okE at h
    have := oks_shaped n xs h
    simp only [pd, PyData.canLay0, PyData.depth]
    exact ⟨this.1, Nat.succ_le_succ this.2⟩
  | 0, .lst _, h => by unfold okE at h; cases h
  | n + 1, .lst xs, h => by
    unfold okE at h
    have := oks_shaped n xs h
    simp only [pd, PyData.canLay0, PyData.depth]
    exact ⟨this.1, Nat.succ_le_succ this.2⟩
  | _, .dic _, h => by unfold okE at h; cases h
  | _, .dit _, h => by unfold okE at h; cases h
  | _, .cell _, h => by unfold okE at h; cases h
  | _, .scr _, h => by unfold okE at h; cases h
theorem oks_shaped : ∀ (n : Nat) (ds : List D), okEs n ds = true → PyData.canLayAll0 (pds ds) = true ∧ PyData.depthAll (pds ds) ≤ n
  | n, [], h => by simp [pds, PyData.canLayAll0, PyData.depthAll]
  | n, x :: xs, h => by
    unfold okEs at h
    rw [Bool.and_eq_true] at h
    have h1 := ok_shaped n x h.1
    have h2 := oks_shaped n xs h.2
    simp only [pds, PyData.canLayAll0, PyData.depthAll, Bool.and_eq_true]
    exact ⟨⟨h1.1, h2.1⟩, Nat.max_le.mpr ⟨h1.2, h2.2⟩⟩
end
theorem ok_sh {d : D} (h : okE 60 d = true) : SeqAt.shaped (pd d) = true := by
  have := ok_shaped 60 d h
  unfold SeqAt.shaped
  rw [this.1, decide_eq_true (show PyData.depth (pd d) ≤ 64 by omega)]
  rfl
theorem str_beq (x y : List Nat) : ((⟨x.toArray⟩ : Str) == ⟨y.toArray⟩) = (x == y) := by
  rw [Bool.eq_iff_iff]
  simp
mutual
theorem eqv_deq : ∀ (n : Nat) (x y : D), okE n x = true → okE n y = true → PyData.eqv (pd x) (pd y) = deq x y
  | n, .str x, y, h1, h2 => by
    cases y <;> simp only [pd, deq, PyData.eqv] <;> first | exact str_beq _ _ | rfl | (exfalso; cases n <;> simp [okE] at h2)
  | n, .non, y, h1, h2 => by cases y <;> first | (simp only [pd, deq, PyData.eqv]; done) | (exfalso; cases n <;> simp [okE] at h2)
  | n, .bl _, y, h1, h2 => by cases y <;> first | (simp only [pd, deq, PyData.eqv]; done) | (exfalso; cases n <;> simp [okE] at h2)
  | n, .int _, y, h1, h2 => by cases y <;> first | (simp only [pd, deq, PyData.eqv]; done) | (exfalso; cases n <;> simp [okE] at h2)
  | 0, .tup _, _, h, _ => by unfold okE at h; cases h
  | n + 1, .tup xs, y, h1, h2 => by
    cases y with
    | tup ys =>
      unfold okE at h1 h2
      simp only [pd, deq, PyData.eqv]
      exact eqvs_deq n xs ys h1 h2
    | _ => first | (simp only [pd, deq, PyData.eqv]; done) | (exfalso; simp [okE] at h2)
  | 0, .lst _, _, h, _ => by unfold okE at h; cases h
  | n + 1, .lst xs, y, h1, h2 => by
    cases y with
    | lst ys =>
      unfold okE at h1 h2
      simp only [pd, deq, PyData.eqv]
      exact eqvs_deq n xs ys h1 h2
    | _ => first | (simp only [pd, deq, PyData.eqv]; done) | (exfalso; simp [okE] at h2)
  | _, .dic _, _, h, _ => by unfold okE at h; cases h
  | _, .dit _, _, h, _ => by unfold okE at h; cases h
  | _, .cell _, _, h, _ => by unfold okE at h; cases h
  | _, .scr _, _, h, _ => by unfold okE at h; cases h
theorem eqvs_deq : ∀ (n : Nat) (xs ys : List D), okEs n xs = true → okEs n ys = true → PyData.eqvAll (pds xs) (pds ys) = deqs xs ys
  | n, [], [], _, _ => by simp [pds, deqs, PyData.eqvAll]
  | n, [], _ :: _, _, _ => by simp [pds, deqs, PyData.eqvAll]
  | n, _ :: _, [], _, _ => by simp [pds, deqs, PyData.eqvAll]
  | n, x :: xs, y :: ys, h1, h2 => by
    unfold okEs at h1 h2
    rw [Bool.and_eq_true] at h1 h2
    simp only [pds, deqs, PyData.eqvAll]
    rw [eqv_deq n x y h1.1 h2.1, eqvs_deq n xs ys h1.2 h2.2]
end
mutual
theorem RD.dp {K : PySem.W.Frag} {φ : List Addr} {H : Hp} : ∀ (n : Nat) (d : D) (v : V), RD K φ H d v → okE n d = true → Dp K H v (pd d)
  | n, .non, v, h, _ => by cases h; unfold pd; exact .non
  | n, .bl _, v, h, _ => by cases h; unfold pd; exact .bl _
  | n, .int _, v, h, _ => by cases h; unfold pd; exact .int _
  | n, .str _, v, h, _ => by cases h; unfold pd; exact .str _
  | 0, .tup _, _, _, h => by unfold okE at h; cases h
  | n + 1, .tup xs, v, h, o => by
    unfold okE at o
    cases h with
    | tup h r p =>
      unfold pd
      exact .tup h (RDs.dp n xs _ r o)
  | 0, .lst _, _, _, h => by unfold okE at h; cases h
  | n + 1, .lst xs, v, h, o => by
    unfold okE at o
    cases h with
    | lst h m r p =>
      unfold pd
      exact .lst (SqL.of h) (RDs.dp n xs _ r o)
  | _, .dic _, _, _, h => by unfold okE at h; cases h
  | _, .dit _, _, _, h => by unfold okE at h; cases h
  | _, .cell _, _, _, h => by unfold okE at h; cases h
  | _, .scr _, _, _, h => by unfold okE at h; cases h
theorem RDs.dp {K : PySem.W.Frag} {φ : List Addr} {H : Hp} : ∀ (n : Nat) (ds : List D) (vs : List V), RDs K φ H ds vs → okEs n ds = true → DpAll K H vs (pds ds)
  | n, [], _, h, _ => by cases h; unfold pds; exact .nil
  | n, x :: xs, _, h, o => by
    unfold okEs at o
    rw [Bool.and_eq_true] at o
    cases h with
    | cons h r => unfold pds; exact .cons (RD.dp n x _ h o.1) (RDs.dp n xs _ r o.2)
end
/-- a value, a cell's content too, as data -/
theorem dp_res {K : PySem.W.Frag} {φ : List Addr} {H : Hp} {st : Sto} {d : D} {v : V} (g : Good K φ H st) (r : RD K φ H d v) {n : Nat} (h : okE n (res st d) = true) : Dp K H v (pd (res st d)) := by
  cases hd : res st d with
  | lst xs =>
    rw [hd] at h
    obtain ⟨a, vs, rfl, h1, r1, p1⟩ := res_lst g r hd
    cases n with
    | zero => unfold okE at h; cases h
    | succ n =>
      unfold okE at h
      unfold pd
      exact .lst (SqL.of h1) (RDs.dp n xs vs r1 h)
  | dic _ => rw [hd] at h; unfold okE at h; cases h
  | dit _ => rw [hd] at h; unfold okE at h; cases h
  | cell _ => rw [hd] at h; unfold okE at h; cases h
  | _ =>
    have e := res_other hd (fun _ z => by cases z) (fun _ z => by cases z) (fun _ z => by cases z) fun _ z => by cases z
    rw [hd] at h
    rw [e] at r
    exact r.dp n _ v h
def gEq (st : Sto) (x y : D) : Option (D × Bool) := if okE 60 (res st x) && okE 60 (res st y) then some (.bl (deq (res st x) (res st y)), false) else none
def gNe (st : Sto) (x y : D) : Option (D × Bool) := if okE 60 (res st x) && okE 60 (res st y) then some (.bl (!deq (res st x) (res st y)), false) else none
theorem g_eq {K : PySem.W.Frag} : Op2 K (rEqD K) gEq := by
  intro φ H st x y d vx vy fr Q g rx ry hd q
  unfold gEq at hd
  split at hd
  · rename_i c
    cases hd
    rw [Bool.and_eq_true] at c
    refine ⟨pd (res st x), pd (res st y), dp_res g rx c.1, dp_res g ry c.2, ok_sh c.1, ok_sh c.2, ?_⟩
    rw [eqv_deq 60 _ _ c.1 c.2]
    exact q H _ (Ext.refl _ _) g (.bl _) fun z => by cases z
  · cases hd
theorem g_ne {K : PySem.W.Frag} : Op2 K (rNeD K) gNe := by
  intro φ H st x y d vx vy fr Q g rx ry hd q
  unfold gNe at hd
  split at hd
  · rename_i c
    cases hd
    rw [Bool.and_eq_true] at c
    refine ⟨pd (res st x), pd (res st y), dp_res g rx c.1, dp_res g ry c.2, ok_sh c.1, ok_sh c.2, ?_⟩
    rw [eqv_deq 60 _ _ c.1 c.2]
    exact q H _ (Ext.refl _ _) g (.bl _) fun z => by cases z
  · cases hd
/-! ### order -/
def kLt (i j : Int) : Option D := some (.bl (decide (i < j)))
def kLe (i j : Int) : Option D := some (.bl (decide (i ≤ j)))
def kGt (i j : Int) : Option D := some (.bl (decide (j < i)))
def kGe (i j : Int) : Option D := some (.bl (decide (j ≤ i)))
section
variable {K : PySem.W.Frag}
theorem g_lt : Op2 K (rI0 fun i j => .bl (decide (i < j))) (gInt kLt) := op2_gInt0 fun i j d h φ H => by cases h; exact .bl _
theorem g_le : Op2 K (rI0 fun i j => .bl (decide (i ≤ j))) (gInt kLe) := op2_gInt0 fun i j d h φ H => by cases h; exact .bl _
theorem g_gt : Op2 K (rI0 fun i j => .bl (decide (j < i))) (gInt kGt) := op2_gInt0 fun i j d h φ H => by cases h; exact .bl _
theorem g_ge : Op2 K (rI0 fun i j => .bl (decide (j ≤ i))) (gInt kGe) := op2_gInt0 fun i j d h φ H => by cases h; exact .bl _
end
/-- < of texts -/
def gLtS (_ : Sto) (x y : D) : Option (D × Bool) := match x, y with
  | .str a, .str b => some (.bl (decide (a < b)), false)
  | _, _ => none
theorem g_ltS {K : PySem.W.Frag} : Op2 K (fun x y H Q => ∃ i j, x = .str i ∧ y = .str j ∧ Q (.bl (decide (i.cps.toList < j.cps.toList))) H) gLtS := by
  intro φ H st x y d vx vy fr Q g rx ry hd q
  unfold gLtS at hd
  split at hd
  · cases hd
    cases rx
    cases ry
    exact ⟨_, _, rfl, rfl, q H _ (Ext.refl _ _) g (.bl _) fun z => by cases z⟩
  · cases hd
/-- is None -/
def isNon : D → Bool
  | .non => true
  | _ => false
def gIsN (neg : Bool) (_ : Sto) (x y : D) : Option (D × Bool) := if isNon y then some (.bl (if neg then !isNon x else isNon x), false) else none
theorem rd_non {K : PySem.W.Frag} {φ : List Addr} {H : Hp} {x : D} {v : V} (r : RD K φ H x v) : decide (v = .non) = isNon x := by
  cases r <;> rfl
theorem g_isN {K : PySem.W.Frag} : Op2 K (fun x y H Q => y = .non ∧ Q (.bl (decide (x = .non))) H) (gIsN false) := by
  intro φ H st x y d vx vy fr Q g rx ry hd q
  unfold gIsN at hd
  split at hd
  · rename_i c
    cases hd
    refine ⟨?_, ?_⟩
    · cases ry <;> first | rfl | cases c
    · rw [rd_non rx]
      exact q H _ (Ext.refl _ _) g (.bl _) fun z => by cases z
  · cases hd
theorem g_notN {K : PySem.W.Frag} : Op2 K (fun x y H Q => y = .non ∧ Q (.bl (!decide (x = .non))) H) (gIsN true) := by
  intro φ H st x y d vx vy fr Q g rx ry hd q
  unfold gIsN at hd
  split at hd
  · rename_i c
    cases hd
    refine ⟨?_, ?_⟩
    · cases ry <;> first | rfl | cases c
    · rw [rd_non rx]
      exact q H _ (Ext.refl _ _) g (.bl _) fun z => by cases z
  · cases hd
end EV

set_option Elab.async false
set_option maxRecDepth 100000
set_option maxHeartbeats 2000000
namespace EV
open PySem PySem.Spec PyProof.Rows L2
/-! ### in -/
def sgn : D → Option Nat
  | .str [c] => some c
  | _ => none
def gIn (neg : Bool) (st : Sto) (x y : D) : Option (D × Bool) := match res st y with
  | .str z => (sgn x).map fun c => (.bl (if neg then !decide (c ∈ z) else decide (c ∈ z)), false)
  | .lst ys => if okE 59 x && okEs 59 ys then some (.bl (if neg then !(ys.any fun z => deq z x) else ys.any fun z => deq z x), false) else none
  | _ => none
theorem sgn_some {x : D} {c : Nat} (h : sgn x = some c) : x = .str [c] := by
  unfold sgn at h
  split at h
  · cases h; rfl
  · cases h
theorem opt_pair {α : Type} {f : α → D} {o : Option α} {d : D} {fr : Bool} (h : (o.map fun c => (f c, false)) = some (d, fr)) : ∃ c, o = some c ∧ d = f c ∧ fr = false := by
  cases o with
  | none => cases h
  | some c => cases h; exact ⟨c, rfl, rfl, rfl⟩
def rInS : R2 := fun x y H Q => ∃ (c : Nat) (z : Str), x = .str ⟨#[c]⟩ ∧ y = .str z ∧ Q (.bl (decide (c ∈ z.cps.toList))) H
def rNotInS : R2 := fun x y H Q => ∃ (c : Nat) (z : Str), x = .str ⟨#[c]⟩ ∧ y = .str z ∧ Q (.bl (!decide (c ∈ z.cps.toList))) H
def rIn2 (K : PySem.W.Frag) : R2 := fun x y H Q => rInS x y H Q ∨ rInD K x y H Q
def rNotIn2 (K : PySem.W.Frag) : R2 := fun x y H Q => rNotInS x y H Q ∨ rNotInD K x y H Q
theorem op_in2 {X : Cx} (hu : X.A.units + 65 < cLine) : OpR X (compareOp .In) (rIn2 X.K) := opR_or op_in_sign (op_inD hu)
theorem op_notIn2 {X : Cx} (hu : X.A.units + 65 < cLine) : OpR X (compareOp .NotIn) (rNotIn2 X.K) := opR_or op_notIn_sign (op_notInD hu)
theorem okE_sh {n : Nat} {d : D} (h : okE n d = true) (hn : n ≤ 60) : SeqAt.shaped (pd d) = true := by
  have := ok_shaped n d h
  unfold SeqAt.shaped
  rw [this.1, decide_eq_true (show PyData.depth (pd d) ≤ 64 by omega)]
  rfl
theorem okEs_sh {n : Nat} {ds : List D} (h : okEs n ds = true) (hn : n ≤ 60) : SeqAt.shaped (.list (pds ds)) = true := by
  have := oks_shaped n ds h
  unfold SeqAt.shaped
  have h1 : PyData.canLay0 (.list (pds ds)) = true := by simp only [PyData.canLay0]; exact this.1
  have h2 : PyData.depth (.list (pds ds)) ≤ 64 := by simp only [PyData.depth]; omega
  rw [h1, decide_eq_true h2]
  rfl
theorem any_deq {n : Nat} {x : D} (hx : okE n x = true) : ∀ {ys : List D}, okEs n ys = true → (pds ys).any (fun z => PyData.eqv z (pd x)) = ys.any fun z => deq z x
  | [], _ => by simp [pds]
  | y :: ys, h => by
    unfold okEs at h
    rw [Bool.and_eq_true] at h
    simp only [pds, List.any_cons]
    rw [eqv_deq n y x h.1 hx, any_deq hx h.2]
theorem g_in {K : PySem.W.Frag} : Op2 K (rIn2 K) (gIn false) := by
  intro φ H st x y d vx vy fr Q g rx ry hd q
  unfold gIn at hd
  split at hd
  · rename_i z hy
    obtain ⟨c, hc, rfl, rfl⟩ := opt_pair hd
    cases sgn_some hc
    cases res_str hy
    cases rx
    cases ry
    exact .inl ⟨c, _, rfl, rfl, q H _ (Ext.refl _ _) g (.bl _) fun z => by cases z⟩
  · rename_i ys hy
    split at hd
    · rename_i c
      cases hd
      rw [Bool.and_eq_true] at c
      obtain ⟨a, vs, rfl, h1, r1, p1⟩ := res_lst g ry hy
      refine .inr ⟨_, pds ys, rx.dp 59 _ _ c.1, .lst (SqL.of h1) (RDs.dp 59 ys vs r1 c.2), okE_sh c.1 (by decide), okEs_sh c.2 (by decide), ?_⟩
      rw [any_deq c.1 c.2]
      exact q H _ (Ext.refl _ _) g (.bl _) fun z => by cases z
    · cases hd
  · cases hd
theorem g_notIn {K : PySem.W.Frag} : Op2 K (rNotIn2 K) (gIn true) := by
  intro φ H st x y d vx vy fr Q g rx ry hd q
  unfold gIn at hd
  split at hd
  · rename_i z hy
    obtain ⟨c, hc, rfl, rfl⟩ := opt_pair hd
    cases sgn_some hc
    cases res_str hy
    cases rx
    cases ry
    exact .inl ⟨c, _, rfl, rfl, q H _ (Ext.refl _ _) g (.bl _) fun z => by cases z⟩
  · rename_i ys hy
    split at hd
    · rename_i c
      cases hd
      rw [Bool.and_eq_true] at c
      obtain ⟨a, vs, rfl, h1, r1, p1⟩ := res_lst g ry hy
      refine .inr ⟨_, pds ys, rx.dp 59 _ _ c.1, .lst (SqL.of h1) (RDs.dp 59 ys vs r1 c.2), okE_sh c.1 (by decide), okEs_sh c.2 (by decide), ?_⟩
      rw [any_deq c.1 c.2]
      exact q H _ (Ext.refl _ _) g (.bl _) fun z => by cases z
    · cases hd
  · cases hd
/-! ### a[i] -/
def gIx (st : Sto) (x y : D) : Option (D × Bool) := match res st x, y with
  | .tup ds, .int i => (atI ds i).map fun d => (d, false)
  | .lst ds, .int i => (atI ds i).map fun d => (d, false)
  | .str z, .int i => if z.length ≤ SZ then (atI z i).map fun c => (.str [c], false) else none
  | .scr ns, .int i => (atI ns i).map fun n => (.int n, false)
  | _, _ => none
theorem RDs.atI {K : PySem.W.Frag} {φ : List Addr} {H : Hp} {ds : List D} {vs : List V} {i : Int} {d : D} (r : RDs K φ H ds vs) (h : atI ds i = some d) : ∃ v, L2.atI vs i = some v ∧ RD K φ H d v := by
  unfold L2.atI at h ⊢
  rw [← r.length]
  cases hx : ixN ds.length i with
  | none => rw [hx] at h; cases h
  | some j =>
    rw [hx] at h
    exact r.get h
theorem res_scr {st : Sto} {d : D} {i : List Int} (h : res st d = .scr i) : d = .scr i := res_other h (fun _ z => by cases z) (fun _ z => by cases z) (fun _ z => by cases z) fun _ z => by cases z
theorem g_ix {K : PySem.W.Frag} : Op2 K (rIx K) gIx := by
  intro φ H st x y d vx vy fr Q g rx ry hd q
  unfold gIx at hd
  split at hd
  · rename_i ds i hx
    obtain ⟨c, h, rfl, rfl⟩ := opt_pair (f := fun d => d) hd
    cases res_tup hx
    cases ry
    obtain ⟨a, vs, rfl, h1, r1, p1⟩ := rx.of_tup
    obtain ⟨v, e, r⟩ := r1.atI h
    exact .inr (.inl ⟨a, vs, i, v, rfl, rfl, h1, e, q H _ (Ext.refl _ _) g r fun z => by cases z⟩)
  · rename_i ds i hx
    obtain ⟨c, h, rfl, rfl⟩ := opt_pair (f := fun d => d) hd
    cases ry
    obtain ⟨a, vs, rfl, h1, r1, p1⟩ := res_lst g rx hx
    obtain ⟨v, e, r⟩ := r1.atI h
    exact .inl ⟨a, vs, i, v, rfl, rfl, SqL.of h1, e, q H _ (Ext.refl _ _) g r fun z => by cases z⟩
  · rename_i z i hx
    split at hd
    · rename_i hz
      obtain ⟨c, h, rfl, rfl⟩ := opt_pair (f := fun c => D.str [c]) hd
      cases res_str hx
      cases rx
      cases ry
      exact .inr (.inr ⟨_, i, c, rfl, rfl, by rw [str_len, sz_eq]; exact hz, h, q H _ (Ext.refl _ _) g (.str [c]) fun z => by cases z⟩)
    · cases hd
  · rename_i ns i hx
    obtain ⟨c, h, rfl, rfl⟩ := opt_pair (f := fun c => D.int c) hd
    cases res_scr hx
    cases ry
    cases rx with
    | scr h1 =>
      refine .inl ⟨_, _, i, .int c, rfl, rfl, h1.sq, ?_, q H _ (Ext.refl _ _) g (.int c) fun z => by cases z⟩
      unfold L2.atI at h ⊢
      rw [List.length_map]
      cases hj : ixN ns.length i with
      | none => rw [hj] at h; cases h
      | some j =>
        rw [hj] at h
        have h2 : ns[j]? = some c := h
        show (ns.map V.int)[j]? = some (V.int c)
        rw [List.getElem?_map, h2]
        rfl
  · cases hd
/-! ### arguments, displays -/
def aNil : FA := fun _ st => .ok [] st
def aCons (f : FE) (g : FA) : FA := fun e st => match f e st with
  | .ok d _ st1 => (match g e st1 with
    | .ok ds st2 => .ok (d :: ds) st2
    | r => r)
  | .exc c d st1 => .exc c d st1
  | .stuck => .stuck
/-- what a star gives out -/
def spl (st : Sto) (d : D) : Option (List D) := match res st d with
  | .tup ds => some ds
  | .lst ds => some ds
  | _ => none
def aStar (f : FE) (g : FA) : FA := fun e st => match f e st with
  | .ok d _ st1 => (match spl st1 d with
    | some as => (match g e st1 with
      | .ok ds st2 => .ok (as ++ ds) st2
      | r => r)
    | none => .stuck)
  | .exc c d st1 => .exc c d st1
  | .stuck => .stuck
section
variable {X : Cx} {XA : XAT} {E : L2.St → XK}
theorem a_nil : PA X [] (liftA X.K XA E aNil) := PA.weak pa_nil fun σ H Q ⟨e, st, φ, n, q⟩ => q φ H [] (Ext.refl _ _) n.good .nil
theorem t_cons {K : PySem.W.Frag} {f : FE} {g : FA} {σ : L2.St} {H : Hp} {Q : List V → Hp → Prop} (h : liftA K XA E (aCons f g) σ H Q) : tCons (lift K XA E f) (liftA K XA E g) σ H Q := by
  obtain ⟨e, st, φ, n, q⟩ := h
  refine ⟨e, st, φ, n, ?_⟩
  unfold aCons at q
  cases hf : f e st with
  | stuck => rw [hf] at q; exact q
  | exc c d st1 => rw [hf] at q; exact q
  | ok d fr st1 =>
    rw [hf] at q
    intro φ1 H1 v x1 g1 r1 _
    have n1 := n.keep x1 g1
    refine ⟨e, st1, φ1, n1, ?_⟩
    cases hg : g e st1 with
    | stuck => simp only [hg] at q; exact q
    | exc c d st2 => simp only [hg] at q; exact fun φ2 H2 c dd x2 => q φ2 H2 c dd (x1.trans x2)
    | ok ds st2 =>
      simp only [hg] at q
      exact fun φ2 H2 vs x2 g2 r2 => q φ2 H2 (v :: vs) (x1.trans x2) g2 (.cons (r1.keep x2 n1.good.notup) r2)
theorem a_cons {f : FE} {g : FA} {a : Expr} {es : List Expr} (ha : PE X a (lift X.K XA E f)) (hr : PA X es (liftA X.K XA E g)) (hs : starEach (a :: es) X.env = (false, eval a X.env) :: starEach es X.env := by rfl) : PA X (a :: es) (liftA X.K XA E (aCons f g)) :=
  PA.weak (pa_cons ha hr hs) fun σ H Q h => t_cons h
theorem spl_ok {K : PySem.W.Frag} {φ : List Addr} {H : Hp} {st : Sto} {d : D} {v : V} {as : List D} (g : Good K φ H st) (r : RD K φ H d v) (h : spl st d = some as) : ∃ p vs, v = .ref p ∧ (SqT K H p vs ∨ SqL K H p vs) ∧ RDs K φ H as vs ∧ as.all isP = true := by
  unfold spl at h
  split at h
  · rename_i ds hx
    cases h
    cases res_tup hx
    obtain ⟨a, vs, rfl, h1, r1, p1⟩ := r.of_tup
    exact ⟨a, vs, rfl, .inl h1, r1, p1⟩
  · rename_i ds hx
    cases h
    obtain ⟨a, vs, rfl, h1, r1, p1⟩ := res_lst g r hx
    exact ⟨a, vs, rfl, .inr (SqL.of h1), r1, p1⟩
  · cases h
theorem a_star {f : FE} {g : FA} {a : Expr} {es : List Expr} {p : Pos} (ha : PE X a (lift X.K XA E f)) (hr : PA X es (liftA X.K XA E g)) (hs : starEach (.Starred a p :: es) X.env = (true, eval a X.env) :: starEach es X.env := by rfl) : PA X (.Starred a p :: es) (liftA X.K XA E (aStar f g)) := by
  refine PA.weak (StX.pa_star ha hr hs) ?_
  rintro σ H Q ⟨e, st, φ, n, q⟩
  refine ⟨e, st, φ, n, ?_⟩
  unfold aStar at q
  cases hf : f e st with
  | stuck => rw [hf] at q; exact q
  | exc c d st1 => rw [hf] at q; exact q
  | ok d fr st1 =>
    rw [hf] at q
    intro φ1 H1 v x1 g1 r1 _
    have n1 := n.keep x1 g1
    cases hp : spl st1 d with
    | none => simp only [hp] at q; exact q.elim
    | some as =>
      simp only [hp] at q
      obtain ⟨p, vs, rfl, h1, r2, _⟩ := spl_ok g1 r1 hp
      refine ⟨p, vs, rfl, h1, e, st1, φ1, n1, ?_⟩
      cases hg : g e st1 with
      | stuck => simp only [hg] at q; exact q
      | exc c d st2 => simp only [hg] at q; exact fun φ2 H2 c dd x2 => q φ2 H2 c dd (x1.trans x2)
      | ok ds st2 =>
        simp only [hg] at q
        exact fun φ2 H2 vs2 x2 g2 r3 => q φ2 H2 (vs ++ vs2) (x1.trans x2) g2 ((r2.keep x2 n1.good.notup).append r3)
/-- an operation on all arguments -/
def OpN (K : PySem.W.Frag) (r : List V → Hp → VK → Prop) (g : Sto → List D → Option (D × Bool)) : Prop :=
  ∀ (φ : List Addr) (H : Hp) (st : Sto) (xs : List D) (d : D) (vs : List V) (fr : Bool) (Q : VK), Good K φ H st → RDs K φ H xs vs → g st xs = some (d, fr) →
    (∀ H' v, Ext φ φ H H' → Good K φ H' st → RD K φ H' d v → (fr = true → Frs K H φ H' st d v) → Q v H') → r vs H Q
def fN (g : Sto → List D → Option (D × Bool)) (f : FA) : FE := fun e st => match f e st with
  | .ok ds st1 => ofO st1 (g st1 ds)
  | .exc c d st1 => .exc c d st1
  | .stuck => .stuck
theorem t_opN {r : List V → Hp → VK → Prop} {g : Sto → List D → Option (D × Bool)} {f : FA} (hg : OpN X.K r g) (σ : L2.St) (H : Hp) (Q : VK) (h : lift X.K XA E (fN g f) σ H Q) : liftA X.K XA E f σ H fun vs H1 => r vs H1 Q := by
  obtain ⟨e, st, φ, n, q⟩ := h
  refine ⟨e, st, φ, n, ?_⟩
  unfold fN at q
  cases hf : f e st with
  | stuck => rw [hf] at q; exact q
  | exc c d st1 => rw [hf] at q; exact q
  | ok ds st1 =>
    rw [hf] at q
    intro φ1 H1 vs x1 g1 r1
    obtain ⟨d, fr, hd, q3⟩ := RQ.of (RQ.mono x1 q fun _ _ z => z)
    exact hg φ1 H1 st1 ds d vs fr Q g1 r1 hd fun H' v x3 g3 r3 f3 => q3 φ1 H' v x3 g3 r3 f3
def gTup (_ : Sto) (ds : List D) : Option (D × Bool) := if ds.length ≤ SZ then (if ds.all isP then some (.tup ds, false) else none) else none
def gLst (_ : Sto) (ds : List D) : Option (D × Bool) := if ds.length ≤ SZ then (if ds.all isP then some (.lst ds, true) else none) else none
theorem g_tup {K : PySem.W.Frag} : OpN K (fun xs H Q => xs.length ≤ sizeLine ∧ ∀ p, H p = none → Q (.ref p) (upd H p (.tup xs))) gTup := by
  intro φ H st xs d vs fr Q g rx hd q
  unfold gTup at hd
  split at hd
  · rename_i hz
    refine ⟨by rw [← rx.length, sz_eq]; exact hz, fun p hp => ?_⟩
    split at hd
    · rename_i hp2
      cases hd
      obtain ⟨x1, x2, x3⟩ := new_tup g hp rx hp2
      exact q _ _ x1 x2 x3 fun z => by cases z
    · cases hd
  · cases hd
theorem g_lst {K : PySem.W.Frag} : OpN K (fun xs H Q => xs.length ≤ sizeLine ∧ ∀ p, H p = none → Q (.ref p) (upd H p (.lst xs))) gLst := by
  intro φ H st xs d vs fr Q g rx hd q
  unfold gLst at hd
  split at hd
  · rename_i hz
    refine ⟨by rw [← rx.length, sz_eq]; exact hz, fun p hp => ?_⟩
    split at hd
    · rename_i hp2
      cases hd
      obtain ⟨x1, x2, x3, x4⟩ := new_lst g hp rx hp2
      exact q _ _ x1 x2 x3 fun _ => x4
    · cases hd
  · cases hd
theorem e_tup {f : FA} {es : List Expr} {x1 : Nat} {pos : Pos} (h : PA X es (liftA X.K XA E f)) : PE X (.Tuple es x1 pos) (lift X.K XA E (fN gTup f)) := PE.weak (pe_tup h) fun σ H Q q => t_opN g_tup σ H Q q
theorem e_lst {f : FA} {es : List Expr} {pos : Pos} (h : PA X es (liftA X.K XA E f)) : PE X (.List es pos) (lift X.K XA E (fN gLst f)) := PE.weak (pe_lst h) fun σ H Q q => t_opN g_lst σ H Q q
/-- a built-in by its name, with arguments -/
theorem e_callB {id : String} {r : List V → Hp → VK → Prop} {g : Sto → List D → Option (D × Bool)} {f : FA} {x : Str} {a : Expr} {es : List Expr} {p pos : Pos} (hc : CallR X (.builtin id) r) (hO : OpN X.K r g) (hg : Gl X x) (hm : X.mg x = none) (hv : bootBuiltins x = some (.builtin id)) (ha : PA X (a :: es) (liftA X.K XA E f)) (hn : x ≠ "__name__" := by decide) (hdb : (x == ("__debug__" : Str)) = false := by decide)
    (he : starEach (a :: es) X.env = (false, eval a X.env) :: starEach es X.env := by rfl) (hpl : (backTo pos (starEach es X.env)).any (·.1) = false := by rfl) : PE X (.Call (.Name x p) (a :: es) [] pos) (lift X.K XA E (fN g f)) :=
  PE.weak (pe_callB hc hg hm hv ha hn hdb he hpl) fun σ H Q q => t_opN hO σ H Q q
theorem e_callTy {T : String} {r : List V → Hp → VK → Prop} {g : Sto → List D → Option (D × Bool)} {f : FA} {x : Str} {a : Expr} {es : List Expr} {p pos : Pos} (hc : CallR X (.type T) r) (hO : OpN X.K r g) (hg : Gl X x) (hm : X.mg x = none) (hv : bootBuiltins x = some (.type T)) (ha : PA X (a :: es) (liftA X.K XA E f)) (hn : x ≠ "__name__" := by decide) (hdb : (x == ("__debug__" : Str)) = false := by decide)
    (he : starEach (a :: es) X.env = (false, eval a X.env) :: starEach es X.env := by rfl) (hpl : (backTo pos (starEach es X.env)).any (·.1) = false := by rfl) : PE X (.Call (.Name x p) (a :: es) [] pos) (lift X.K XA E (fN g f)) :=
  PE.weak (pe_callTy hc hg hm hv ha hn hdb he hpl) fun σ H Q q => t_opN hO σ H Q q
theorem callR_or {f : Value} {r r' : List V → Hp → VK → Prop} (h : CallR X f r) (h' : CallR X f r') : CallR X f (fun xs H Q => r xs H Q ∨ r' xs H Q) := by
  intro pins s σ H xs us Q I rx q
  rcases q with q | q
  · exact h pins s σ H xs us Q I rx q
  · exact h' pins s σ H xs us Q I rx q
end
end EV

set_option Elab.async false
set_option maxRecDepth 100000
set_option maxHeartbeats 2000000
namespace EV
open PySem PySem.Spec PyProof.Rows L2
def intL : List D → Option (List Int)
  | [] => some []
  | .int i :: r => (intL r).map (i :: ·)
  | _ => none
def bls : List D → Option (List Bool)
  | [] => some []
  | .bl i :: r => (bls r).map (i :: ·)
  | _ => none
theorem intL_rd {K : PySem.W.Frag} {φ : List Addr} {H : Hp} : ∀ {ds : List D} {vs : List V} {ns : List Int}, RDs K φ H ds vs → intL ds = some ns → vs = ns.map V.int
  | _, _, _, .nil, h => by cases h; rfl
  | _, _, _, .cons (d := d) r rs, h => by
    cases d <;> first | (cases h; done) | skip
    rename_i ds vs i
    unfold intL at h
    cases h2 : intL _ with
    | none => rw [h2] at h; cases h
    | some ms =>
      rw [h2] at h
      cases h
      cases r
      rw [intL_rd rs h2]
      rfl
theorem bls_rd {K : PySem.W.Frag} {φ : List Addr} {H : Hp} : ∀ {ds : List D} {vs : List V} {ns : List Bool}, RDs K φ H ds vs → bls ds = some ns → vs = ns.map V.bl
  | _, _, _, .nil, h => by cases h; rfl
  | _, _, _, .cons (d := d) r rs, h => by
    cases d <;> first | (cases h; done) | skip
    unfold bls at h
    cases h2 : bls _ with
    | none => rw [h2] at h; cases h
    | some ms =>
      rw [h2] at h
      cases h
      cases r
      rw [bls_rd rs h2]
      rfl
theorem rds1 {K : PySem.W.Frag} {φ : List Addr} {H : Hp} {d : D} {vs : List V} (h : RDs K φ H [d] vs) : ∃ v, vs = [v] ∧ RD K φ H d v := by
  cases h with
  | cons r rs => cases rs; exact ⟨_, rfl, r⟩
theorem rds2 {K : PySem.W.Frag} {φ : List Addr} {H : Hp} {d e : D} {vs : List V} (h : RDs K φ H [d, e] vs) : ∃ v u, vs = [v, u] ∧ RD K φ H d v ∧ RD K φ H e u := by
  cases h with
  | cons r rs =>
    obtain ⟨u, rfl, r2⟩ := rds1 rs
    exact ⟨_, _, rfl, r, r2⟩
theorem opt1 {α : Type} {f : α → D} {b : Bool} {o : Option α} {d : D} {fr : Bool} (h : (o.map fun c => (f c, b)) = some (d, fr)) : ∃ c, o = some c ∧ d = f c ∧ fr = b := by
  cases o with
  | none => cases h
  | some c => cases h; exact ⟨c, rfl, rfl, rfl⟩
/-! ### len -/
def lenOf : D → Option Nat
  | .tup ds => some ds.length
  | .lst ds => some ds.length
  | .str z => if z.length ≤ SZ then some z.length else none
  | .scr ns => some ns.length
  | _ => none
def gLen (st : Sto) : List D → Option (D × Bool)
  | [x] => (lenOf (res st x)).map fun (n : Nat) => (D.int (n : Int), false)
  | _ => none
theorem g_len {K : PySem.W.Frag} : OpN K (fun xs H Q => ∃ x n, xs = [x] ∧ LenV K x H n ∧ Q (.int n) H) gLen := by
  intro φ H st xs d vs fr Q g rx hd q
  unfold gLen at hd
  split at hd
  · rename_i x
    obtain ⟨v, rfl, r⟩ := rds1 rx
    obtain ⟨n, hn, rfl, rfl⟩ := opt1 (f := fun n : Nat => D.int (n : Int)) hd
    refine ⟨v, n, rfl, ?_, q H _ (Ext.refl _ _) g (.int _) fun z => by cases z⟩
    unfold lenOf at hn
    split at hn
    · rename_i ds hx
      cases hn
      cases res_tup hx
      obtain ⟨a, vs, rfl, h1, r1, p1⟩ := r.of_tup
      exact .inr ⟨vs, h1, r1.length⟩
    · rename_i ds hx
      cases hn
      obtain ⟨a, vs, rfl, h1, r1, p1⟩ := res_lst g r hx
      exact .inl ⟨vs, SqL.of h1, r1.length⟩
    · rename_i z hx
      split at hn
      · rename_i hz
        cases hn
        cases res_str hx
        cases r
        exact ⟨by rw [str_len, sz_eq]; exact hz, (str_len _).symm⟩
      · cases hn
    · rename_i ns hx
      cases hn
      cases res_scr hx
      cases r with
      | scr h1 => exact .inl ⟨_, h1.sq, by rw [List.length_map]⟩
    · cases hn
  · cases hd
/-! ### numbers -/
def gAbs (_ : Sto) : List D → Option (D × Bool)
  | [.int i] => some (.int (if i < 0 then -i else i), false)
  | _ => none
def gIntOf (_ : Sto) : List D → Option (D × Bool)
  | [.int i] => some (.int i, false)
  | [.bl b] => some (.int (if b then 1 else 0), false)
  | _ => none
def gMax (_ : Sto) : List D → Option (D × Bool)
  | [.int i, .int j] => some (.int (if j > i then j else i), false)
  | _ => none
def gMin (_ : Sto) : List D → Option (D × Bool)
  | [.int i, .int j] => some (.int (if j < i then j else i), false)
  | _ => none
section
variable {K : PySem.W.Frag}
theorem g_abs : OpN K (fun xs H Q => ∃ i, xs = [.int i] ∧ Q (.int (if i < 0 then -i else i)) H) gAbs := by
  intro φ H st xs d vs fr Q g rx hd q
  unfold gAbs at hd
  split at hd
  · obtain ⟨v, rfl, r⟩ := rds1 rx
    cases hd
    cases r
    exact ⟨_, rfl, q H _ (Ext.refl _ _) g (.int _) fun z => by cases z⟩
  · cases hd
theorem g_intOf : OpN K (fun xs H Q => (∃ i, xs = [.int i] ∧ Q (.int i) H) ∨ ∃ k, xs = [.bl k] ∧ Q (.int (if k then 1 else 0)) H) gIntOf := by
  intro φ H st xs d vs fr Q g rx hd q
  unfold gIntOf at hd
  split at hd
  · obtain ⟨v, rfl, r⟩ := rds1 rx
    cases hd
    cases r
    exact .inl ⟨_, rfl, q H _ (Ext.refl _ _) g (.int _) fun z => by cases z⟩
  · obtain ⟨v, rfl, r⟩ := rds1 rx
    cases hd
    cases r
    exact .inr ⟨_, rfl, q H _ (Ext.refl _ _) g (.int _) fun z => by cases z⟩
  · cases hd
theorem g_max : OpN K (fun xs H Q => ∃ i j, xs = [.int i, .int j] ∧ Q (.int (if j > i then j else i)) H) gMax := by
  intro φ H st xs d vs fr Q g rx hd q
  unfold gMax at hd
  split at hd
  · obtain ⟨v, u, rfl, r, r2⟩ := rds2 rx
    cases hd
    cases r
    cases r2
    exact ⟨_, _, rfl, q H _ (Ext.refl _ _) g (.int _) fun z => by cases z⟩
  · cases hd
theorem g_min : OpN K (fun xs H Q => ∃ i j, xs = [.int i, .int j] ∧ Q (.int (if j < i then j else i)) H) gMin := by
  intro φ H st xs d vs fr Q g rx hd q
  unfold gMin at hd
  split at hd
  · obtain ⟨v, u, rfl, r, r2⟩ := rds2 rx
    cases hd
    cases r
    cases r2
    exact ⟨_, _, rfl, q H _ (Ext.refl _ _) g (.int _) fun z => by cases z⟩
  · cases hd
/-- a list of intL, the script's items too -/
def intsOf : D → Option (List Int)
  | .lst ds => intL ds
  | .scr ns => some ns
  | _ => none
theorem intsOf_ok {φ : List Addr} {H : Hp} {st : Sto} {x : D} {v : V} {ns : List Int} (g : Good K φ H st) (r : RD K φ H x v) (h : intsOf (res st x) = some ns) : ∃ a, v = .ref a ∧ SqL K H a (ns.map V.int) := by
  unfold intsOf at h
  split at h
  · rename_i ds hx
    obtain ⟨a, vs, rfl, h1, r1, p1⟩ := res_lst g r hx
    rw [intL_rd r1 h] at h1
    exact ⟨a, rfl, SqL.of h1⟩
  · rename_i ms hx
    cases h
    cases res_scr hx
    cases r with
    | scr h1 => exact ⟨_, rfl, h1.sq⟩
  · cases h
def gSum (st : Sto) : List D → Option (D × Bool)
  | [x] => (intsOf (res st x)).map fun ns => (.int ns.sum, false)
  | _ => none
theorem g_sum : OpN K (rSum K) gSum := by
  intro φ H st xs d vs fr Q g rx hd q
  unfold gSum at hd
  split at hd
  · obtain ⟨v, rfl, r⟩ := rds1 rx
    obtain ⟨ns, hn, rfl, rfl⟩ := opt1 (f := fun ns : List Int => D.int ns.sum) hd
    obtain ⟨a, rfl, h⟩ := intsOf_ok g r hn
    exact ⟨a, ns, rfl, h, q H _ (Ext.refl _ _) g (.int _) fun z => by cases z⟩
  · cases hd
def blsOf : D → Option (List Bool)
  | .lst ds => bls ds
  | _ => none
def gAll (st : Sto) : List D → Option (D × Bool)
  | [x] => (blsOf (res st x)).map fun bs => (.bl (bs.all id), false)
  | _ => none
def gAny (st : Sto) : List D → Option (D × Bool)
  | [x] => (blsOf (res st x)).map fun bs => (.bl (bs.any id), false)
  | _ => none
theorem blsOf_ok {φ : List Addr} {H : Hp} {st : Sto} {x : D} {v : V} {ns : List Bool} (g : Good K φ H st) (r : RD K φ H x v) (h : blsOf (res st x) = some ns) : ∃ a, v = .ref a ∧ SqL K H a (ns.map V.bl) := by
  unfold blsOf at h
  split at h
  · rename_i ds hx
    obtain ⟨a, vs, rfl, h1, r1, p1⟩ := res_lst g r hx
    rw [bls_rd r1 h] at h1
    exact ⟨a, rfl, SqL.of h1⟩
  · cases h
theorem g_all : OpN K (rAll K) gAll := by
  intro φ H st xs d vs fr Q g rx hd q
  unfold gAll at hd
  split at hd
  · obtain ⟨v, rfl, r⟩ := rds1 rx
    obtain ⟨ns, hn, rfl, rfl⟩ := opt1 (f := fun bs : List Bool => D.bl (bs.all id)) hd
    obtain ⟨a, rfl, h⟩ := blsOf_ok g r hn
    exact ⟨a, ns, rfl, h, q H _ (Ext.refl _ _) g (.bl _) fun z => by cases z⟩
  · cases hd
theorem g_any : OpN K (rAny K) gAny := by
  intro φ H st xs d vs fr Q g rx hd q
  unfold gAny at hd
  split at hd
  · obtain ⟨v, rfl, r⟩ := rds1 rx
    obtain ⟨ns, hn, rfl, rfl⟩ := opt1 (f := fun bs : List Bool => D.bl (bs.any id)) hd
    obtain ⟨a, rfl, h⟩ := blsOf_ok g r hn
    exact ⟨a, ns, rfl, h, q H _ (Ext.refl _ _) g (.bl _) fun z => by cases z⟩
  · cases hd
/-! ### list(x), tuple(x) -/
def gListOf (st : Sto) : List D → Option (D × Bool)
  | [x] => (spl st x).map fun ds => (.lst ds, true)
  | _ => none
def gTupOf (st : Sto) : List D → Option (D × Bool)
  | [x] => (spl st x).map fun ds => (.tup ds, false)
  | _ => none
theorem g_listOf : OpN K (fun xs H Q => ∃ p ys, xs = [.ref p] ∧ (SqL K H p ys ∨ SqT K H p ys) ∧ ∀ l, H l = none → Q (.ref l) (upd H l (.lst ys))) gListOf := by
  intro φ H st xs d vs fr Q g rx hd q
  unfold gListOf at hd
  split at hd
  · obtain ⟨v, rfl, r⟩ := rds1 rx
    obtain ⟨ds, hn, rfl, rfl⟩ := opt1 (f := fun ds : List D => D.lst ds) hd
    obtain ⟨p, vs, rfl, h1, r1, p1⟩ := spl_ok g r hn
    refine ⟨p, vs, rfl, h1.symm, fun l hl => ?_⟩
    obtain ⟨x1, x2, x3, x4⟩ := new_lst g hl r1 p1
    exact q _ _ x1 x2 x3 fun _ => x4
  · cases hd
theorem g_tupOf : OpN K (fun xs H Q => ∃ p ys, xs = [.ref p] ∧ ((SqL K H p ys ∧ ∀ l, H l = none → Q (.ref l) (upd H l (.tup ys))) ∨ (SqT K H p ys ∧ Q (.ref p) H))) gTupOf := by
  intro φ H st xs d vs fr Q g rx hd q
  unfold gTupOf at hd
  split at hd
  · obtain ⟨v, rfl, r⟩ := rds1 rx
    obtain ⟨ds, hn, rfl, rfl⟩ := opt1 (f := fun ds : List D => D.tup ds) hd
    obtain ⟨p, vs, rfl, h1, r1, p1⟩ := spl_ok g r hn
    rcases h1 with h1 | h1
    · exact ⟨p, vs, rfl, .inr ⟨h1, q H _ (Ext.refl _ _) g (.tup h1 r1 p1) fun z => by cases z⟩⟩
    · refine ⟨p, vs, rfl, .inl ⟨h1, fun l hl => ?_⟩⟩
      obtain ⟨x1, x2, x3⟩ := new_tup g hl r1 p1
      exact q _ _ x1 x2 x3 fun z => by cases z
  · cases hd
end
/-! ### isinstance -/
inductive Ty where
  | non | bl | int | str | tup | lst
  deriving DecidableEq
def Ty.name : Ty → String
  | .non => "NoneType"
  | .bl => "bool"
  | .int => "int"
  | .str => "str"
  | .tup => "tuple"
  | .lst => "list"
def isi : Ty → Ty → Bool
  | .bl, .bl => true
  | .bl, .int => true
  | .int, .int => true
  | .str, .str => true
  | .tup, .tup => true
  | .lst, .lst => true
  | .non, .non => true
  | _, _ => false
theorem kit_all (a b : Ty) : kitB a.name b.name = some (isi a b) := by
  cases a <;> cases b <;> decide +kernel
def tyOf : D → Option Ty
  | .non => some .non
  | .bl _ => some .bl
  | .int _ => some .int
  | .str _ => some .str
  | .tup _ => some .tup
  | .lst _ => some .lst
  | _ => none
def gIsi (c : Ty) (st : Sto) (x : D) : Option (D × Bool) := (tyOf (res st x)).map fun (t : Ty) => (D.bl (isi t c), false)
theorem tyX_tup {K : PySem.W.Frag} {H : Hp} {a : Addr} {vs : List V} (h : SqT K H a vs) : TyX K H (.ref a) (.type "tuple") := by
  rcases h with (h | ⟨o, h⟩) | ⟨o, its, n, h1, h2, _⟩
  · exact .base (.tup h)
  · exact .fTuple h
  · exact .kTuple h1 h2
theorem tyOf_ok {K : PySem.W.Frag} {φ : List Addr} {H : Hp} {st : Sto} {x : D} {v : V} {t : Ty} (g : Good K φ H st) (r : RD K φ H x v) (h : tyOf (res st x) = some t) : TyX K H v (.type t.name) := by
  unfold tyOf at h
  split at h
  · rename_i hx; cases h; cases res_non hx; cases r; exact .base .non
  · rename_i hx; cases h; cases res_bl hx; cases r; exact .base (.bl _)
  · rename_i hx; cases h; cases res_int hx; cases r; exact .base (.int _)
  · rename_i hx; cases h; cases res_str hx; cases r; exact .base (.str _)
  · rename_i hx; cases h; cases res_tup hx; obtain ⟨a, vs, rfl, h1, r1, p1⟩ := r.of_tup; exact tyX_tup h1
  · rename_i hx; cases h; obtain ⟨a, vs, rfl, h1, r1, p1⟩ := res_lst g r hx; exact .base (.lst h1)
  · cases h
theorem e_isi {X : Cx} {XA : XAT} {E : L2.St → XK} {c : Ty} {fa : FE} {a : Expr} {cn : Str} {p p2 pos : Pos} (hg : Gl X "isinstance") (hm : X.mg "isinstance" = none) (hg2 : Gl X cn) (hm2 : X.mg cn = none) (hv : bootBuiltins cn = some (.type c.name)) (ha : PE X a (lift X.K XA E fa))
    (hi : bootBuiltins ("isinstance" : Str) = some (.builtin "isinstance")) (hn : cn ≠ "__name__") (hdb : (cn == ("__debug__" : Str)) = false)
    (he : starEach (a :: [.Name cn p2]) X.env = (false, eval a X.env) :: starEach [.Name cn p2] X.env := by rfl) (hpl : (backTo pos (starEach [.Name cn p2] X.env)).any (·.1) = false := by rfl) :
    PE X (.Call (.Name "isinstance" p) [a, .Name cn p2] [] pos) (lift X.K XA E (f1 (gIsi c) fa)) := by
  refine PE.weak (pe_callB call_isi hg hm hi (pa_cons ha (pa_cons (pe_bltn (v := .ty c.name) hg2 hm2 hv rfl hn hdb) pa_nil) he) (by decide) (by decide) he hpl) ?_
  rintro σ H Q ⟨e, st, φ, n, q⟩
  refine RQ.bind n q fun x fx φ1 H1 st1 v1 ef x1 n1 r1 q1 => ?_
  obtain ⟨d, fr, hd, q3⟩ := RQ.of q1
  unfold gIsi at hd
  obtain ⟨t, ht, rfl, rfl⟩ := opt1 (f := fun (t : Ty) => D.bl (isi t c)) hd
  exact ⟨v1, .ty c.name, _, _, isi t c, rfl, .ty _, tyOf_ok n1.good r1 ht, kit_ty (kit_all t c), q3 φ1 H1 _ (Ext.refl _ _) n1.good (.bl _) fun z => by cases z⟩
end EV

set_option Elab.async false
set_option maxRecDepth 100000
set_option maxHeartbeats 2000000
namespace EV
open PySem PySem.Spec PyProof.Rows L2
/-! ### and, or, not, if -/
def kStuck : FE := fun _ _ => .stuck
def kAnd (fb : FE) : D → FE
  | .bl b => if b = true then fb else fC (.bl false)
  | _ => kStuck
def kOr (fb : FE) : D → FE
  | .bl b => if b = true then fC (.bl true) else fb
  | _ => kStuck
def kIf (fa fb : FE) : D → FE
  | .bl b => if b = true then fa else fb
  | _ => kStuck
def fAnd (fa fb : FE) : FE := fBind fa (kAnd fb)
def fOr (fa fb : FE) : FE := fBind fa (kOr fb)
def fIf (fc fa fb : FE) : FE := fBind fc (kIf fa fb)
def gNot (_ : Sto) : D → Option (D × Bool)
  | .bl b => some (.bl (!b), false)
  | _ => none
section
variable {X : Cx} {XA : XAT} {E : L2.St → XK}
theorem lift_of {K : PySem.W.Frag} {φ : List Addr} {H : Hp} {σ : L2.St} {e : Fr} {st : Sto} {f : FE} {Q : VK} (n : Now K φ H σ e st) (q : RQ K XA φ H (E σ) Q (f e st)) : lift K XA E f σ H Q := ⟨e, st, φ, n, q⟩
theorem RQ.c {K : PySem.W.Frag} {φ : List Addr} {H : Hp} {E1 : XK} {Q : VK} {st : Sto} {b : Bool} (g : Good K φ H st) (q : RQ K XA φ H E1 Q (.ok (.bl b) false st)) : Q (.bl b) H := q φ H _ (Ext.refl _ _) g (.bl b) fun z => by cases z
theorem t_andV {K : PySem.W.Frag} {fa fb : FE} {σ : L2.St} {H : Hp} {Q : VK} (h : lift K XA E (fAnd fa fb) σ H Q) : tAndV (lift K XA E fa) (lift K XA E fb) σ H Q := by
  obtain ⟨e, st, φ, n, q⟩ := h
  refine RQ.bind n q fun x fx φ1 H1 st1 v1 ef x1 n1 r1 q1 => ?_
  cases r1 with
  | bl b =>
    refine ⟨b, rfl, ?_⟩
    cases b with
    | true => exact lift_of n1 q1
    | false => exact RQ.c n1.good q1
  | _ => exact q1.elim
theorem t_orV {K : PySem.W.Frag} {fa fb : FE} {σ : L2.St} {H : Hp} {Q : VK} (h : lift K XA E (fOr fa fb) σ H Q) : tOrV (lift K XA E fa) (lift K XA E fb) σ H Q := by
  obtain ⟨e, st, φ, n, q⟩ := h
  refine RQ.bind n q fun x fx φ1 H1 st1 v1 ef x1 n1 r1 q1 => ?_
  cases r1 with
  | bl b =>
    refine ⟨b, rfl, ?_⟩
    cases b with
    | true => exact RQ.c n1.good q1
    | false => exact lift_of n1 q1
  | _ => exact q1.elim
theorem t_and {K : PySem.W.Frag} {fa fb : FE} {σ : L2.St} {H : Hp} {Q : Bool → Hp → Prop} (h : liftT K XA E (fAnd fa fb) σ H Q) : tAnd (liftT K XA E fa) (liftT K XA E fb) σ H Q := by
  obtain ⟨e, st, φ, n, q⟩ := h
  refine RQ.bind n q fun x fx φ1 H1 st1 v1 ef x1 n1 r1 q1 => ?_
  cases r1 with
  | bl b =>
    refine ⟨b, rfl, ?_⟩
    cases b with
    | true => exact lift_of n1 q1
    | false =>
      obtain ⟨c, e, q⟩ := RQ.c n1.good q1
      cases e
      exact q
  | _ => exact q1.elim
theorem t_or {K : PySem.W.Frag} {fa fb : FE} {σ : L2.St} {H : Hp} {Q : Bool → Hp → Prop} (h : liftT K XA E (fOr fa fb) σ H Q) : tOr (liftT K XA E fa) (liftT K XA E fb) σ H Q := by
  obtain ⟨e, st, φ, n, q⟩ := h
  refine RQ.bind n q fun x fx φ1 H1 st1 v1 ef x1 n1 r1 q1 => ?_
  cases r1 with
  | bl b =>
    refine ⟨b, rfl, ?_⟩
    cases b with
    | true =>
      obtain ⟨c, e, q⟩ := RQ.c n1.good q1
      cases e
      exact q
    | false => exact lift_of n1 q1
  | _ => exact q1.elim
variable {a b : Expr} {rest : List Expr} {pos : Pos} {fa fb fc : FE}
theorem e_and (ha : PE X a (lift X.K XA E fa)) (hb : PE X (.BoolOp .And (b :: rest) pos) (lift X.K XA E fb)) : PE X (.BoolOp .And (a :: b :: rest) pos) (lift X.K XA E (fAnd fa fb)) := PE.weak (pe_and ha hb) fun _ _ _ h => t_andV h
theorem e_or (ha : PE X a (lift X.K XA E fa)) (hb : PE X (.BoolOp .Or (b :: rest) pos) (lift X.K XA E fb)) : PE X (.BoolOp .Or (a :: b :: rest) pos) (lift X.K XA E (fOr fa fb)) := PE.weak (pe_or ha hb) fun _ _ _ h => t_orV h
theorem w_and (ha : PT X a (liftT X.K XA E fa)) (hb : PW X (.BoolOp .And (b :: rest) pos) (liftT X.K XA E fb)) : PW X (.BoolOp .And (a :: b :: rest) pos) (liftT X.K XA E (fAnd fa fb)) := PW.weak (pw_and ha hb) fun _ _ _ h => t_and h
theorem w_or (ha : PT X a (liftT X.K XA E fa)) (hb : PW X (.BoolOp .Or (b :: rest) pos) (liftT X.K XA E fb)) : PW X (.BoolOp .Or (a :: b :: rest) pos) (liftT X.K XA E (fOr fa fb)) := PW.weak (pw_or ha hb) fun _ _ _ h => t_or h
theorem g_not {K : PySem.W.Frag} {σ : L2.St} {H : Hp} {Q : VK} (h : lift K XA E (f1 gNot fa) σ H Q) : tNotV (lift K XA E fa) σ H Q := by
  obtain ⟨e, st, φ, n, q⟩ := h
  refine RQ.bind n q fun x fx φ1 H1 st1 v1 ef x1 n1 r1 q1 => ?_
  cases r1 with
  | bl b => exact ⟨b, rfl, q1 φ1 H1 _ (Ext.refl _ _) n1.good (.bl _) fun z => by cases z⟩
  | _ => exact q1.elim
theorem e_not (ha : PE X a (lift X.K XA E fa)) : PE X (.UnaryOp .Not a pos) (lift X.K XA E (f1 gNot fa)) := PE.weak (pe_not ha) fun _ _ _ h => g_not h
theorem t_not (ha : PT X a (liftT X.K XA E fa)) : PT X (.UnaryOp .Not a pos) (liftT X.K XA E (f1 gNot fa)) := by
  refine PT.weak (pt_not ha) ?_
  rintro σ H Q ⟨e, st, φ, n, q⟩
  refine RQ.bind n q fun x fx φ1 H1 st1 v1 ef x1 n1 r1 q1 => ?_
  cases r1 with
  | bl b =>
    obtain ⟨c, e, q⟩ := q1 φ1 H1 _ (Ext.refl _ _) n1.good (.bl _) fun z => by cases z
    cases e
    exact ⟨b, rfl, q⟩
  | _ => exact q1.elim
theorem t_val {e : Expr} {f : FE} (h : PE X e (lift X.K XA E f)) (he : ∀ whole, isTrue e X.env whole = (do let v ← whole; standAt e.pos; holding [v] (truthy v)) := by intro _; rfl) : PT X e (liftT X.K XA E f) := pt_val h he
theorem e_if {c : Expr} (hc : PT X c (liftT X.K XA E fc)) (ha : PE X a (lift X.K XA E fa)) (hb : PE X b (lift X.K XA E fb)) : PE X (.IfExp c a b pos) (lift X.K XA E (fIf fc fa fb)) := by
  refine PE.weak (pe_ifExp hc ha hb) ?_
  rintro σ H Q ⟨e, st, φ, n, q⟩
  refine RQ.bind n q fun x fx φ1 H1 st1 v1 ef x1 n1 r1 q1 => ?_
  cases r1 with
  | bl b =>
    refine ⟨b, rfl, ?_⟩
    cases b with
    | true => exact lift_of n1 q1
    | false => exact lift_of n1 q1
  | _ => exact q1.elim
/-! ### a op b op' c -/
def fChain (g g' : Sto → D → D → Option (D × Bool)) (fa fb fc : FE) : FE := fBind fa fun x => fBind fb fun y => fun e st => match g st x y with
  | some (.bl b, _) => if b = true then fBind fc (fun z _ st' => ofO st' (g' st' y z)) e st else .ok (.bl false) false st
  | _ => .stuck
theorem t_chain {op op' : CmpOp} {r r' : R2} {g g' : Sto → D → D → Option (D × Bool)} {c : Expr} (ho : OpR X (compareOp op) r) (ho' : OpR X (compareOp op') r') (hg : Op2 X.K r g) (hg' : Op2 X.K r' g') (ha : PE X a (lift X.K XA E fa)) (hb : PE X b (lift X.K XA E fb)) (hc : PE X c (lift X.K XA E fc))
    (hm : lastMarks [op, op'] [b, c] = false := by with_unfolding_all rfl) : PE X (.Compare a [op, op'] [b, c] pos) (lift X.K XA E (fChain g g' fa fb fc)) := by
  refine PE.weak (pe_chain ho ho' ha hb hc hm) ?_
  rintro σ H Q ⟨e, st, φ, n, q⟩
  refine RQ.bind n q fun x fx φ1 H1 st1 v1 ef x1 n1 r1 q1 => ?_
  refine RQ.bind n1 q1 fun y fy φ2 H2 st2 v2 ef2 x2 n2 r2 q2 => ?_
  split at q2
  · rename_i b2 fr2 hb2
    refine hg φ2 H2 st2 x y _ v1 v2 _ _ n2.good (r1.keep x2 n1.good.notup) r2 hb2 fun H3 v3 x3 g3 r3 f3 => ?_
    cases r3
    refine ⟨b2, rfl, ?_⟩
    have n3 := n2.keep x3 g3
    split at q2
    · rename_i hb3
      subst hb3
      refine RQ.bind n3 (RQ.mono x3 q2 fun _ _ z => z) fun z fz φ4 H4 st4 v4 ef4 x4 n4 r4 q4 => ?_
      obtain ⟨d, fr, hd, q5⟩ := RQ.of q4
      exact hg' φ4 H4 st4 y z d v2 v4 fr Q n4.good ((r2.keep x3 n2.good.notup).keep x4 n3.good.notup) r4 hd fun H' v x5 g5 r5 f5 => q5 φ4 H' v x5 g5 r5 f5
    · rename_i hb3
      rw [if_neg hb3]
      exact q2 φ2 H3 _ x3 g3 (.bl _) fun z => by cases z
  · exact q2.elim
end
/-! ### slices -/
def cutD {α : Type} (xs : List α) (lo hi : Option Int) : List α := (xs.drop (HT.sIx xs.length 0 lo)).take (HT.sIx xs.length xs.length hi - HT.sIx xs.length 0 lo)
def gSl (st : Sto) (x : D) (lo hi : Option Int) : Option (D × Bool) := match res st x with
  | .tup ds => some (.tup (cutD ds lo hi), false)
  | .lst ds => some (.lst (cutD ds lo hi), true)
  | .str z => if z.length ≤ SZ then some (.str (cutD z lo hi), false) else none
  | .scr ns => some (.lst ((cutD ns lo hi).map .int), true)
  | _ => none
def rSl (K : PySem.W.Frag) : V → Option Int → Option Int → Hp → VK → Prop := fun x lo hi H Q => (rSlA K x lo hi H Q ∨ rSlL K x lo hi H Q) ∨ rSlS x lo hi H Q
theorem sl_all {X : Cx} : SlR X (rSl X.K) := (SlR.or (SlR.or sl_tupA sl_list) sl_str)
theorem all_sub {ds : List D} (h : ds.all isP = true) (n m : Nat) : ((ds.drop n).take m).all isP = true := by
  rw [List.all_eq_true] at h ⊢
  exact fun x hx => h x (List.mem_of_mem_drop (List.mem_of_mem_take hx))
theorem cutD_whole {α : Type} (xs : List α) {lo hi : Option Int} (h : HT.sIx xs.length 0 lo = 0 ∧ HT.sIx xs.length xs.length hi = xs.length) : cutD xs lo hi = xs := by
  unfold cutD
  rw [h.1, h.2]
  simp
theorem rds_ints {K : PySem.W.Frag} {φ : List Addr} {H : Hp} : ∀ (ns : List Int), RDs K φ H (ns.map .int) (ns.map V.int)
  | [] => .nil
  | n :: ns => .cons (.int n) (rds_ints ns)
theorem all_ints : ∀ (ns : List Int), (ns.map D.int).all isP = true
  | [] => rfl
  | n :: ns => by rw [List.map_cons, List.all_cons, all_ints ns]; rfl
theorem g_sl {K : PySem.W.Frag} {φ : List Addr} {H : Hp} {st : Sto} {x d : D} {vx : V} {fr : Bool} {lo hi : Option Int} {Q : VK} (g : Good K φ H st) (rx : RD K φ H x vx) (hd : gSl st x lo hi = some (d, fr))
    (q : ∀ H' v, Ext φ φ H H' → Good K φ H' st → RD K φ H' d v → (fr = true → Frs K H φ H' st d v) → Q v H') : rSl K vx lo hi H Q := by
  unfold gSl at hd
  split at hd
  · rename_i ds hx
    cases hd
    cases res_tup hx
    obtain ⟨a, vs, rfl, h1, r1, p1⟩ := rx.of_tup
    refine .inl (.inl ⟨a, vs, rfl, h1, fun w => ?_, fun w p hp => ?_⟩)
    · rw [← r1.length] at w
      rw [cutD_whole ds w] at q
      exact q H _ (Ext.refl _ _) g (.tup h1 r1 p1) fun z => by cases z
    · have r2 : RDs K φ H (cutD ds lo hi) (cutV vs lo hi) := by
        unfold cutD cutV
        rw [r1.length]
        exact (r1.drop _).take _
      obtain ⟨x1, x2, x3⟩ := new_tup g hp r2 (all_sub p1 _ _)
      exact q _ _ x1 x2 x3 fun z => by cases z
  · rename_i ds hx
    cases hd
    obtain ⟨a, vs, rfl, h1, r1, p1⟩ := res_lst g rx hx
    refine .inl (.inr ⟨a, vs, rfl, SqL.of h1, fun p hp => ?_⟩)
    have r2 : RDs K φ H (cutD ds lo hi) (cutV vs lo hi) := by
      unfold cutD cutV
      rw [r1.length]
      exact (r1.drop _).take _
    obtain ⟨x1, x2, x3, x4⟩ := new_lst g hp r2 (all_sub p1 _ _)
    exact q _ _ x1 x2 x3 fun _ => x4
  · rename_i z hx
    split at hd
    · rename_i hz
      cases hd
      cases res_str hx
      cases rx
      refine .inr ⟨_, rfl, by rw [str_len, sz_eq]; exact hz, ?_⟩
      have e : cutS ⟨z.toArray⟩ lo hi = ⟨(cutD z lo hi).toArray⟩ := by
        unfold cutS cutD
        rw [str_len]
      rw [e]
      exact q H _ (Ext.refl _ _) g (.str _) fun z => by cases z
    · cases hd
  · rename_i ns hx
    cases hd
    cases res_scr hx
    cases rx with
    | scr h1 =>
      refine .inl (.inr ⟨_, _, rfl, h1.sq, fun p hp => ?_⟩)
      have e : cutV (ns.map V.int) lo hi = (cutD ns lo hi).map V.int := by
        unfold cutV cutD
        rw [List.length_map, List.map_take, List.map_drop]
      rw [e]
      obtain ⟨x1, x2, x3, x4⟩ := new_lst g hp (rds_ints (cutD ns lo hi)) (all_ints _)
      exact q _ _ x1 x2 x3 fun _ => x4
  · cases hd
/-- a part of a slice that is left out, or an int -/
def fPart (o : Option FE) (k : Option Int → FE) : FE := match o with
  | none => k none
  | some f => fBind f fun d => match d with
    | .int i => k (some i)
    | _ => kStuck
def fSl (f : FE) (lo hi : Option FE) : FE := fBind f fun x => fPart lo fun l => fPart hi fun u => fun _ st => ofO st (gSl st x l u)
/-- the parts' readings -/
def tPt (K : PySem.W.Frag) (XA : XAT) (E : L2.St → XK) : Option FE → TO
  | none => tNoPart
  | some f => tPart (lift K XA E f)
section
variable {X : Cx} {XA : XAT} {E : L2.St → XK}
theorem RQ.part {K : PySem.W.Frag} {φ : List Addr} {H : Hp} {σ : L2.St} {e : Fr} {st : Sto} {o : Option FE} {k : Option Int → FE} {Q : VK} (n : Now K φ H σ e st) (h : RQ K XA φ H (E σ) Q (fPart o k e st)) {T : Option Int → Hp → Prop}
    (hT : ∀ i φ1 H1 st1, Ext φ φ1 H H1 → Now K φ1 H1 σ e st1 → RQ K XA φ1 H1 (E σ) Q (k i e st1) → T i H1) : tPt K XA E o σ H T := by
  cases o with
  | none => exact hT none φ H st (Ext.refl _ _) n h
  | some f =>
    refine RQ.bind (k := fun d => match d with
      | .int i => k (some i)
      | _ => kStuck) n h fun x fx φ1 H1 st1 v1 ef x1 n1 r1 q1 => ?_
    cases r1 with
    | int i => exact ⟨i, rfl, hT (some i) φ1 H1 st1 x1 n1 q1⟩
    | _ => exact q1.elim
theorem e_sl {f : FE} {lo hi : Option FE} {a : Expr} {l u : Option Expr} {p2 pos : Pos} (ha : PE X a (lift X.K XA E f)) (hl : PO X l (tPt X.K XA E lo)) (hu : PO X u (tPt X.K XA E hi)) : PE X (.Subscript a (.Slice l u none p2) pos) (lift X.K XA E (fSl f lo hi)) := by
  refine PE.weak (pe_slice sl_all ha hl hu) ?_
  rintro σ H Q ⟨e, st, φ, n, q⟩
  refine RQ.bind n q fun x fx φ1 H1 st1 v1 ef x1 n1 r1 q1 => ?_
  refine RQ.part n1 q1 fun i φ2 H2 st2 x2 n2 q2 => ?_
  refine RQ.part n2 q2 fun j φ3 H3 st3 x3 n3 q3 => ?_
  obtain ⟨d, fr, hd, q4⟩ := RQ.of q3
  exact g_sl n3.good ((r1.keep x2 n1.good.notup).keep x3 n2.good.notup) hd fun H' v x5 g5 r5 f5 => q4 φ3 H' v x5 g5 r5 f5
theorem o_none : PO X none (tPt X.K XA E none) := po_none
theorem o_some {f : FE} {a : Expr} (h : PE X a (lift X.K XA E f)) : PO X (some a) (tPt X.K XA E (some f)) := po_some h
end
end EV

set_option Elab.async false
set_option maxRecDepth 100000
set_option maxHeartbeats 2000000
namespace EV
open PySem PySem.Spec PyProof.Rows L2
/-! ### dicts -/
def lbeq : List Nat → List Nat → Bool
  | [], [] => true
  | a :: as, b :: bs => Nat.beq a b && lbeq as bs
  | _, _ => false
theorem lbeq_iff : ∀ {a b : List Nat}, lbeq a b = true ↔ a = b
  | [], [] => by simp [lbeq]
  | [], _ :: _ => by simp [lbeq]
  | _ :: _, [] => by simp [lbeq]
  | a :: as, b :: bs => by simp [lbeq, lbeq_iff (a := as) (b := bs)]
def keqb : K1 → K1 → Bool
  | .inl i, .inl j => i == j
  | .inr a, .inr b => lbeq a b
  | _, _ => false
theorem keqb_iff {a b : K1} : keqb a b = true ↔ a.key = b.key := by
  cases a <;> cases b <;> simp [keqb, K1.key, lbeq_iff]
theorem keqb_dec (a b : K1) : decide (a.key = b.key) = keqb a b := by
  rw [Bool.eq_iff_iff, decide_eq_true_iff, keqb_iff]
def toK : D → Option K1
  | .int i => some (.inl i)
  | .str s => some (.inr s)
  | _ => none
def lkD (kvs : List (K1 × D)) (k : K1) : Option D := match kvs with
  | [] => none
  | (k', d) :: r => if keqb k' k = true then some d else lkD r k
def putD (kvs : List (K1 × D)) (k : K1) (d : D) : List (K1 × D) := if (kvs.any fun kv => keqb kv.1 k) = true then kvs.map (fun kv => if keqb kv.1 k = true then (kv.1, d) else kv) else kvs ++ [(k, d)]
section
variable {K : PySem.W.Frag} {φ : List Addr} {H : Hp} {st : Sto}
theorem toK_rd {x : D} {k : K1} {v : V} (r : RD K φ H x v) (h : toK x = some k) : v = kV k.key := by
  cases r <;> first | (cases h; rfl) | cases h
theorem lkD_ok {k : K1} : ∀ {kvs : List (K1 × D)} {kus : List (Key × V)}, RKs K φ H kvs kus → (∀ d, lkD kvs k = some d → ∃ v, valV kus k.key = some v ∧ RD K φ H d v ∧ isP d = true) ∧ (lkD kvs k = none → valV kus k.key = none)
  | _, _, .nil => ⟨fun d h => (by cases h), fun _ => rfl⟩
  | _, _, .cons (k := k') (d := d') r p rs => by
    unfold lkD
    by_cases e : keqb k' k = true
    · rw [if_pos e]
      have e2 := keqb_iff.mp e
      exact ⟨fun d h => (by cases h; exact ⟨_, valV_pos e2, r, p⟩), fun h => (by cases h)⟩
    · rw [if_neg e]
      have e2 : ¬ k'.key = k.key := fun z => e (keqb_iff.mpr z)
      rw [valV_neg e2]
      exact lkD_ok rs
theorem any_key {k : K1} : ∀ {kvs : List (K1 × D)} {kus : List (Key × V)}, RKs K φ H kvs kus → (kus.any fun kv => decide (kv.1 = k.key)) = (kvs.any fun kv => keqb kv.1 k)
  | _, _, .nil => rfl
  | _, _, .cons r p rs => by
    rw [List.any_cons, List.any_cons, any_key rs, keqb_dec]
theorem map_key {k : K1} {d : D} {v : V} (rd : RD K φ H d v) (pd : isP d = true) : ∀ {kvs : List (K1 × D)} {kus : List (Key × V)}, RKs K φ H kvs kus →
    RKs K φ H (kvs.map fun kv => if keqb kv.1 k = true then (kv.1, d) else kv) (kus.map fun kv => if kv.1 = k.key then (kv.1, v) else kv)
  | _, _, .nil => .nil
  | _, _, .cons (k := k') r p rs => by
    rw [List.map_cons, List.map_cons]
    by_cases e : keqb k' k = true
    · rw [if_pos e, if_pos (keqb_iff.mp e)]
      exact .cons rd pd (map_key rd pd rs)
    · rw [if_neg e, if_neg fun z => e (keqb_iff.mpr z)]
      exact .cons r p (map_key rd pd rs)
theorem RKs.append : ∀ {as bs : List (K1 × D)} {us vs : List (Key × V)}, RKs K φ H as us → RKs K φ H bs vs → RKs K φ H (as ++ bs) (us ++ vs)
  | _, _, _, _, .nil, s => s
  | _, _, _, _, .cons h p r, s => .cons h p (RKs.append r s)
theorem RKs.length : ∀ {as : List (K1 × D)} {us : List (Key × V)}, RKs K φ H as us → as.length = us.length
  | _, _, .nil => rfl
  | _, _, .cons h p r => congrArg (· + 1) (RKs.length r)
theorem putD_ok {k : K1} {d : D} {v : V} (rd : RD K φ H d v) (pd : isP d = true) {kvs : List (K1 × D)} {kus : List (Key × V)} (r : RKs K φ H kvs kus) : RKs K φ H (putD kvs k d) (putK kus k.key v) := by
  unfold putD putK
  rw [any_key r]
  split
  · exact map_key rd pd r
  · exact r.append (.cons rd pd .nil)
theorem putD_len (kvs : List (K1 × D)) (k : K1) (d : D) : (putD kvs k d).length ≤ kvs.length + 1 := by
  unfold putD
  split
  · rw [List.length_map]; omega
  · rw [List.length_append]; exact Nat.le_refl _
theorem isDc_get {x : D} {v : V} {kvs : List (K1 × D)} (g : Good K φ H st) (r : RD K φ H x v) (h : res st x = .dic kvs) : ∃ a kus, v = .ref a ∧ Rd H a (.dK kus) ∧ RKs K φ H kvs kus := res_dic g r h
end
def dicOf (st : Sto) (x : D) : Option (List (K1 × D)) := match res st x with
  | .dic kvs => some kvs
  | _ => none
theorem dicOf_some {st : Sto} {x : D} {kvs : List (K1 × D)} (h : dicOf st x = some kvs) : res st x = .dic kvs := by
  unfold dicOf at h
  split at h
  · rename_i z; cases h; exact z
  · cases h
/-- d[k] -/
def gDGet (st : Sto) (x y : D) : Option (D × Bool) := match dicOf st x, toK y with
  | some kvs, some k => (lkD kvs k).map fun d => (d, false)
  | _, _ => none
/-- d.get(k), d.get(k, z) -/
def gDGet1 (st : Sto) (x y : D) : Option (D × Bool) := match dicOf st x, toK y with
  | some kvs, some k => some ((lkD kvs k).getD .non, false)
  | _, _ => none
def gDGet2 (st : Sto) (x y z : D) : Option (D × Bool) := match dicOf st x, toK y with
  | some kvs, some k => some ((lkD kvs k).getD z, false)
  | _, _ => none
def gDIn (neg : Bool) (st : Sto) (y x : D) : Option (D × Bool) := match dicOf st x, toK y with
  | some kvs, some k => some (.bl (if neg then !(lkD kvs k).isSome else (lkD kvs k).isSome), false)
  | _, _ => none
def f3 (g : Sto → D → D → D → Option (D × Bool)) (fa fb fc : FE) : FE := fBind fa fun x => fBind fb fun y => fBind fc fun z => fun _ st => ofO st (g st x y z)
/-- x names a dict at every moment (its kind does not change) -/
def isDic (st : Sto) (x : D) : Bool := (dicOf st x).isSome
/-- the receiver is looked at ahead of the arguments -/
def fRecv (t : Sto → D → Bool) (fa : FE) (k : D → FE) : FE := fBind fa fun x e st => if t st x = true then k x e st else .stuck
section
variable {X : Cx} {XA : XAT} {E : L2.St → XK} {fa fb fc : FE} {o i f : Expr} {pos apos cpos : Pos}
theorem e_dget (hu : X.A.units + 1 < cLine) (ho : PE X o (lift X.K XA E fa)) (hi : PE X i (lift X.K XA E fb)) (hs : NoSl i) : PE X (.Subscript o i pos) (lift X.K XA E (f2 gDGet fa fb)) := by
  refine PE.weak (pe_dget hu ho hi hs) ?_
  rintro σ H Q ⟨e, st, φ, n, q⟩
  refine RQ.bind n q fun x fx φ1 H1 st1 v1 ef x1 n1 r1 q1 => ?_
  refine RQ.bind n1 q1 fun y fy φ2 H2 st2 v2 ef2 x2 n2 r2 q2 => ?_
  obtain ⟨d, fr, hd, q3⟩ := RQ.of q2
  unfold gDGet at hd
  split at hd
  · rename_i kvs k hx hk
    obtain ⟨d', h, rfl, rfl⟩ := opt1 (f := fun d => d) hd
    obtain ⟨a, kus, rfl, h1, r3⟩ := res_dic n2.good (r1.keep x2 n1.good.notup) (dicOf_some hx)
    obtain ⟨v, hv, rv, _⟩ := (lkD_ok r3).1 d h
    exact ⟨a, v, rfl, .inl ⟨kus, k.key, h1, toK_rd r2 hk, hv.symm⟩, q3 φ2 H2 v (Ext.refl _ _) n2.good rv fun z => by cases z⟩
  · cases hd
theorem e_dget1 (hu : X.A.units + 1 < cLine) (ho : PE X o (lift X.K XA E fa)) (hi : PE X i (lift X.K XA E fb)) (m : M1 X o "get" apos i cpos) : PE X (.Call (.Attribute o "get" apos) [i] [] cpos) (lift X.K XA E (fRecv isDic fa fun x => fBind fb fun y _ st => ofO st (gDGet1 st x y))) := by
  refine PE.weak (pe_dget1 hu ho hi m) ?_
  rintro σ H Q ⟨e, st, φ, n, q⟩
  refine RQ.bind n q fun x fx φ1 H1 st1 v1 ef x1 n1 r1 q1 => ?_
  split at q1
  · rename_i hd1
    unfold isDic at hd1
    cases hk1 : dicOf st1 x with
    | none => rw [hk1] at hd1; cases hd1
    | some kvs1 =>
      obtain ⟨a, kus1, rfl, h1, _⟩ := res_dic n1.good r1 (dicOf_some hk1)
      refine ⟨a, rfl, .inl ⟨_, h1⟩, ?_⟩
      refine RQ.bind n1 q1 fun y fy φ2 H2 st2 v2 ef2 x2 n2 r2 q2 => ?_
      obtain ⟨d, fr, hd, q3⟩ := RQ.of q2
      unfold gDGet1 at hd
      split at hd
      · rename_i kvs k hx hk
        cases hd
        obtain ⟨a', kus, ea, h2, r3⟩ := res_dic n2.good (r1.keep x2 n1.good.notup) (dicOf_some hx)
        cases ea
        refine ⟨valV kus k.key, .inl ⟨kus, k.key, h2, toK_rd r2 hk, rfl⟩, ?_⟩
        cases hl : lkD kvs k with
        | none =>
          rw [(lkD_ok r3).2 hl]
          rw [hl] at q3
          exact q3 φ2 H2 _ (Ext.refl _ _) n2.good .non fun z => by cases z
        | some d =>
          obtain ⟨v, hv, rv, _⟩ := (lkD_ok r3).1 d hl
          rw [hv]
          rw [hl] at q3
          exact q3 φ2 H2 v (Ext.refl _ _) n2.good rv fun z => by cases z
      · cases hd
  · exact q1.elim
theorem e_dget2 (hu : X.A.units + 1 < cLine) (ho : PE X o (lift X.K XA E fa)) (hi : PE X i (lift X.K XA E fb)) (hf : PE X f (lift X.K XA E fc)) (m : M2 X o "get" apos i f cpos) : PE X (.Call (.Attribute o "get" apos) [i, f] [] cpos) (lift X.K XA E (fRecv isDic fa fun x => fBind fb fun y => fBind fc fun z _ st => ofO st (gDGet2 st x y z))) := by
  refine PE.weak (pe_dget2 hu ho hi hf m) ?_
  rintro σ H Q ⟨e, st, φ, n, q⟩
  refine RQ.bind n q fun x fx φ1 H1 st1 v1 ef x1 n1 r1 q1 => ?_
  split at q1
  · rename_i hd1
    unfold isDic at hd1
    cases hk1 : dicOf st1 x with
    | none => rw [hk1] at hd1; cases hd1
    | some kvs1 =>
      obtain ⟨a, kus1, rfl, h1, _⟩ := res_dic n1.good r1 (dicOf_some hk1)
      refine ⟨a, rfl, .inl ⟨_, h1⟩, ?_⟩
      refine RQ.bind n1 q1 fun y fy φ2 H2 st2 v2 ef2 x2 n2 r2 q2 => ?_
      refine RQ.bind n2 q2 fun z fz φ3 H3 st3 v3 ef3 x3 n3 r3' q2 => ?_
      obtain ⟨d, fr, hd, q3⟩ := RQ.of q2
      unfold gDGet2 at hd
      split at hd
      · rename_i kvs k hx hk
        cases hd
        obtain ⟨a', kus, ea, h2, r3⟩ := res_dic n3.good ((r1.keep x2 n1.good.notup).keep x3 n2.good.notup) (dicOf_some hx)
        cases ea
        refine ⟨valV kus k.key, .inl ⟨kus, k.key, h2, toK_rd r2 hk, rfl⟩, ?_⟩
        cases hl : lkD kvs k with
        | none =>
          rw [(lkD_ok r3).2 hl]
          rw [hl] at q3
          exact q3 φ3 H3 _ (Ext.refl _ _) n3.good r3' fun z => by cases z
        | some d =>
          obtain ⟨v, hv, rv, _⟩ := (lkD_ok r3).1 d hl
          rw [hv]
          rw [hl] at q3
          exact q3 φ3 H3 v (Ext.refl _ _) n3.good rv fun z => by cases z
      · cases hd
  · exact q1.elim
theorem d_in {K : PySem.W.Frag} {neg : Bool} {σ : L2.St} {H : Hp} {Q : VK} (h : lift K XA E (f2 (gDIn neg) fb fa) σ H Q) :
    lift K XA E fb σ H fun y H1 => lift K XA E fa σ H1 fun x H2 => ∃ a o, x = .ref a ∧ DGet H2 a y o ∧ Q (.bl (if neg then !o.isSome else o.isSome)) H2 := by
  obtain ⟨e, st, φ, n, q⟩ := h
  refine RQ.bind n q fun y fy φ1 H1 st1 v1 ef x1 n1 r1 q1 => ?_
  refine RQ.bind n1 q1 fun x fx φ2 H2 st2 v2 ef2 x2 n2 r2 q2 => ?_
  obtain ⟨d, fr, hd, q3⟩ := RQ.of q2
  unfold gDIn at hd
  split at hd
  · rename_i kvs k hx hk
    cases hd
    obtain ⟨a, kus, rfl, h1, r3⟩ := res_dic n2.good r2 (dicOf_some hx)
    refine ⟨a, valV kus k.key, rfl, .inl ⟨kus, k.key, h1, toK_rd (r1.keep x2 n1.good.notup) hk, rfl⟩, ?_⟩
    have e : (valV kus k.key).isSome = (lkD kvs k).isSome := by
      cases hl : lkD kvs k with
      | none => rw [(lkD_ok r3).2 hl] <;> rfl
      | some d => obtain ⟨v, hv, _⟩ := (lkD_ok r3).1 d hl; rw [hv] <;> rfl
    rw [e]
    exact q3 φ2 H2 _ (Ext.refl _ _) n2.good (.bl _) fun z => by cases z
  · cases hd
theorem t_din (hu : X.A.units + 1 < cLine) (hi : PE X i (lift X.K XA E fb)) (ho : PE X o (lift X.K XA E fa)) (h1 : behindInMarks .In o = false := by first | exact nobehind _ (by decide) (by decide) | rfl) : PT X (.Compare i [.In] [o] pos) (liftT X.K XA E (f2 (gDIn false) fb fa)) :=
  PT.weak (pt_cmp (pc_din hu hi ho) h1) fun σ H Q h => d_in h
theorem t_dnotin (hu : X.A.units + 1 < cLine) (hi : PE X i (lift X.K XA E fb)) (ho : PE X o (lift X.K XA E fa)) (h1 : behindInMarks .NotIn o = false := by first | exact nobehind _ (by decide) (by decide) | rfl) : PT X (.Compare i [.NotIn] [o] pos) (liftT X.K XA E (f2 (gDIn true) fb fa)) :=
  PT.weak (pt_cmp (pc_dnotin hu hi ho) h1) fun σ H Q h => d_in h
end
end EV

set_option Elab.async false
set_option maxRecDepth 100000
set_option maxHeartbeats 2000000
namespace EV
open PySem PySem.Spec PyProof.Rows L2
/-! ### a new list or dict becomes a cell -/
def fCell (f : FE) : FE := fun e st => match f e st with
  | .ok d true st' => (match toCO d with
    | some c => .ok (.cell st'.length) false (st' ++ [c])
    | none => .stuck)
  | .ok _ false _ => .stuck
  | r => r
section
variable {X : Cx} {XA : XAT} {E : L2.St → XK}
theorem e_cell {f : FE} {a : Expr} (h : PE X a (lift X.K XA E f)) : PE X a (lift X.K XA E (fCell f)) := by
  refine PE.weak h ?_
  rintro σ H Q ⟨e, st, φ, n, q⟩
  refine ⟨e, st, φ, n, ?_⟩
  unfold fCell at q
  cases hf : f e st with
  | stuck => rw [hf] at q; exact q
  | exc c d st1 => rw [hf] at q; exact q
  | ok d fr st1 =>
    rw [hf] at q
    cases fr with
    | false => exact q.elim
    | true =>
      simp only [] at q
      intro φ1 H1 v x1 g1 r1 f1
      obtain ⟨a, c, rfl, hn, hc, g2⟩ := f1 rfl
      rw [hc] at q
      refine q (φ1 ++ [a]) H1 _ ⟨⟨x1.pre.trans (List.prefix_append _ _), fun b m nm => ?_, x1.keep, x1.keepL, x1.dom⟩, x1.keepK, x1.keepT, x1.keepF⟩ g2 (.cell ?_) fun z => by cases z
      · rcases List.mem_append.mp m with m | m
        · exact x1.new b m nm
        · rw [List.mem_singleton.mp m]; exact hn
      · rw [← g1.len, List.getElem?_concat_length]
end
/-! ### targets -/
abbrev FG := D → List (Option D) → Option (List (Option D))
abbrev FGs := List D → List (Option D) → Option (List (Option D))
def gN (i : Nat) : FG := fun d s => some (s.set i (some d))
def gsN : FGs := fun ds s => match ds with
  | [] => some s
  | _ => none
def gsC (g : FG) (gs : FGs) : FGs := fun ds s => match ds with
  | d :: r => (match g d s with
    | some s' => gs r s'
    | none => none)
  | [] => none
def itemsOf : D → Option (List D)
  | .tup ds => some ds
  | _ => none
def gT (n : Nat) (gs : FGs) : FG := fun d s => match itemsOf d with
  | some ds => if ds.length = n then gs ds s else none
  | none => none
/-- σ' differs from σ in the slots sl alone -/
def Only2 (sl : List Nat) (σ σ' : L2.St) : Prop := ∀ vs : List Nat, (∀ i ∈ sl, i ∈ vs) → wipe σ' vs = wipe σ vs
theorem wipe_get (σ : L2.St) (j : Nat) : ∀ vs : List Nat, (wipe σ vs)[j]? = if j ∈ vs then (σ[j]?).map (fun _ => none) else σ[j]?
  | [] => by simp [wipe]
  | v :: vs => by
    unfold wipe
    rw [List.getElem?_set, wipe_length, wipe_get σ j vs]
    by_cases h : v = j
    · subst h
      rw [if_pos rfl, if_pos List.mem_cons_self]
      by_cases hl : v < σ.length
      · rw [if_pos hl, List.getElem?_eq_getElem hl]; rfl
      · rw [if_neg hl, List.getElem?_eq_none (by omega)]; rfl
    · rw [if_neg h]
      by_cases hm : j ∈ vs
      · rw [if_pos hm, if_pos (List.mem_cons_of_mem _ hm)]
      · rw [if_neg hm, if_neg (by simp only [List.mem_cons, not_or]; exact ⟨fun z => h z.symm, hm⟩)]
theorem wipe_wipe (σ : L2.St) (vs : List Nat) : wipe (wipe σ vs) vs = wipe σ vs := by
  apply List.ext_getElem?
  intro j
  rw [wipe_get (wipe σ vs) j vs]
  by_cases hm : j ∈ vs
  · rw [if_pos hm, wipe_get σ j vs, if_pos hm]
    cases σ[j]? <;> rfl
  · rw [if_neg hm]
theorem wipe_set {σ : L2.St} {i : Nat} {o : Option V} {vs : List Nat} (h : i ∈ vs) : wipe (σ.set i o) vs = wipe σ vs := by
  apply List.ext_getElem?
  intro j
  rw [wipe_get, wipe_get]
  by_cases hm : j ∈ vs
  · rw [if_pos hm, if_pos hm, List.getElem?_set]
    by_cases z : i = j
    · subst z
      rw [if_pos rfl]
      by_cases hl : i < σ.length
      · rw [if_pos hl, List.getElem?_eq_getElem hl]; rfl
      · rw [if_neg hl, List.getElem?_eq_none (by omega)]
    · rw [if_neg z]
  · rw [if_neg hm, if_neg hm, List.getElem?_set_ne fun z => hm (by rw [← z]; exact h)]
structure GL (X : Cx) (tg : Expr) (g : FG) (sl : List Nat) : Prop where
  ex : ∃ t : TG, PG X tg t ∧ ∀ φ H s σ d v s' Q, Rel X.K φ H s σ → RD X.K φ H d v → g d s = some s' → (∀ σ', Rel X.K φ H s' σ' → Only2 sl σ σ' → Q σ' H) → t v σ H Q
structure GLs (X : Cx) (tgs : List Expr) (g : FGs) (sl : List Nat) : Prop where
  ex : ∃ t : TGs, PGs X tgs t ∧ ∀ φ H s σ ds vs s' Q, Rel X.K φ H s σ → RDs X.K φ H ds vs → g ds s = some s' → (∀ σ', Rel X.K φ H s' σ' → Only2 sl σ σ' → Q σ' H) → t vs σ H Q
section
variable {X : Cx}
theorem gl_name {i : Nat} {x : Str} {pos : Pos} (h : PG X (.Name x pos) (gName i)) : GL X (.Name x pos) (gN i) [i] := ⟨gName i, h, fun φ H s σ d v s' Q r rd hg q => by
  cases hg
  exact q _ (r.set rd i) fun vs hv => wipe_set (hv i List.mem_cons_self)⟩
theorem gls_nil : GLs X [] gsN [] := ⟨gNil, pgs_nil, fun φ H s σ ds vs s' Q r rd hg q => by
  cases rd with
  | nil => cases hg; exact ⟨rfl, q _ r fun _ _ => rfl⟩
  | cons _ _ => cases hg⟩
theorem gls_cons {tg : Expr} {tgs : List Expr} {g : FG} {gs : FGs} {sl sls : List Nat} (h : GL X tg g sl) (hs : GLs X tgs gs sls) (hst : assignEach (tg :: tgs) X.env = (false, assign tg X.env) :: assignEach tgs X.env := by rfl) : GLs X (tg :: tgs) (gsC g gs) (sl ++ sls) := by
  obtain ⟨t, p, z⟩ := h.ex
  obtain ⟨ts, ps, zs⟩ := hs.ex
  refine ⟨gCons t ts, pgs_cons p ps (by rw [hst]; rfl), fun φ H s σ ds vs s' Q r rd hg q => ?_⟩
  cases rd with
  | nil => cases hg
  | cons rd rds =>
    unfold gsC at hg
    simp only [] at hg
    split at hg
    · rename_i s1 h1
      exact ⟨_, _, rfl, z φ H s σ _ _ s1 _ r rd h1 fun σ1 r1 o1 => zs φ H s1 σ1 _ _ s' Q r1 rds hg fun σ2 r2 o2 => q σ2 r2 fun vs hv => (o2 vs fun i m => hv i (List.mem_append_right _ m)).trans (o1 vs fun i m => hv i (List.mem_append_left _ m))⟩
    · cases hg
theorem itemsOf_ok {K : PySem.W.Frag} {φ : List Addr} {H : Hp} {d : D} {v : V} {ds : List D} (r : RD K φ H d v) (h : itemsOf d = some ds) : ∃ a vs, v = .ref a ∧ SqT K H a vs ∧ RDs K φ H ds vs := by
  cases r with
  | tup h1 r1 p1 => cases h; exact ⟨_, _, rfl, h1, r1⟩
  | _ => cases h
theorem gl_tup {es : List Expr} {k n : Nat} {pos : Pos} {gs : FGs} {sl : List Nat} (hc : X.calm = true) (h : GLs X es gs sl) (hn : (assignEach es X.env).length = n := by rfl) (hst : (assignEach es X.env).findIdx? (·.1) = none := by rfl) : GL X (.Tuple es k pos) (gT n gs) sl := by
  obtain ⟨ts, ps, zs⟩ := h.ex
  refine ⟨L2.gTup X.K n ts, pg_tup hc ps hn hst, fun φ H s σ d v s' Q r rd hg q => ?_⟩
  unfold gT at hg
  split at hg
  · rename_i ds hd
    obtain ⟨a, vs, rfl, h1, r1⟩ := itemsOf_ok rd hd
    split at hg
    · rename_i hl
      exact ⟨a, vs, rfl, h1, by rw [← r1.length]; exact hl, zs φ H s σ ds vs s' Q r r1 hg q⟩
    · cases hg
  · cases hg
end
/-! ### statements -/
def fBindS (f : FE) (k : D → Bool → FS) : FS := fun e st => match f e st with
  | .ok d fr st' => k d fr e st'
  | .exc c d st' => .exc c d e.s st'
  | .stuck => .stuck
def fNxt : FS := fun e st => .nxt e.s st
def fBrk : FS := fun e st => .brk e.s st
def fCnt : FS := fun e st => .cnt e.s st
def fNever : FS := fun _ _ => .stuck
def fSeq (f g : FS) : FS := fun e st => match f e st with
  | .nxt s st' => g ⟨e.b, s⟩ st'
  | r => r
def fRet (f : FE) : FS := fBindS f fun d fr _ st => .ret d fr st
def fRetN : FS := fun _ st => .ret .non false st
def fExpr (f : FE) : FS := fBindS f fun _ _ e st => .nxt e.s st
def ofG (o : Option (List (Option D))) (st : Sto) : RS := match o with
  | some s => .nxt s st
  | none => .stuck
def fAsg (g : FG) (f : FE) : FS := fBindS f fun d _ e st => ofG (g d e.s) st
def kIfS (f g : FS) : D → Bool → FS
  | .bl b, _ => if b = true then f else g
  | _, _ => fNever
def fIfS (c : FE) (f g : FS) : FS := fBindS c (kIfS f g)
def fPar (i j : Nat) (f g : FE) : FS := fBindS f fun x _ => fBindS g fun y _ e st => .nxt ((e.s.set i (some x)).set j (some y)) st
section
variable {X : Cx} {XA : XAT} {E : L2.St → XK}
theorem RQS.bind {K : PySem.W.Frag} {φ : List Addr} {H : Hp} {σ : L2.St} {e : Fr} {st : Sto} {f : FE} {k : D → Bool → FS} {Dn : Ends} (n : Now K φ H σ e st) (h : RQS K XA φ H E Dn (fBindS f k e st)) {T : V → Hp → Prop}
    (hT : ∀ d fr φ1 H1 st1 v, Ext φ φ1 H H1 → Now K φ1 H1 σ e st1 → RD K φ1 H1 d v → (fr = true → Frs K H φ1 H1 st1 d v) → RQS K XA φ1 H1 E Dn (k d fr e st1) → T v H1) : lift K XA E f σ H T := by
  refine ⟨e, st, φ, n, ?_⟩
  unfold fBindS at h
  cases hf : f e st with
  | ok d fr st1 =>
    rw [hf] at h
    exact fun φ1 H1 v x g r f => hT d fr φ1 H1 st1 v x (n.keep x g) r f (RQS.mono x h)
  | exc c d st1 =>
    rw [hf] at h
    exact fun φ1 H1 cls dd x g z => h φ1 H1 σ cls dd x g (n.rel.keep x n.good.notup) z
  | stuck =>
    rw [hf] at h
    exact h.elim
theorem s_of {K : PySem.W.Frag} {φ : List Addr} {H : Hp} {σ : L2.St} {e : Fr} {st : Sto} {f : FS} {Dn : Ends} (n : Now K φ H σ e st) (q : RQS K XA φ H E Dn (f e st)) : liftS K XA E f Dn σ H := ⟨e, st, φ, n, q⟩
variable {f g : FS} {s : Stmt} {ss : List Stmt} {fa fb : FE} {a b : Expr} {pos : Pos}
theorem b_nil : PSs X [] (liftS X.K XA E fNxt) := PSs.weak pss_nil fun D σ H ⟨e, st, φ, n, q⟩ => q φ H σ (Ext.refl _ _) n.good n.rel
theorem b_cons (h : PS X s (liftS X.K XA E f)) (hs : PSs X ss (liftS X.K XA E g)) : PSs X (s :: ss) (liftS X.K XA E (fSeq f g)) := by
  refine PSs.weak (pss_cons h hs) ?_
  rintro D σ H ⟨e, st, φ, n, q⟩
  refine ⟨e, st, φ, n, ?_⟩
  unfold fSeq at q
  cases hf : f e st with
  | nxt s1 st1 =>
    rw [hf] at q
    exact fun φ1 H1 σ1 x1 g1 r1 => ⟨⟨e.b, s1⟩, st1, φ1, ⟨r1, g1, by rw [← g1.len]; exact Nat.le_trans n.base (by rw [← n.good.len]; exact x1.len)⟩, RQS.mono x1 q⟩
  | _ => rw [hf] at q; exact q
theorem s_pass : PS X (.Pass pos) (liftS X.K XA E fNxt) := PS.weak ps_pass fun D σ H ⟨e, st, φ, n, q⟩ => q φ H σ (Ext.refl _ _) n.good n.rel
theorem s_break : PS X (.Break pos) (liftS X.K XA E fBrk) := PS.weak ps_break fun D σ H ⟨e, st, φ, n, q⟩ => q φ H σ (Ext.refl _ _) n.good n.rel
theorem s_cont : PS X (.Continue pos) (liftS X.K XA E fCnt) := PS.weak ps_continue fun D σ H ⟨e, st, φ, n, q⟩ => q φ H σ (Ext.refl _ _) n.good n.rel
theorem s_never : PS X s (liftS X.K XA E fNever) := PS.weak ps_never fun D σ H ⟨e, st, φ, n, q⟩ => q.elim
theorem s_ret (ha : PE X a (lift X.K XA E fa)) : PS X (.Return (some a) pos) (liftS X.K XA E (fRet fa)) := by
  refine PS.weak (ps_ret ha) ?_
  rintro D σ H ⟨e, st, φ, n, q⟩
  refine ⟨e, st, φ, n, ?_⟩
  unfold fRet fBindS at q
  cases hf : fa e st with
  | ok d fr st1 => rw [hf] at q; exact q
  | exc c d st1 => rw [hf] at q; exact fun φ1 H1 cls dd x g z => q φ1 H1 σ cls dd x g (n.rel.keep x n.good.notup) z
  | stuck => rw [hf] at q; exact q.elim
theorem s_retN : PS X (.Return none pos) (liftS X.K XA E fRetN) := PS.weak ps_retN fun D σ H ⟨e, st, φ, n, q⟩ => q φ H _ (Ext.refl _ _) n.good .non fun z => by cases z
theorem s_expr (ha : PE X a (lift X.K XA E fa)) (hs : swapsWith a none pos.line X.env = pure false := by rfl) : PS X (.Expr a pos) (liftS X.K XA E (fExpr fa)) := by
  refine PS.weak (ps_expr ha hs) ?_
  rintro D σ H ⟨e, st, φ, n, q⟩
  exact RQS.bind n q fun d fr φ1 H1 st1 v x1 n1 r1 f1 q1 => q1 φ1 H1 σ (Ext.refl _ _) n1.good n1.rel
theorem s_asg {g : FG} {tg : Expr} {sl : List Nat} (ha : PE X a (lift X.K XA E fa)) (hg : GL X tg g sl) (hs : swapsWithSole [tg] a pos.line X.env = pure false := by rfl) (hw : swappedStores [tg] a X.env = pure none := by rfl)
    (h1 : (assignEach [tg] X.env).map (·.2) = [assign tg X.env] := by rfl) : PS X (.Assign [tg] a pos) (liftS X.K XA E (fAsg g fa)) := by
  obtain ⟨t, p, z⟩ := hg.ex
  refine PS.weak (ps_asg ha p hs hw h1) ?_
  rintro D σ H ⟨e, st, φ, n, q⟩
  refine RQS.bind n q fun d fr φ1 H1 st1 v x1 n1 r1 f1 q1 => ?_
  cases hg : g d e.s with
  | none => simp only [hg, ofG] at q1; exact q1.elim
  | some s' =>
    simp only [hg, ofG] at q1
    exact z φ1 H1 e.s σ d v s' _ n1.rel r1 hg fun σ' r' _ => q1 φ1 H1 σ' (Ext.refl _ _) n1.good r'
theorem s_ifs {c : Expr} {fc : FE} {ts es : List Stmt} (hc : PT X c (liftT X.K XA E fc)) (ha : PSs X ts (liftS X.K XA E f)) (hb : PSs X es (liftS X.K XA E g)) : PS X (.If c ts es pos) (liftS X.K XA E (fIfS fc f g)) := by
  refine PS.weak (ps_if hc ha hb) ?_
  rintro D σ H ⟨e, st, φ, n, q⟩
  refine RQS.bind n q fun d fr φ1 H1 st1 v x1 n1 r1 f1 q1 => ?_
  cases r1 with
  | bl b =>
    refine ⟨b, rfl, ?_⟩
    cases b with
    | true => exact s_of n1 q1
    | false => exact s_of n1 q1
  | _ => exact q1.elim
theorem s_par {i j : Nat} (h : ∀ ta : TA, PA X [a, b] ta → PS X s (tPar i j ta)) (ha : PE X a (lift X.K XA E fa)) (hb : PE X b (lift X.K XA E fb)) (he1 : starEach (a :: [b]) X.env = (false, eval a X.env) :: starEach [b] X.env := by rfl) (he2 : starEach (b :: []) X.env = (false, eval b X.env) :: starEach [] X.env := by rfl) :
    PS X s (liftS X.K XA E (fPar i j fa fb)) := by
  refine PS.weak (h _ (pa_cons ha (pa_cons hb pa_nil he2) he1)) ?_
  rintro D σ H ⟨e, st, φ, n, q⟩
  refine RQS.bind n q fun d fr φ1 H1 st1 v x1 n1 r1 f1 q1 => ?_
  refine RQS.bind n1 q1 fun d2 fr2 φ2 H2 st2 v2 x2 n2 r2 f2 q2 => ?_
  exact ⟨v, v2, rfl, q2 φ2 H2 _ (Ext.refl _ _) n2.good ((n2.rel.set (r1.keep x2 n1.good.notup) i).set r2 j)⟩
/-! ### while -/
def kWh (w : FS) (f : FS) : D → Bool → FS
  | .bl b, _ => if b = true then (fun e st => match f e st with
      | .nxt s st' => w ⟨e.b, s⟩ st'
      | .cnt s st' => w ⟨e.b, s⟩ st'
      | .brk s st' => .nxt s st'
      | r => r) else fNxt
  | _, _ => fNever
/-- at most n turns -/
def fWhile : Nat → FE → FS → FS
  | 0, _, _ => fNever
  | n + 1, c, f => fBindS c (kWh (fWhile n c f) f)
theorem s_while (N : Nat) {c : Expr} {fc : FE} {ts : List Stmt} (hp : PassesOwn (model X.prog X.w) X.A X.env X.xe) (hc : PT X c (liftT X.K XA E fc)) (hb : PSs X ts (liftS X.K XA E f)) : PS X (.While c ts [] pos) (liftS X.K XA E (fWhile N fc f)) := by
  refine PS.weak (ps_while hp hc hb) ?_
  intro D σ H h
  refine ⟨fun m σ H => liftS X.K XA E (fWhile m fc f) D σ H, ⟨N, h⟩, ?_⟩
  rintro m σ H ⟨e, st, φ, n, q⟩
  cases m with
  | zero => exact q.elim
  | succ m =>
    refine RQS.bind n q fun d fr φ1 H1 st1 v x1 n1 r1 f1 q1 => ?_
    cases r1 with
    | bl b =>
      refine ⟨b, rfl, ?_⟩
      cases b with
      | false => exact q1 φ1 H1 σ (Ext.refl _ _) n1.good n1.rel
      | true =>
        show if true = true then _ else _
        rw [if_pos rfl]
        refine ⟨fun σ' H' => liftS X.K XA E (fWhile m fc f) D σ' H', fun σ' H' h => ⟨m, Nat.lt_succ_self m, h⟩, e, st1, φ1, n1, ?_⟩
        have q2 : RQS X.K XA φ1 H1 E D (match f e st1 with
          | .nxt s st' => fWhile m fc f ⟨e.b, s⟩ st'
          | .cnt s st' => fWhile m fc f ⟨e.b, s⟩ st'
          | .brk s st' => .nxt s st'
          | r => r) := q1
        cases hf : f e st1 with
        | nxt s2 st2 =>
          rw [hf] at q2
          exact fun φ2 H2 σ2 x2 g2 r2 => ⟨⟨e.b, s2⟩, st2, φ2, ⟨r2, g2, by rw [← g2.len]; exact Nat.le_trans n1.base (by rw [← n1.good.len]; exact x2.len)⟩, RQS.mono x2 q2⟩
        | cnt s2 st2 =>
          rw [hf] at q2
          exact fun φ2 H2 σ2 x2 g2 r2 => ⟨⟨e.b, s2⟩, st2, φ2, ⟨r2, g2, by rw [← g2.len]; exact Nat.le_trans n1.base (by rw [← n1.good.len]; exact x2.len)⟩, RQS.mono x2 q2⟩
        | brk s2 st2 =>
          rw [hf] at q2
          exact q2
        | ret d fr st2 => rw [hf] at q2; exact q2
        | exc c d s2 st2 => rw [hf] at q2; exact q2
        | stuck => rw [hf] at q2; exact q2
    | _ => exact q1.elim
end
end EV

set_option Elab.async false
set_option maxRecDepth 100000
set_option maxHeartbeats 2000000
namespace EV
open PySem PySem.Spec PyProof.Rows L2
/-! ### what is walked -/
inductive RI where
  | ok (xs : List D) (st : Sto) | exc (c : Nat) (d : D) (st : Sto) | stuck
abbrev FI := Fr → Sto → RI
/-- the iterator gives out xs, one by one, as long as the cells and values stand -/
def IterP (K : PySem.W.Frag) (J : It) (xs : List D) (φ1 : List Addr) (H1 : Hp) : Prop :=
  ∀ φ' H' st', Ext φ1 φ' H1 H' → Good K φ' H' st' →
    (∀ i d, xs[i]? = some d → J.go i H' ∧ ∀ x H'', J.yld i H' x H'' → Ext φ' φ' H' H'' ∧ Good K φ' H'' st' ∧ RD K φ' H'' d x) ∧ J.stop xs.length H'
def RQI (K : PySem.W.Frag) (XA : XAT) (φ : List Addr) (H : Hp) (E : XK) (R : It → Hp → Prop) : RI → Prop
  | .ok xs st' => ∀ φ' H' J, Ext φ φ' H H' → Good K φ' H' st' → IterP K J xs φ' H' → R J H'
  | .exc c d st' => ∀ φ' H' cls dd, Ext φ φ' H H' → Good K φ' H' st' → XA c d cls dd φ' H' → E cls dd H'
  | .stuck => False
def liftI (K : PySem.W.Frag) (XA : XAT) (E : L2.St → XK) (f : FI) : TI := fun σ H R => ∃ e st φ, Now K φ H σ e st ∧ RQI K XA φ H (E σ) R (f e st)
theorem PI.weak {X : Cx} {tg e : Expr} {t t' : TI} (h : PI X tg e t) (m : ∀ σ H R, t' σ H R → t σ H R) : PI X tg e t' := ⟨fun p s σ H R I q => h.run p s σ H R I (m _ _ _ q)⟩
/-! ### for -/
def forL (g : FG) (f : FS) : List D → FS
  | [] => fNxt
  | d :: r => fun e st => match g d e.s with
    | none => .stuck
    | some s => (match f ⟨e.b, s⟩ st with
      | .nxt s' st' => forL g f r ⟨e.b, s'⟩ st'
      | .cnt s' st' => forL g f r ⟨e.b, s'⟩ st'
      | .brk s' st' => .nxt s' st'
      | z => z)
def fFor (i : FI) (g : FG) (f : FS) : FS := fun e st => match i e st with
  | .ok xs st' => forL g f xs e st'
  | .exc c d st' => .exc c d e.s st'
  | .stuck => .stuck
section
variable {X : Cx} {XA : XAT} {E : L2.St → XK}
theorem Now.go {K : PySem.W.Frag} {φ φ' : List Addr} {H H' : Hp} {σ σ' : L2.St} {e : Fr} {st st' : Sto} {s' : List (Option D)} (n : Now K φ H σ e st) (x : Ext φ φ' H H') (g : Good K φ' H' st') (r : Rel K φ' H' s' σ') : Now K φ' H' σ' ⟨e.b, s'⟩ st' :=
  ⟨r, g, by rw [← g.len]; exact Nat.le_trans n.base (by rw [← n.good.len]; exact x.len)⟩
/-- the loop over known items -/
theorem for_core {K : PySem.W.Frag} {J : It} {xs : List D} {t : TG} {g : FG} {f : FS} {φ : List Addr} {H : Hp} {σ : L2.St} {e : Fr} {st : Sto} {D : Ends} {sl : List Nat}
    (z : ∀ φ H s σ d v s' Q, Rel K φ H s σ → RD K φ H d v → g d s = some s' → (∀ σ', Rel K φ H s' σ' → Only2 sl σ σ' → Q σ' H) → t v σ H Q)
    (n : Now K φ H σ e st) (it : IterP K J xs φ H) (q : RQS K XA φ H E D (forL g f xs e st)) :
    ∃ W : Nat → Nat → L2.St → Hp → Prop, (∃ m, W 0 m σ H) ∧ ∀ i m σ H, W i m σ H →
      (J.stop i H ∧ D.nx σ H) ∨ (J.go i H ∧ ∃ N : L2.St → Hp → Prop, (∀ σ' H', N σ' H' → ∃ m', m' < m ∧ W (i + 1) m' σ' H') ∧ ∀ x H', J.yld i H x H' → t x σ H' fun σ2 H2 => liftS K XA E f { D with nx := N, ct := N, bk := D.nx } σ2 H2) := by
  refine ⟨fun i m σ' H' => m + i = xs.length ∧ ∃ e' st' φ', Now K φ' H' σ' e' st' ∧ Ext φ φ' H H' ∧ RQS K XA φ' H' E D (forL g f (xs.drop i) e' st'), ⟨xs.length, rfl, e, st, φ, n, Ext.refl _ _, q⟩, ?_⟩
  rintro i m σ1 H1 ⟨hm, e1, st1, φ1, n1, x1, q1⟩
  obtain ⟨go, stop⟩ := it φ1 H1 st1 x1 n1.good
  by_cases hi : i < xs.length
  · have hd : xs[i]? = some xs[i] := by simp [hi]
    obtain ⟨h1, h2⟩ := go i _ hd
    refine .inr ⟨h1, fun σ' H' => ∃ e' st' φ', Now K φ' H' σ' e' st' ∧ Ext φ φ' H H' ∧ RQS K XA φ' H' E D (forL g f (xs.drop (i + 1)) e' st'), fun σ' H' h => ⟨xs.length - (i + 1), by omega, by omega, h⟩, fun x H2 y => ?_⟩
    obtain ⟨x2, g2, r2⟩ := h2 x H2 y
    rw [List.drop_eq_getElem_cons hi] at q1
    unfold forL at q1
    cases hg : g xs[i] e1.s with
    | none => simp only [hg] at q1; exact q1.elim
    | some s2 =>
      simp only [hg] at q1
      refine z φ1 H2 e1.s σ1 xs[i] x s2 _ (n1.rel.keep x2 n1.good.notup) r2 hg fun σ2 rel2 _ => ?_
      have n2 : Now K φ1 H2 σ2 ⟨e1.b, s2⟩ st1 := n1.go x2 g2 rel2
      refine ⟨⟨e1.b, s2⟩, st1, φ1, n2, ?_⟩
      cases hf : f ⟨e1.b, s2⟩ st1 with
      | nxt s3 st3 =>
        rw [hf] at q1
        exact fun φ3 H3 σ3 x3 g3 r3 => ⟨⟨e1.b, s3⟩, st3, φ3, n2.go x3 g3 r3, x1.trans (x2.trans x3), RQS.mono (x2.trans x3) q1⟩
      | cnt s3 st3 =>
        rw [hf] at q1
        exact fun φ3 H3 σ3 x3 g3 r3 => ⟨⟨e1.b, s3⟩, st3, φ3, n2.go x3 g3 r3, x1.trans (x2.trans x3), RQS.mono (x2.trans x3) q1⟩
      | brk s3 st3 =>
        rw [hf] at q1
        exact fun φ3 H3 σ3 x3 g3 r3 => q1 φ3 H3 σ3 (x2.trans x3) g3 r3
      | ret d fr st3 =>
        rw [hf] at q1
        exact RQS.mono x2 q1
      | exc c d s3 st3 =>
        rw [hf] at q1
        exact RQS.mono x2 q1
      | stuck => rw [hf] at q1; exact q1.elim
  · have he : i = xs.length := by omega
    subst he
    refine .inl ⟨stop, ?_⟩
    rw [List.drop_length] at q1
    exact q1 φ1 H1 σ1 (Ext.refl _ _) n1.good n1.rel
theorem s_for {tg iter : Expr} {body : List Stmt} {i : FI} {g : FG} {f : FS} {sl : List Nat} {pos : Pos} (hp : PassesOwn (model X.prog X.w) X.A X.env X.xe) (hc : X.calm = true) (hi : PI X tg iter (liftI X.K XA E i)) (hg : GL X tg g sl) (hb : PSs X body (liftS X.K XA E f))
    (hs : ∀ x, foldedSetIterable iter X.env x = pure x := by intro _; rfl) : PS X (.For tg iter body [] pos) (liftS X.K XA E (fFor i g f)) := by
  obtain ⟨t, p, z⟩ := hg.ex
  refine PS.weak (ps_for hp hc hi p hb hs) ?_
  rintro D σ H ⟨e, st, φ, n, q⟩
  refine ⟨e, st, φ, n, ?_⟩
  unfold fFor at q
  cases hf : i e st with
  | stuck => rw [hf] at q; exact q.elim
  | exc c d st1 => rw [hf] at q; exact fun φ1 H1 cls dd x g z => q φ1 H1 σ cls dd x g (n.rel.keep x n.good.notup) z
  | ok xs st1 =>
    rw [hf] at q
    intro φ1 H1 J x1 g1 it
    exact for_core z (n.keep x1 g1) it (RQS.mono x1 q)
end
/-! ### comprehensions -/
/-- the items that come out: the target, the tests, the element; what is made stands in the cell n, the last first -/
def compL (n : Nat) (g : FG) (c : FE) (f : FE) : List D → Fr → Sto → Option Sto
  | [], _, st => some st
  | d :: r, e, st => match g d e.s with
    | none => none
    | some s => (match c ⟨e.b, s⟩ st with
      | .ok (.bl true) _ st1 => (match f ⟨e.b, s⟩ st1 with
        | .ok y _ st2 => (match st2[n]? with
          | some (.acc k ys) => if (isP y && decide (k < SZ)) = true then compL n g c f r e (st2.set n (.acc (k + 1) (y :: ys))) else none
          | _ => none)
        | _ => none)
      | .ok (.bl false) _ st1 => compL n g c f r e st1
      | _ => none)
/-- the slots of the comprehension's own names are empty in it -/
def wipeD (s : List (Option D)) : List Nat → List (Option D)
  | [] => s
  | v :: vs => (wipeD s vs).set v none
def endC (n : Nat) : Option Sto → R
  | some st2 => (match st2[n]? with
    | some (.acc _ ys) => if st2.length = n + 1 then .ok (.lst ys.reverse) true (st2.take n) else .stuck
    | _ => .stuck)
  | none => .stuck
def fComp (i : FI) (g : FG) (c : FE) (f : FE) (vs : List Nat) : FE := fun e st => match i e st with
  | .ok xs st1 => endC st1.length (compL st1.length g c f xs ⟨e.b, wipeD e.s vs⟩ (st1 ++ [.acc 0 []]))
  | .exc c d st1 => .exc c d st1
  | .stuck => .stuck
theorem Rel.wipe {K : PySem.W.Frag} {φ : List Addr} {H : Hp} {s : List (Option D)} {σ : L2.St} (r : Rel K φ H s σ) : ∀ vs : List Nat, Rel K φ H (wipeD s vs) (wipe σ vs)
  | [] => r
  | v :: vs => by
    have ih := r.wipe vs
    unfold wipeD L2.wipe
    refine ⟨by rw [List.length_set, List.length_set, ih.len], fun j e hj => ?_⟩
    by_cases hi : v = j
    · subst hi
      rw [List.getElem?_set] at hj
      rw [if_pos rfl] at hj
      split at hj <;> cases hj
    · rw [List.getElem?_set_ne hi] at hj ⊢
      exact ih.at_ j e hj
mutual
/-- fewer cells: plain values stand -/
theorem RD.anti {K : PySem.W.Frag} {φ φ' : List Addr} {H : Hp} (h : ∀ a ∈ φ', a ∈ φ) : ∀ {d : D} {v : V}, RD K φ H d v → isP d = true → RD K φ' H d v
  | _, _, .non, _ => .non
  | _, _, .bl b, _ => .bl b
  | _, _, .int i, _ => .int i
  | _, _, .str x, _ => .str x
  | _, _, .tup t r p, _ => .tup t (RDs.anti h r p) p
  | _, _, .lst t n r p, _ => .lst t (fun m => n (h _ m)) (RDs.anti h r p) p
  | _, _, .dic t n r, _ => .dic t (fun m => n (h _ m)) (RKs.anti h r)
  | _, _, .dit t n r, _ => .dit t (fun m => n (h _ m)) r
  | _, _, .cell _, p => by cases p
  | _, _, .scr _, p => by cases p
theorem RDs.anti {K : PySem.W.Frag} {φ φ' : List Addr} {H : Hp} (h : ∀ a ∈ φ', a ∈ φ) : ∀ {ds : List D} {vs : List V}, RDs K φ H ds vs → ds.all isP = true → RDs K φ' H ds vs
  | _, _, .nil, _ => .nil
  | _, _, .cons r rs, p => .cons (RD.anti h r (by rw [List.all_cons, Bool.and_eq_true] at p; exact p.1)) (RDs.anti h rs (by rw [List.all_cons, Bool.and_eq_true] at p; exact p.2))
theorem RKs.anti {K : PySem.W.Frag} {φ φ' : List Addr} {H : Hp} (h : ∀ a ∈ φ', a ∈ φ) : ∀ {ds : List (K1 × D)} {vs : List (Key × V)}, RKs K φ H ds vs → RKs K φ' H ds vs
  | _, _, .nil => .nil
  | _, _, .cons r p rs => .cons (RD.anti h r p) p (RKs.anti h rs)
end
theorem COat.anti {K : PySem.W.Frag} {φ φ' : List Addr} {H : Hp} (h : ∀ a ∈ φ', a ∈ φ) {a : Addr} {c : CO} (q : COat K φ H a c) : COat K φ' H a c := by
  cases c with
  | lst ds => obtain ⟨vs, h1, h2, h3⟩ := q; exact ⟨vs, h1, h2.anti h h3, h3⟩
  | acc _ ds => obtain ⟨vs, h1, h2, h3, h4⟩ := q; exact ⟨vs, h1, h2.anti h (by rw [List.all_reverse]; exact h3), h3, h4⟩
  | dic k kvs => obtain ⟨vs, h1, h2⟩ := q; exact ⟨vs, h1, h2.anti h⟩
  | dit k kvs => exact q
/-- the first cells alone -/
theorem Good.first {K : PySem.W.Frag} {φ φ' : List Addr} {H : Hp} {st : Sto} (g : Good K (φ ++ φ') H st) : Good K φ H (st.take φ.length) := by
  have l := g.len
  rw [List.length_append] at l
  refine ⟨by rw [List.length_take]; omega, (List.nodup_append.mp g.nd).1, fun i c a h1 h2 => ?_⟩
  have hi : i < φ.length := (List.getElem?_eq_some_iff.mp h2).1
  rw [List.getElem?_take_of_lt hi] at h1
  exact (g.at_ i c a h1 (by rw [List.getElem?_append_left hi]; exact h2)).anti fun b m => List.mem_append_left _ m
theorem len1 {α : Type} {a b : List α} (h : a <+: b) (n : b.length = a.length) : b = a := (h.eq_of_length n.symm).symm
section
variable {X : Cx} {XA : XAT} {E : L2.St → XK}
/-- a cell's content is changed to what stands at its address now -/
theorem Good.setc {K : PySem.W.Frag} {φ : List Addr} {H H' : Hp} {st : Sto} {i : Nat} {a : Addr} {c : CO} (g : Good K φ H st) (ha : φ[i]? = some a) (x : Ext φ φ H H') (e : ∀ b ∈ φ, b ≠ a → H' b = H b) (h : COat K φ H' a c) : Good K φ H' (st.set i c) := by
  refine ⟨by rw [List.length_set]; exact g.len, g.nd, fun j c' b h1 h2 => ?_⟩
  by_cases hj : i = j
  · subst hj
    rw [ha] at h2
    cases h2
    rw [List.getElem?_set] at h1
    rw [if_pos rfl] at h1
    split at h1
    · cases h1; exact h
    · cases h1
  · rw [List.getElem?_set_ne hj] at h1
    refine (g.at_ j c' b h1 h2).keep x g.notup (e b (List.mem_of_getElem? h2) fun z => hj ?_)
    subst z
    exact (List.getElem?_inj (List.getElem?_eq_some_iff.mp ha).1 g.nd).mp (ha.trans h2.symm)
/-- a cell's list or dict is changed -/
theorem ext_upd {φ : List Addr} {H : Hp} {a : Addr} {o u : HO} (m : a ∈ φ) (h : H a = some u) (nf : ∀ ob w, u ≠ .frz ob w) : Ext φ φ H (upd H a o) := by
  refine ⟨⟨List.prefix_refl _, fun b m n => absurd m n, fun b w _ r n => ?_, fun b w r n => ?_, fun b r => ?_⟩, fun b w r n => ?_, fun b w r n => ?_, fun b ob w r => ?_⟩
  · exact rd_same (upd_ne fun z => n (by rw [z]; exact m)) r
  · rw [upd_ne fun z => n (by rw [z]; exact m)]; exact r
  · by_cases z : b = a
    · subst z; rw [upd_same] at r; cases r
    · rw [upd_ne z] at r; exact r
  · rw [upd_ne fun z => n (by rw [z]; exact m)]; exact r
  · rw [upd_ne fun z => n (by rw [z]; exact m)]; exact r
  · have z : b ≠ a := fun z => by rw [z, h] at r; exact nf _ _ (Option.some.inj r)
    rw [upd_ne z]; exact r
end
end EV

set_option Elab.async false
set_option maxRecDepth 100000
set_option maxHeartbeats 2000000
namespace EV
open PySem PySem.Spec PyProof.Rows L2
/-- nothing leaves a comprehension -/
abbrev E0 : L2.St → XK := fun _ _ _ _ => False
section
variable {X : Cx} {XA : XAT} {E : L2.St → XK}
theorem acc_at {K : PySem.W.Frag} {φ : List Addr} {H : Hp} {st : Sto} {n k : Nat} {a : Addr} {ys : List D} (g : Good K φ H st) (h : st[n]? = some (.acc k ys)) (ha : φ[n]? = some a) : ∃ vs, H a = some (.lst vs) ∧ RDs K φ H ys.reverse vs ∧ ys.all isP = true ∧ ys.length ≤ k := g.at_ n _ a h ha
theorem comp_core {K : PySem.W.Frag} {J : It} {xs : List D} {t : TG} {g : FG} {fc f : FE} {φ : List Addr} {H : Hp} {σ : L2.St} {e : Fr} {st : Sto} {vs : List Nat} {Q : VK} {D : Addr}
    {sl : List Nat} (z : ∀ φ H s σ d v s' Q, Rel K φ H s σ → RD K φ H d v → g d s = some s' → (∀ σ', Rel K φ H s' σ' → Only2 sl σ σ' → Q σ' H) → t v σ H Q) (hsl : ∀ i ∈ sl, i ∈ vs)
    (n : Now K φ H σ e st) (it : IterP K J xs φ H) (hD : H D = none) (E1 : XK)
    (q : RQ K XA φ H E1 Q (endC st.length (compL st.length g fc f xs ⟨e.b, wipeD e.s vs⟩ (st ++ [.acc 0 []])))) :
    ∃ W : Nat → Nat → Hp → Prop, (∃ m, W 0 m (upd H D (.lst []))) ∧ ∀ i m H, W i m H →
      (J.stop i H ∧ Q (.ref D) H) ∨ (J.go i H ∧ ∃ Nx : Hp → Prop, (∀ H', Nx H' → ∃ m', m' < m ∧ W (i + 1) m' H') ∧ ∀ x H', J.yld i H x H' → t x (wipe σ vs) H' fun σ2 H2 => wipe σ2 vs = wipe σ vs ∧ liftT K XA E0 fc σ2 H2 fun b H3 =>
        if b = true then lift K XA E0 f σ2 H3 fun y H4 => ∃ acc, H4 D = some (.lst acc) ∧ acc.length < sizeLine ∧ Nx (upd H4 D (.lst (acc ++ [y]))) else Nx H3) := by
  have x0 : Ext φ (φ ++ [D]) H (upd H D (.lst [])) := by
    have x := ext_new (φ := φ) (o := .lst []) hD
    exact ⟨⟨List.prefix_append _ _, fun b m nm => by
      rcases List.mem_append.mp m with m | m
      · exact absurd m nm
      · rw [List.mem_singleton.mp m]; exact hD, x.keep, x.keepL, x.dom⟩, x.keepK, x.keepT, x.keepF⟩
  have g0 : Good K (φ ++ [D]) (upd H D (.lst [])) (st ++ [.acc 0 []]) := n.good.push hD x0 ⟨[], upd_same, .nil, rfl, Nat.le_refl 0⟩ fun a m => upd_ne fun w => n.good.notin hD (w ▸ m)
  have hn : (φ ++ [D])[st.length]? = some D := by rw [← n.good.len, List.getElem?_concat_length]
  let e' : Fr := ⟨e.b, wipeD e.s vs⟩
  refine ⟨fun i m H' => m + i = xs.length ∧ ∃ st' φ', Now K φ' H' (wipe σ vs) e' st' ∧ Ext (φ ++ [D]) φ' (upd H D (.lst [])) H' ∧ RQ K XA φ H E1 Q (endC st.length (compL st.length g fc f (xs.drop i) e' st')), ?_, ?_⟩
  · refine ⟨xs.length, rfl, st ++ [.acc 0 []], φ ++ [D], ⟨(n.rel.keep x0 n.good.notup).wipe vs, g0, ?_⟩, Ext.refl _ _, by rw [List.drop_zero]; exact q⟩
    rw [List.length_append]
    exact Nat.le_trans n.base (Nat.le_add_right _ _)
  rintro i m H1 ⟨hm, st1, φ1, n1, x1, q1⟩
  have nd : ∀ {φ'' H''}, Ext (φ ++ [D]) φ'' (upd H D (.lst [])) H'' → φ''[st.length]? = some D := fun x => by
    obtain ⟨r, rfl⟩ := x.pre
    rw [List.getElem?_append_left (by rw [List.length_append, n.good.len]; simp)]
    exact hn
  obtain ⟨go, stop⟩ := it φ1 H1 st1 (x0.trans x1) n1.good
  by_cases hi : i < xs.length
  · have hd : xs[i]? = some xs[i] := by simp [hi]
    obtain ⟨h1, h2⟩ := go i _ hd
    refine .inr ⟨h1, fun H' => ∃ st' φ', Now K φ' H' (wipe σ vs) e' st' ∧ Ext (φ ++ [D]) φ' (upd H D (.lst [])) H' ∧ RQ K XA φ H E1 Q (endC st.length (compL st.length g fc f (xs.drop (i + 1)) e' st')), fun H' h => ⟨xs.length - (i + 1), by omega, by omega, h⟩, fun x H2 y => ?_⟩
    obtain ⟨x2, g2, r2⟩ := h2 x H2 y
    rw [List.drop_eq_getElem_cons hi] at q1
    unfold compL at q1
    cases hg : g xs[i] e'.s with
    | none => simp only [hg, endC] at q1; exact q1.elim
    | some s2 =>
      simp only [hg] at q1
      refine z φ1 H2 e'.s (wipe σ vs) xs[i] x s2 _ (n1.rel.keep x2 n1.good.notup) r2 hg fun σ2 rel2 o2 => ?_
      have n2 : Now K φ1 H2 σ2 ⟨e'.b, s2⟩ st1 := n1.go x2 g2 rel2
      refine ⟨(o2 vs hsl).trans (wipe_wipe σ vs), ?_⟩
      cases hcf : fc ⟨e'.b, s2⟩ st1 with
      | stuck => simp only [hcf, endC] at q1; exact q1.elim
      | exc c d st2 => simp only [hcf, endC] at q1; exact q1.elim
      | ok dc frc st2 =>
        refine ⟨⟨e'.b, s2⟩, st1, φ1, n2, ?_⟩
        rw [hcf]
        intro φ3 H3 v3 x3 g3 r3 _
        have n3 : Now K φ3 H3 σ2 ⟨e'.b, s2⟩ st2 := n2.keep x3 g3
        rw [hcf] at q1
        cases r3 with
        | bl b =>
          refine ⟨b, rfl, ?_⟩
          cases b with
          | false =>
            exact ⟨st2, φ3, ⟨n1.rel.keep (x2.trans x3) n1.good.notup, g3, n3.base⟩, x1.trans (x2.trans x3), q1⟩
          | true =>
            show if true = true then _ else _
            rw [if_pos rfl]
            cases hf : f ⟨e'.b, s2⟩ st2 with
            | stuck => simp only [hf, endC] at q1; exact q1.elim
            | exc c d st4 => simp only [hf, endC] at q1; exact q1.elim
            | ok y fy st4 =>
              refine ⟨⟨e'.b, s2⟩, st2, φ3, n3, ?_⟩
              rw [hf]
              intro φ4 H4 v4 x4 g4 r4 _
              have n4 : Now K φ4 H4 σ2 ⟨e'.b, s2⟩ st4 := n3.keep x4 g4
              simp only [hf] at q1
              cases hc4 : st4[st.length]? with
              | none => simp only [hc4, endC] at q1; exact q1.elim
              | some c4 =>
                cases c4 with
                | acc k ys =>
                  simp only [hc4] at q1
                  split at q1
                  · rename_i hp
                    rw [Bool.and_eq_true] at hp
                    have x14 := x1.trans (x2.trans (x3.trans x4))
                    have hn4 := nd x14
                    obtain ⟨vs4, w1, w2, w3, w4⟩ := acc_at g4 hc4 hn4
                    have lz : vs4.length < SZ := by
                      rw [← w2.length, List.length_reverse]
                      exact Nat.lt_of_le_of_lt w4 (of_decide_eq_true hp.2)
                    have m4 : D ∈ φ4 := List.mem_of_getElem? hn4
                    have x5 : Ext φ4 φ4 H4 (upd H4 D (.lst (vs4 ++ [v4]))) := ext_upd m4 w1 fun _ _ z => by cases z
                    have g5 := g4.setc (c := .acc (k + 1) (y :: ys)) hn4 x5 (fun b _ nb => upd_ne nb) ⟨_, upd_same, by
                      rw [List.reverse_cons]
                      exact (w2.keep x5 g4.notup).append (.cons (r4.keep x5 g4.notup) .nil), by rw [List.all_cons, hp.1, w3] <;> rfl, Nat.succ_le_succ w4⟩
                    refine ⟨vs4, w1, by rw [sz_eq]; exact lz, st4.set st.length (.acc (k + 1) (y :: ys)), φ4, ⟨?_, g5, by rw [List.length_set]; exact n4.base⟩, x14.trans x5, q1⟩
                    exact (n1.rel.keep (x2.trans (x3.trans x4)) n1.good.notup).keep x5 g4.notup
                  · simp only [endC] at q1; exact q1.elim
                | _ => simp only [hc4, endC] at q1; exact q1.elim
        | _ => simp only [endC] at q1; exact q1.elim
  · have he : i = xs.length := by omega
    subst he
    refine .inl ⟨stop, ?_⟩
    rw [List.drop_length] at q1
    unfold compL endC at q1
    simp only [] at q1
    cases hc : st1[st.length]? with
    | none => rw [hc] at q1; exact q1.elim
    | some c1 =>
      rw [hc] at q1
      cases c1 with
      | acc k ys =>
        simp only [] at q1
        split at q1
        · rename_i hlen
          have l1 := n1.good.len
          have e1 : φ1 = φ ++ [D] := len1 x1.pre (by rw [l1, hlen, List.length_append, n.good.len]; rfl)
          subst e1
          obtain ⟨vs', v1, v2, v3, v4⟩ := acc_at n1.good hc hn
          have gf : Good K φ H1 (st1.take st.length) := by
            have := n1.good.first
            rw [n.good.len] at this
            exact this
          have xx := x0.trans x1
          have xf : Ext φ φ H H1 := ⟨⟨List.prefix_refl _, fun b m nm => absurd m nm, xx.keep, xx.keepL, xx.dom⟩, xx.keepK, xx.keepT, xx.keepF⟩
          have dn : D ∉ φ := n.good.notin hD
          have p3 : ys.reverse.all isP = true := by rw [List.all_reverse]; exact v3
          refine q1 φ H1 (.ref D) xf gf (.lst v1 dn (v2.anti (fun b m => List.mem_append_left _ m) p3) p3) fun _ => ⟨D, _, rfl, hD, rfl, ?_⟩
          have ge := n1.good
          refine ⟨by rw [ge.len, hlen, List.length_append, List.length_take]; simp; omega, ge.nd, fun i c a h1 h2 => ?_⟩
          by_cases hi : i < st.length
          · rw [List.getElem?_append_left (by rw [List.length_take]; omega), List.getElem?_take_of_lt hi] at h1
            exact ge.at_ i c a h1 h2
          · have h3 := (List.getElem?_eq_some_iff.mp h2).1
            rw [List.length_append, n.good.len] at h3
            have h4 : i < st.length + 1 := h3
            have e2 : i = st.length := by omega
            subst e2
            rw [hn] at h2
            cases h2
            rw [List.getElem?_append_right (by rw [List.length_take]; omega), List.length_take, Nat.min_eq_left (by omega), Nat.sub_self] at h1
            cases h1
            exact ⟨vs', v1, v2, p3⟩
        · exact q1.elim
      | _ => exact q1.elim
end
section
variable {X : Cx} {XA : XAT} {E : L2.St → XK}
theorem e_comp {elt tg iter : Expr} {ifs : List Expr} {scope : Scope} {own : List (Str × Nat)} {pos : Pos} {i : FI} {g : FG} {sl : List Nat} {fc f : FE} (hc : X.calm = true) (hN : X.N.Nodup) (hi : PI X tg iter (liftI X.K XA E i)) (ok : BlkOk X.N X.env.scope scope own)
    (hg : ∃ t : TG, (∀ (s : Shared) (H : Hp) (C : Addr) (cl : List (Str × Addr)) (fp : List Addr), PG (X.blk s H scope (compEnvC scope cl C X.env) fp) tg t) ∧ ∀ φ H s σ d v s' Q, Rel X.K φ H s σ → RD X.K φ H d v → g d s = some s' → (∀ σ', Rel X.K φ H s' σ' → Only2 sl σ σ' → Q σ' H) → t v σ H Q)
    (hsl : ∀ i ∈ sl, i ∈ own.map (·.2))
    (ht : ∀ (s : Shared) (H : Hp) (C : Addr) (cl : List (Str × Addr)) (fp : List Addr), PTs (X.blk s H scope (compEnvC scope cl C X.env) fp) ifs (liftT X.K XA E0 fc))
    (he : ∀ (s : Shared) (H : Hp) (C : Addr) (cl : List (Str × Addr)) (fp : List Addr), PE (X.blk s H scope (compEnvC scope cl C X.env) fp) elt (lift X.K XA E0 f)) (hs : ∀ x, foldedSetIterable iter X.env x = pure x := by intro _; rfl) :
    PE X (.ListComp elt [⟨tg, iter, ifs, 0⟩] scope pos) (lift X.K XA E (fComp i g fc f (own.map (·.2)))) := by
  obtain ⟨t, hp, z⟩ := hg
  refine PE.weak (pe_lc hc hN hi ok hp ht he hs) ?_
  rintro σ H Q ⟨e, st, φ, n, q⟩
  refine ⟨e, st, φ, n, ?_⟩
  unfold fComp at q
  cases hf : i e st with
  | stuck => rw [hf] at q; exact q.elim
  | exc c d st1 => rw [hf] at q; exact q
  | ok xs st1 =>
    rw [hf] at q
    intro φ1 H1 J x1 g1 it D hD
    exact comp_core z hsl (n.keep x1 g1) it hD (E σ) (RQ.mono x1 q fun _ _ w => w)
end
end EV

set_option Elab.async false
set_option maxRecDepth 100000
set_option maxHeartbeats 2000000
namespace EV
open PySem PySem.Spec PyProof.Rows L2
def fIt (f : FE) (k : D → Sto → Option (List D)) : FI := fun e st => match f e st with
  | .ok d _ st' => (match k d st' with
    | some xs => .ok xs st'
    | none => .stuck)
  | .exc c d st' => .exc c d st'
  | .stuck => .stuck
def fItA (f : FA) (k : List D → Sto → Option (List D)) : FI := fun e st => match f e st with
  | .ok d st' => (match k d st' with
    | some xs => .ok xs st'
    | none => .stuck)
  | .exc c d st' => .exc c d st'
  | .stuck => .stuck
def kSeq (d : D) (_ : Sto) : Option (List D) := match d with
  | .lst xs => some xs
  | .tup xs => some xs
  | .str z => if z.length ≤ SZ then some (z.map fun c => .str [c]) else none
  | _ => none
section
variable {X : Cx} {XA : XAT} {E : L2.St → XK}
theorem PI.or {tg e : Expr} {t t' : TI} (h : PI X tg e t) (h' : PI X tg e t') : PI X tg e (fun σ H R => t σ H R ∨ t' σ H R) := ⟨fun p s σ H R I q => by
  rcases q with q | q
  · exact h.run p s σ H R I q
  · exact h'.run p s σ H R I q⟩
theorem it_lift {K : PySem.W.Frag} {f : FE} {k : D → Sto → Option (List D)} {σ : L2.St} {H : Hp} {R : It → Hp → Prop} {T : V → Hp → Prop} (h : liftI K XA E (fIt f k) σ H R)
    (hT : ∀ d st1 φ1 H1 v xs, Good K φ1 H1 st1 → RD K φ1 H1 d v → k d st1 = some xs → (∀ J, IterP K J xs φ1 H1 → R J H1) → T v H1) : lift K XA E f σ H T := by
  obtain ⟨e, st, φ, n, q⟩ := h
  refine ⟨e, st, φ, n, ?_⟩
  unfold fIt at q
  cases hf : f e st with
  | stuck => rw [hf] at q; exact q
  | exc c d st1 => rw [hf] at q; exact q
  | ok d fr st1 =>
    rw [hf] at q
    intro φ1 H1 v x1 g1 r1 _
    cases hk : k d st1 with
    | none => simp only [hk] at q; exact q.elim
    | some xs =>
      simp only [hk] at q
      exact hT d st1 φ1 H1 v xs g1 r1 hk fun J it => q φ1 H1 J x1 g1 it
theorem itA_lift {K : PySem.W.Frag} {f : FA} {k : List D → Sto → Option (List D)} {σ : L2.St} {H : Hp} {R : It → Hp → Prop} {T : List V → Hp → Prop} (h : liftI K XA E (fItA f k) σ H R)
    (hT : ∀ ds st1 φ1 H1 vs xs, Good K φ1 H1 st1 → RDs K φ1 H1 ds vs → k ds st1 = some xs → (∀ J, IterP K J xs φ1 H1 → R J H1) → T vs H1) : liftA K XA E f σ H T := by
  obtain ⟨e, st, φ, n, q⟩ := h
  refine ⟨e, st, φ, n, ?_⟩
  unfold fItA at q
  cases hf : f e st with
  | stuck => rw [hf] at q; exact q
  | exc c d st1 => rw [hf] at q; exact q
  | ok ds st1 =>
    rw [hf] at q
    intro φ1 H1 vs x1 g1 r1
    cases hk : k ds st1 with
    | none => simp only [hk] at q; exact q.elim
    | some xs =>
      simp only [hk] at q
      exact hT ds st1 φ1 H1 vs xs g1 r1 hk fun J it => q φ1 H1 J x1 g1 it
theorem iter_lst {K : PySem.W.Frag} {φ : List Addr} {H : Hp} {a : Addr} {xs : List D} {vs : List V} (h : H a = some (.lst vs)) (n : a ∉ φ) (r : RDs K φ H xs vs) (nt : NoTup φ H) : IterP K (Itl K a) xs φ H := by
  intro φ' H' st' x g
  have h' : SqL K H' a vs := SqL.of (x.keepL a vs h n)
  have r' := r.keep x nt
  refine ⟨fun i d hd => ?_, vs, h', by rw [← r.length]; exact Nat.le_refl _⟩
  obtain ⟨v, hv, rv⟩ := r'.get hd
  refine ⟨⟨vs, v, h', hv⟩, fun y H'' e => ?_⟩
  obtain ⟨rfl, e2⟩ := e
  have e3 := e2 vs h'
  rw [hv] at e3
  cases e3
  exact ⟨Ext.refl _ _, g, rv⟩
theorem iter_tup {K : PySem.W.Frag} {φ : List Addr} {H : Hp} {a : Addr} {xs : List D} {vs : List V} (h : SqT K H a vs) (r : RDs K φ H xs vs) (nt : NoTup φ H) : IterP K (Itt K a) xs φ H := by
  intro φ' H' st' x g
  have h' : SqT K H' a vs := sqT_keep x.toExt0 nt h
  have r' := r.keep x nt
  refine ⟨fun i d hd => ?_, vs, h', by rw [← r.length]; exact Nat.le_refl _⟩
  obtain ⟨v, hv, rv⟩ := r'.get hd
  refine ⟨⟨vs, v, h', hv⟩, fun y H'' e => ?_⟩
  obtain ⟨rfl, e2⟩ := e
  have e3 := e2 vs h'
  rw [hv] at e3
  cases e3
  exact ⟨Ext.refl _ _, g, rv⟩
theorem iter_str {K : PySem.W.Frag} {φ : List Addr} {H : Hp} {z : List Nat} : IterP K (Its ⟨z.toArray⟩) (z.map fun c => .str [c]) φ H := by
  intro φ' H' st' x g
  refine ⟨fun i d hd => ?_, ?_⟩
  · rw [List.getElem?_map] at hd
    cases hz : z[i]? with
    | none => rw [hz] at hd; cases hd
    | some c =>
      rw [hz] at hd
      cases hd
      have hi : i < z.length := (List.getElem?_eq_some_iff.mp hz).1
      refine ⟨?_, fun y H'' e => ?_⟩
      · show i < z.toArray.size
        simpa using hi
      · obtain ⟨rfl, c2, hc2, rfl⟩ := e
        have : z[i]? = some c2 := by simpa using hc2
        rw [hz] at this
        cases this
        exact ⟨Ext.refl _ _, g, .str [c]⟩
  · show z.toArray.size ≤ _
    simp
theorem i_seq {tg a : Expr} {f : FE} (ha : PE X a (lift X.K XA E f)) : PI X tg a (liftI X.K XA E (fIt f kSeq)) := by
  refine PI.weak (PI.or (PI.or (pi_list ha) (pi_tup ha)) (pi_str ha)) fun σ H R h => ?_
  obtain ⟨e, st, φ, n, q⟩ := h
  cases hf : f e st with
  | stuck => unfold fIt at q; rw [hf] at q; exact q.elim
  | exc c d st1 =>
    unfold fIt at q
    rw [hf] at q
    exact .inl (.inl ⟨e, st, φ, n, by rw [hf]; exact q⟩)
  | ok d fr st1 =>
    have h : liftI X.K XA E (fIt f kSeq) σ H R := ⟨e, st, φ, n, q⟩
    unfold fIt at q
    rw [hf] at q
    cases d with
    | lst xs =>
      refine .inl (.inl ⟨e, st, φ, n, ?_⟩)
      rw [hf]
      intro φ1 H1 v x1 g1 r1 _
      cases r1 with
      | lst h1 m1 r1 p1 => exact ⟨_, rfl, ⟨_, SqL.of h1⟩, q φ1 H1 _ x1 g1 (iter_lst h1 m1 r1 g1.notup)⟩
    | tup xs =>
      refine .inl (.inr ⟨e, st, φ, n, ?_⟩)
      rw [hf]
      intro φ1 H1 v x1 g1 r1 _
      cases r1 with
      | tup h1 r1 p1 => exact ⟨_, rfl, ⟨_, h1⟩, q φ1 H1 _ x1 g1 (iter_tup h1 r1 g1.notup)⟩
    | str z =>
      refine .inr ⟨e, st, φ, n, ?_⟩
      rw [hf]
      intro φ1 H1 v x1 g1 r1 _
      cases r1 with
      | str z =>
        refine ⟨_, rfl, ?_⟩
        have hk : kSeq (.str z) st1 = if z.length ≤ SZ then some (z.map fun c => .str [c]) else none := rfl
        simp only [hk] at q
        by_cases hz : z.length ≤ SZ
        · simp only [if_pos hz] at q
          exact q φ1 H1 _ x1 g1 iter_str
        · simp only [if_neg hz] at q
          exact q.elim
    | _ => exact q.elim
/-! ### range -/
def rng (lo : Int) (n : Nat) (c : Int) : List D := (List.range n).map fun k => .int (lo + (k : Nat) * c)
def okR (i : Int) : Bool := decide (-1073741824 ≤ i) && decide (i ≤ 1073741824)
def kR1 (ds : List D) (_ : Sto) : Option (List D) := match ds with
  | [.int j] => if okR j then some (rng 0 j.toNat 1) else none
  | _ => none
def kR2 (ds : List D) (_ : Sto) : Option (List D) := match ds with
  | [.int i, .int j] => if okR i && okR j then some (rng i (j - i).toNat 1) else none
  | _ => none
/-- a step of -1 -/
def kR3 (ds : List D) (_ : Sto) : Option (List D) := match ds with
  | [.int i, .int j, .int c] => if okR i && okR j && decide (c = -1) then some (rng i (i - j).toNat (-1)) else none
  | _ => none
theorem okR_iff {i : Int} (h : okR i = true) : -(2 ^ 62) ≤ i ∧ i < 2 ^ 62 := by
  unfold okR at h
  rw [Bool.and_eq_true, decide_eq_true_iff, decide_eq_true_iff] at h
  omega
theorem iter_rng {K : PySem.W.Frag} {φ : List Addr} {H : Hp} {lo : Int} {n : Nat} : IterP K (Itr lo n) (rng lo n 1) φ H := by
  intro φ' H' st' x g
  refine ⟨fun i d hd => ?_, ?_⟩
  · unfold rng at hd
    rw [List.getElem?_map] at hd
    by_cases hi : i < n
    · rw [List.getElem?_range hi] at hd
      cases hd
      refine ⟨hi, fun y H'' e => ?_⟩
      obtain ⟨rfl, rfl⟩ := e
      refine ⟨Ext.refl _ _, g, ?_⟩
      show RD K φ' H'' (.int (lo + (i : Nat) * 1)) _
      rw [Int.mul_one]
      exact .int _
    · rw [List.getElem?_eq_none (by simpa using hi)] at hd
      cases hd
  · unfold rng
    rw [List.length_map, List.length_range]
    exact Nat.le_refl _
theorem iter_rngC {K : PySem.W.Frag} {φ : List Addr} {H : Hp} {lo c : Int} {n : Nat} : IterP K (Itc lo c n) (rng lo n c) φ H := by
  intro φ' H' st' x g
  refine ⟨fun i d hd => ?_, ?_⟩
  · unfold rng at hd
    rw [List.getElem?_map] at hd
    by_cases hi : i < n
    · rw [List.getElem?_range hi] at hd
      cases hd
      refine ⟨hi, fun y H'' e => ?_⟩
      obtain ⟨rfl, rfl⟩ := e
      exact ⟨Ext.refl _ _, g, .int _⟩
    · rw [List.getElem?_eq_none (by simpa using hi)] at hd
      cases hd
  · unfold rng
    rw [List.length_map, List.length_range]
    exact Nat.le_refl _
variable {tg : Expr} {f : FA} {p pos : Pos}
theorem i_rng1 {a : Expr} (hg : Gl X "range") (hm : X.mg "range" = none) (ha : PA X [a] (liftA X.K XA E f)) (hs : starEach [a] X.env = [(false, eval a X.env)] := by rfl) : PI X tg (.Call (.Name "range" p) [a] [] pos) (liftI X.K XA E (fItA f kR1)) := by
  refine PI.weak (pi_range1 hg hm ha hs) fun σ H R h => ?_
  refine itA_lift h fun ds st1 φ1 H1 vs xs g r0 hk q => ?_
  unfold kR1 at hk
  split at hk
  · rename_i j
    split at hk
    · rename_i c
      cases hk
      obtain ⟨v, rfl, r⟩ := rds1 r0
      cases r
      have o := okR_iff c
      exact ⟨j, rfl, o.1, o.2, q _ iter_rng⟩
    · cases hk
  · cases hk
theorem i_rng2 {a b : Expr} (hg : Gl X "range") (hm : X.mg "range" = none) (ha : PA X [a, b] (liftA X.K XA E f)) (hs : starEach [a, b] X.env = [(false, eval a X.env), (false, eval b X.env)] := by rfl) (hs2 : starEach [b] X.env = [(false, eval b X.env)] := by rfl) :
    PI X tg (.Call (.Name "range" p) [a, b] [] pos) (liftI X.K XA E (fItA f kR2)) := by
  refine PI.weak (pi_range2 hg hm ha hs hs2) fun σ H R h => ?_
  refine itA_lift h fun ds st1 φ1 H1 vs xs g r0 hk q => ?_
  unfold kR2 at hk
  split at hk
  · rename_i i j
    split at hk
    · rename_i c
      cases hk
      rw [Bool.and_eq_true] at c
      obtain ⟨v, u, rfl, r, r2⟩ := rds2 r0
      cases r
      cases r2
      have o1 := okR_iff c.1
      have o2 := okR_iff c.2
      exact ⟨i, j, rfl, ⟨o1.1, o1.2, o2.1, o2.2⟩, q _ iter_rng⟩
    · cases hk
  · cases hk
theorem rds3 {K : PySem.W.Frag} {φ : List Addr} {H : Hp} {d e g : D} {vs : List V} (h : RDs K φ H [d, e, g] vs) : ∃ v u w, vs = [v, u, w] ∧ RD K φ H d v ∧ RD K φ H e u ∧ RD K φ H g w := by
  cases h with
  | cons r rs =>
    obtain ⟨u, w, rfl, r2, r3⟩ := rds2 rs
    exact ⟨_, _, _, rfl, r, r2, r3⟩
theorem i_rng3 {a b c : Expr} (hg : Gl X "range") (hm : X.mg "range" = none) (ha : PA X [a, b, c] (liftA X.K XA E f))
    (hs : starEach [a, b, c] X.env = (false, eval a X.env) :: starEach [b, c] X.env := by rfl) (hpl : (backTo pos (starEach [b, c] X.env)).any (·.1) = false := by rfl) :
    PI X tg (.Call (.Name "range" p) [a, b, c] [] pos) (liftI X.K XA E (fItA f kR3)) := by
  refine PI.weak (pi_range3 hg hm ha hs hpl) fun σ H R h => ?_
  refine itA_lift h fun ds st1 φ1 H1 vs xs g r0 hk q => ?_
  unfold kR3 at hk
  split at hk
  · rename_i i j c
    split at hk
    · rename_i z
      cases hk
      simp only [Bool.and_eq_true, decide_eq_true_eq] at z
      obtain ⟨v, u, w, rfl, r, r2, r3⟩ := rds3 r0
      cases r
      cases r2
      cases r3
      obtain rfl := z.2
      have o1 := okR_iff z.1.1
      have o2 := okR_iff z.1.2
      exact ⟨i, j, -1, _, rfl, RgC.neg o1.1 o1.2 o2.1 o2.2, q _ iter_rngC⟩
    · cases hk
  · cases hk
/-! ### zip of two lists, enumerate of a list -/
def kZip (ds : List D) (st : Sto) : Option (List D) := match ds with
  | [.lst a, .lst b] => some ((a.zip b).map fun p => .tup [p.1, p.2])
  | [.tup a, .tup b] => some ((a.zip b).map fun p => .tup [p.1, p.2])
  | _ => none
def numb : Nat → List D → List D
  | _, [] => []
  | n, d :: r => .tup [.int (n : Int), d] :: numb (n + 1) r
def kEnum (ds : List D) (st : Sto) : Option (List D) := match ds with
  | [.lst a] => some (numb 0 a)
  | _ => none
theorem numb_get : ∀ (n : Nat) (ds : List D) (i : Nat), (numb n ds)[i]? = (ds[i]?).map fun d => .tup [.int ((n + i : Nat) : Int), d]
  | _, [], _ => rfl
  | n, d :: r, 0 => rfl
  | n, d :: r, i + 1 => by
    unfold numb
    rw [List.getElem?_cons_succ, List.getElem?_cons_succ, numb_get (n + 1) r i]
    congr 1
    funext d
    congr 4
    omega
theorem numb_len : ∀ (n : Nat) (ds : List D), (numb n ds).length = ds.length
  | _, [] => rfl
  | n, d :: r => congrArg (· + 1) (numb_len (n + 1) r)
theorem RDs.isP_get {K : PySem.W.Frag} {φ : List Addr} {H : Hp} {ds : List D} {i : Nat} {d : D} (p : ds.all isP = true) (h : ds[i]? = some d) : isP d = true := List.all_eq_true.mp p d (List.mem_of_getElem? h)
/-- a new pair -/
theorem new_pair {K : PySem.W.Frag} {φ : List Addr} {H : Hp} {st : Sto} {T : Addr} {d e : D} {v u : V} (g : Good K φ H st) (hT : H T = none) (r : RD K φ H d v) (r2 : RD K φ H e u) (p : isP d = true) (p2 : isP e = true) :
    Ext φ φ H (upd H T (.tup [v, u])) ∧ Good K φ (upd H T (.tup [v, u])) st ∧ RD K φ (upd H T (.tup [v, u])) (.tup [d, e]) (.ref T) :=
  new_tup g hT (.cons r (.cons r2 .nil)) (by rw [List.all_cons, List.all_cons, p, p2]; rfl)
theorem iter_enum {K : PySem.W.Frag} {φ : List Addr} {H : Hp} {a : Addr} {xs : List D} {vs : List V} (h : H a = some (.lst vs)) (n : a ∉ φ) (r : RDs K φ H xs vs) (p : xs.all isP = true) (nt : NoTup φ H) : IterP K (Ite K a) (numb 0 xs) φ H := by
  intro φ' H' st' x g
  have h' : SqL K H' a vs := SqL.of (x.keepL a vs h n)
  have r' := r.keep x nt
  refine ⟨fun i d hd => ?_, vs, h', by rw [numb_len, ← r.length]; exact Nat.le_refl _⟩
  rw [numb_get] at hd
  cases hx : xs[i]? with
  | none => rw [hx] at hd; cases hd
  | some e =>
    rw [hx] at hd
    cases hd
    obtain ⟨v, hv, rv⟩ := r'.get hx
    refine ⟨⟨vs, v, h', hv⟩, fun y H'' z => ?_⟩
    obtain ⟨T, x1, rfl, hT, rfl, z2⟩ := z
    have z3 := z2 vs h'
    rw [hv] at z3
    cases z3
    have := new_pair g hT (.int ((0 + i : Nat) : Int)) rv rfl (RDs.isP_get (K := K) (φ := φ) (H := H) p hx)
    rw [Nat.zero_add] at this ⊢
    exact this
theorem i_enum {a : Expr} {tpos : Pos} {elts : List Expr} {kk : Nat} (hg : Gl X "enumerate") (hm : X.mg "enumerate" = none) (ha : PA X [a] (liftA X.K XA E f)) (hs : starEach [a] X.env = [(false, eval a X.env)] := by rfl) :
    PI X (.Tuple elts kk tpos) (.Call (.Name "enumerate" p) [a] [] pos) (liftI X.K XA E (fItA f kEnum)) := by
  refine PI.weak (pi_enum hg hm ha hs) fun σ H R h => ?_
  refine itA_lift h fun ds st1 φ1 H1 vs xs g r0 hk q => ?_
  unfold kEnum at hk
  split at hk
  · cases hk
    obtain ⟨v, rfl, r⟩ := rds1 r0
    cases r with
    | lst h1 m1 r1 p1 => exact ⟨_, _, rfl, SqL.of h1, q _ (iter_enum h1 m1 r1 p1 g.notup)⟩
  · cases hk
theorem zip_get : ∀ (as bs : List D) (i : Nat), (as.zip bs)[i]? = (match as[i]?, bs[i]? with | some a, some b => some (a, b) | _, _ => none)
  | [], _, i => by simp
  | _ :: _, [], i => by simp
  | a :: as, b :: bs, 0 => rfl
  | a :: as, b :: bs, i + 1 => by
    rw [List.zip_cons_cons, List.getElem?_cons_succ, List.getElem?_cons_succ, List.getElem?_cons_succ]
    exact zip_get as bs i
theorem iter_zip {K : PySem.W.Frag} {φ : List Addr} {H : Hp} {a b : Addr} {xs ys : List D} {vs us : List V} (h : H a = some (.lst vs)) (n : a ∉ φ) (r : RDs K φ H xs vs) (p : xs.all isP = true) (h2 : H b = some (.lst us)) (n2 : b ∉ φ) (r2 : RDs K φ H ys us) (p2 : ys.all isP = true) (nt : NoTup φ H) :
    IterP K (Itz K a b) ((xs.zip ys).map fun p => .tup [p.1, p.2]) φ H := by
  intro φ' H' st' x g
  have h' : SqL K H' a vs := SqL.of (x.keepL a vs h n)
  have h2' : SqL K H' b us := SqL.of (x.keepL b us h2 n2)
  have r' := r.keep x nt
  have r2' := r2.keep x nt
  refine ⟨fun i d hd => ?_, vs, us, h', h2', ?_⟩
  · rw [List.getElem?_map, zip_get] at hd
    cases hx : xs[i]? with
    | none => rw [hx] at hd; cases hd
    | some e =>
      cases hy : ys[i]? with
      | none => rw [hx, hy] at hd; cases hd
      | some e2 =>
        rw [hx, hy] at hd
        cases hd
        obtain ⟨v, hv, rv⟩ := r'.get hx
        obtain ⟨u, hu, ru⟩ := r2'.get hy
        refine ⟨⟨vs, us, v, u, h', h2', hv, hu⟩, fun y H'' z => ?_⟩
        obtain ⟨T, x1, y1, rfl, hT, rfl, z2, z3⟩ := z
        have z4 := z2 vs h'
        have z5 := z3 us h2'
        rw [hv] at z4
        rw [hu] at z5
        cases z4
        cases z5
        exact new_pair g hT rv ru (RDs.isP_get (K := K) (φ := φ) (H := H) p hx) (RDs.isP_get (K := K) (φ := φ) (H := H) p2 hy)
  · rw [List.length_map, List.length_zip, ← r.length, ← r2.length]
    omega
theorem i_zip {a b : Expr} {tpos : Pos} {elts : List Expr} {kk : Nat} (hg : Gl X "zip") (hm : X.mg "zip" = none) (ha : PA X [a, b] (liftA X.K XA E f)) (hs : starEach [a, b] X.env = (false, eval a X.env) :: starEach [b] X.env := by rfl) (hpl : (backTo pos (starEach [b] X.env)).any (·.1) = false := by rfl) :
    PI X (.Tuple elts kk tpos) (.Call (.Name "zip" p) [a, b] [] pos) (liftI X.K XA E (fItA f fun ds st => match ds with
      | [.lst a, .lst b] => some ((a.zip b).map fun p => .tup [p.1, p.2])
      | _ => none)) := by
  refine PI.weak (pi_zip hg hm ha hs hpl) fun σ H R h => ?_
  refine itA_lift h fun ds st1 φ1 H1 vs xs g r0 hk q => ?_
  split at hk
  · cases hk
    obtain ⟨v, u, rfl, r, r2⟩ := rds2 r0
    cases r with
    | lst h1 m1 r1 p1 =>
      cases r2 with
      | lst h2 m2 r2 p2 => exact ⟨_, _, _, _, rfl, SqL.of h1, SqL.of h2, q _ (iter_zip h1 m1 r1 p1 h2 m2 r2 p2 g.notup)⟩
  · cases hk
end
end EV

set_option Elab.async false
set_option maxRecDepth 100000
set_option maxHeartbeats 2000000
namespace EV
open PySem PySem.Spec PyProof.Rows L2
abbrev FF := List D → Sto → R
/-! ### defs -/
/-- the def's end: what is handed back; its own cells are dropped -/
def endF (b : Nat) (st : Sto) (d : D) (fr : Bool) : R := match d with
  | .cell i => if i < b then .ok (.cell i) false (st.take b) else (match st[i]? with
    | some (.lst xs) => .ok (.lst xs) true (st.take b)
    | some (.dic false k) => .ok (.dic k) true (st.take b)
    | some (.dit false k) => .ok (.dit k) true (st.take b)
    | _ => .stuck)
  | d => .ok d fr (st.take b)
def endB (b : Nat) : RS → R
  | .nxt _ st' => .ok .non false (st'.take b)
  | .ret d fr st' => endF b st' d fr
  | .exc c d _ st' => if isP d = true then .exc c d (st'.take b) else .stuck
  | _ => .stuck
/-- np parameters, n slots -/
def mkFn (np n : Nat) (body : FS) : FF := fun ds st => if ds.length = np then endB st.length (body ⟨st.length, ds.map some ++ List.replicate (n - np) none⟩ st) else .stuck
def liftF (K : PySem.W.Frag) (XA : XAT) (fs : FF) : Sp := fun vs H Q E => ∃ φ st ds, Good K φ H st ∧ RDs K φ H ds vs ∧ RQ K XA φ H E Q (fs ds st)
section
variable {K : PySem.W.Frag} {XA : XAT}
theorem Good.drop2 {φ1 φ2 : List Addr} {H : Hp} {a : Addr} {c : CO} {st : Sto} (g : Good K (φ1 ++ φ2 ++ [a]) H (st ++ [c])) : Good K (φ1 ++ [a]) H (st.take φ1.length ++ [c]) := by
  have l := g.len
  rw [List.length_append, List.length_append, List.length_append] at l
  have l2 : φ1.length + φ2.length = st.length := by simpa using l
  have nd := g.nd
  have sub : ∀ b ∈ φ1 ++ [a], b ∈ φ1 ++ φ2 ++ [a] := fun b m => by
    rcases List.mem_append.mp m with m | m
    · exact List.mem_append_left _ (List.mem_append_left _ m)
    · exact List.mem_append_right _ m
  refine ⟨by rw [List.length_append, List.length_append, List.length_take]; simp; omega, ?_, fun i c' b h1 h2 => ?_⟩
  · rw [List.append_assoc] at nd
    have n1 := List.nodup_append.mp nd
    rw [List.nodup_append]
    exact ⟨n1.1, by simp, fun x hx y hy => n1.2.2 x hx y (List.mem_append_right _ hy)⟩
  · by_cases hi : i < φ1.length
    · rw [List.getElem?_append_left hi] at h2
      rw [List.getElem?_append_left (by rw [List.length_take]; omega), List.getElem?_take_of_lt hi] at h1
      refine (g.at_ i c' b ?_ ?_).anti sub
      · rw [List.getElem?_append_left (by omega)]; exact h1
      · rw [List.append_assoc, List.getElem?_append_left hi]; exact h2
    · have h3 := (List.getElem?_eq_some_iff.mp h2).1
      rw [List.length_append] at h3
      have h4 : i < φ1.length + 1 := h3
      have e : i = φ1.length := by omega
      subst e
      rw [List.getElem?_concat_length] at h2
      cases h2
      rw [List.getElem?_append_right (by rw [List.length_take]; omega), List.length_take, Nat.min_eq_left (by omega), Nat.sub_self] at h1
      cases h1
      refine (g.at_ (φ1 ++ φ2).length c a ?_ ?_).anti sub
      · rw [List.length_append, l2, List.getElem?_concat_length]
      · rw [List.getElem?_concat_length]
/-- one of the later cells becomes the value handed back -/
theorem Good.pick {φ1 φ2 : List Addr} {H : Hp} {a : Addr} {c : CO} {st : Sto} {i : Nat} (g : Good K (φ1 ++ φ2) H st) (hi : φ1.length ≤ i) (hc : st[i]? = some c) (ha : (φ1 ++ φ2)[i]? = some a) : Good K (φ1 ++ [a]) H (st.take φ1.length ++ [c]) := by
  have l := g.len
  rw [List.length_append] at l
  have m2 : a ∈ φ2 := by
    rw [List.getElem?_append_right hi] at ha
    exact List.mem_of_getElem? ha
  have sub : ∀ b ∈ φ1 ++ [a], b ∈ φ1 ++ φ2 := fun b m => by
    rcases List.mem_append.mp m with m | m
    · exact List.mem_append_left _ m
    · rw [List.mem_singleton.mp m]; exact List.mem_append_right _ m2
  have n1 := List.nodup_append.mp g.nd
  refine ⟨by rw [List.length_append, List.length_append, List.length_take]; simp; omega, ?_, fun j c' b h1 h2 => ?_⟩
  · rw [List.nodup_append]
    exact ⟨n1.1, by simp, fun x hx y hy => by rw [List.mem_singleton.mp hy]; exact n1.2.2 x hx a m2⟩
  · by_cases hj : j < φ1.length
    · rw [List.getElem?_append_left hj] at h2
      rw [List.getElem?_append_left (by rw [List.length_take]; omega), List.getElem?_take_of_lt hj] at h1
      exact (g.at_ j c' b h1 (by rw [List.getElem?_append_left hj]; exact h2)).anti sub
    · have h3 := (List.getElem?_eq_some_iff.mp h2).1
      rw [List.length_append] at h3
      have h4 : j < φ1.length + 1 := h3
      have e : j = φ1.length := by omega
      subst e
      rw [List.getElem?_concat_length] at h2
      cases h2
      rw [List.getElem?_append_right (by rw [List.length_take]; omega), List.length_take, Nat.min_eq_left (by omega), Nat.sub_self] at h1
      cases h1
      exact (g.at_ i c a hc ha).anti sub
theorem Ext.base {φ φ2 : List Addr} {H H' : Hp} (x : Ext φ (φ ++ φ2) H H') : Ext φ φ H H' := ⟨⟨List.prefix_refl _, fun b m nm => absurd m nm, x.keep, x.keepL, x.dom⟩, x.keepK, x.keepT, x.keepF⟩
theorem end_ret {φ : List Addr} {H : Hp} {E : XK} {Q : VK} {st st' : Sto} {d : D} {fr : Bool} (l : φ.length = st.length) (q : RQ K XA φ H E Q (endF st.length st' d fr)) : ∀ φ' H' v, Ext φ φ' H H' → Good K φ' H' st' → RD K φ' H' d v → (fr = true → Frs K H φ' H' st' d v) → Q v H' := by
  intro φ' H' v x g r f
  obtain ⟨φ2, rfl⟩ := x.pre
  have sub : ∀ b ∈ φ, b ∈ φ ++ φ2 := fun b m => List.mem_append_left _ m
  have gf := g.first
  rw [l] at gf
  unfold endF at q
  split at q
  · rename_i i
    split at q
    · rename_i hi
      cases r with
      | cell h =>
        rw [List.getElem?_append_left (by omega)] at h
        exact q φ H' _ x.base gf (.cell h) fun z => by cases z
    · rename_i hi
      cases r with
      | @cell _ a h =>
        have hn : H a = none := by
          refine x.new a (List.mem_of_getElem? h) fun m => ?_
          rw [List.getElem?_append_right (by omega)] at h
          exact (List.nodup_append.mp g.nd).2.2 a m a (List.mem_of_getElem? h) rfl
        have nm : a ∉ φ := fun m => by
          rw [List.getElem?_append_right (by omega)] at h
          exact (List.nodup_append.mp g.nd).2.2 a m a (List.mem_of_getElem? h) rfl
        cases hc : st'[i]? with
        | none => rw [hc] at q; exact q.elim
        | some c =>
          rw [hc] at q
          have at_ := g.at_ i c a hc h
          have pk := g.pick (by omega) hc h
          rw [l] at pk
          cases c with
          | lst xs =>
            obtain ⟨vs, v1, v2, v3⟩ := at_
            exact q φ H' _ x.base gf (.lst v1 nm (v2.anti sub v3) v3) fun _ => ⟨a, _, rfl, hn, rfl, pk⟩
          | dic k kvs =>
            cases k with
            | true => exact q.elim
            | false =>
              obtain ⟨kus, v1, v2⟩ := at_
              rw [if_neg Bool.false_ne_true] at v1
              exact q φ H' _ x.base gf (.dic (.inl v1) nm (v2.anti sub)) fun _ => ⟨a, _, rfl, hn, rfl, pk⟩
          | dit k kvs =>
            cases k with
            | true => exact q.elim
            | false =>
              obtain ⟨kus, v1, v2⟩ := at_
              rw [if_neg Bool.false_ne_true] at v1
              exact q φ H' _ x.base gf (.dit (.inl v1) nm v2) fun _ => ⟨a, _, rfl, hn, rfl, pk⟩
          | acc n xs => exact q.elim
  · rename_i d hd
    refine q φ H' v x.base gf ?_ fun z => ?_
    · cases r with
      | cell h => exact absurd rfl (hd _)
      | scr h => exact .scr (h.imp (fun h => ⟨h.1, fun m => h.2 (sub _ m)⟩) id)
      | non => exact .non
      | bl b => exact .bl b
      | int i => exact .int i
      | str x => exact .str x
      | tup t r p => exact .tup t (r.anti sub p) p
      | lst t n r p => exact .lst t (fun m => n (sub _ m)) (r.anti sub p) p
      | dic t n r => exact .dic t (fun m => n (sub _ m)) (r.anti sub)
      | dit t n r => exact .dit t (fun m => n (sub _ m)) r
    · obtain ⟨a, c, e1, e2, e3, e4⟩ := f z
      have e5 := e4.drop2
      rw [l] at e5
      exact ⟨a, c, e1, e2, e3, e5⟩
end
section
variable {P : Program} {w : World} {K : PySem.W.Frag} {mg : Str → Option Value} {base : Heap} {XA : XAT}
theorem init_now {φ : List Addr} {H : Hp} {st : Sto} {ds : List D} {vs : List V} {N : List Str} (g : Good K φ H st) (r : RDs K φ H ds vs) (hl : ds.length ≤ N.length) : Now K φ H (L2.start N vs) ⟨st.length, ds.map some ++ List.replicate (N.length - ds.length) none⟩ st := by
  refine ⟨⟨?_, fun i d h => ?_⟩, g, Nat.le_refl _⟩
  · unfold L2.start
    rw [List.length_append, List.length_append, List.length_map, List.length_map, List.length_replicate, List.length_replicate, r.length]
  · have hi : i < ds.length := by
      by_cases hi : i < ds.length
      · exact hi
      · rw [List.getElem?_append_right (by rw [List.length_map]; omega), List.getElem?_replicate] at h
        split at h <;> cases h
    rw [List.getElem?_append_left (by rw [List.length_map]; exact hi), List.getElem?_map] at h
    cases hd : ds[i]? with
    | none => rw [hd] at h; cases h
    | some e =>
      rw [hd] at h
      cases h
      obtain ⟨v, hv, rv⟩ := r.get hd
      refine ⟨v, ?_, rv⟩
      unfold L2.start
      rw [List.getElem?_append_left (by rw [List.length_map, ← r.length]; exact hi), List.getElem?_map, hv]
      rfl
/-- how an error lies does not hang on the cells of the def that it leaves -/
def XAok (XA : XAT) : Prop := ∀ c d cls dd (φ φ' : List Addr) H, isP d = true → (∀ b ∈ φ', b ∈ φ) → XA c d cls dd φ H → XA c d cls dd φ' H
/-- THE RULE for a def -/
theorem fn_ok {CX : CXT} {N ps : List Str} {k : Nat} {x qual : Str} {params : Arguments} {body : List Stmt} {scope : Scope} {dvs : List V} {kws : List (Str × V)} {f : Addr} {fd : FuncData} {fb : FS} (hX : XAok XA) (F : FunD K x qual params body scope dvs kws f fd) (S : FnScope N ps scope)
    (hbody : ∀ (cdv : Value) (A : Around) (outer : List Env) (s : Shared) (H : Hp) (E : XK), Room k (A.deeper (envOfC qual scope s.heap.objs.size f cdv)) → PSs (cxOf CX P w K mg base N qual scope f cdv A outer s H E) body (liftS K XA (fun _ => E) fb)) :
    FnOk P w K mg base CX (k + 1) f fd ps (liftF K XA (mkFn ps.length N.length fb)) := by
  refine F.ok S (fun vs H Q E h => ?_) fun cdv A outer s H vs Q E hr h => ⟨_, hbody cdv A outer s H E hr, ?_⟩
  · obtain ⟨φ, st, ds, g, r, q⟩ := h
    unfold mkFn at q
    split at q
    · rename_i hl
      rw [← r.length]
      exact hl
    · exact q.elim
  · obtain ⟨φ, st, ds, g, r, q⟩ := h
    unfold mkFn at q
    split at q
    · rename_i hl
      have hN : ps.length ≤ N.length := by
        have := congrArg List.length S.pre
        rw [List.length_take] at this
        omega
      rw [← hl] at q hN
      refine ⟨_, st, φ, init_now g r hN, ?_⟩
      cases hb : fb ⟨st.length, ds.map some ++ List.replicate (N.length - ds.length) none⟩ st with
      | nxt s' st' =>
        rw [hb] at q
        intro φ' H' σ' x g' _
        obtain ⟨φ2, rfl⟩ := x.pre
        have gf := g'.first
        rw [g.len] at gf
        exact q φ H' _ x.base gf .non fun z => by cases z
      | ret d fr st' =>
        rw [hb] at q
        exact end_ret g.len q
      | exc c d s' st' =>
        rw [hb] at q
        intro φ' H' σ' cls dd x g' _ z
        obtain ⟨φ2, rfl⟩ := x.pre
        have gf := g'.first
        rw [g.len] at gf
        unfold endB at q
        simp only [] at q
        split at q
        · rename_i hp
          exact q φ H' cls dd x.base gf (hX c d cls dd _ _ H' hp (fun b m => List.mem_append_left _ m) z)
        · exact q.elim
      | brk s' st' => rw [hb] at q; exact q.elim
      | cnt s' st' => rw [hb] at q; exact q.elim
      | stuck => rw [hb] at q; exact q.elim
    · exact q.elim
end
/-! ### a call of a def that raises nothing -/
def noX : R → R
  | .exc _ _ _ => .stuck
  | r => r
def fCall (fs : FF) (f : FA) : FE := fun e st => match f e st with
  | .ok ds st1 => noX (fs ds st1)
  | .exc c d st1 => .exc c d st1
  | .stuck => .stuck
section
variable {X : Cx} {XA : XAT} {E : L2.St → XK}
theorem e_call {k : Nat} {fa : Addr} {fd : FuncData} {ps : List Str} {fs : FF} {f : FA} {x : Str} {a : Expr} {es : List Expr} {p pos : Pos} (F : FnOk X.prog X.w X.K X.mg X.base CX0 k fa fd ps (liftF X.K XA fs)) (hr : Room k X.A) (hg : Gl X x) (hm : X.mg x = some (.ref fa)) (hk : PySem.W.keepIn X.K (.ref fa) = true) (hb : Binds X.K fd ps [])
    (ha : PA X (a :: es) (liftA X.K XA E f)) (hdb : (x == ("__debug__" : Str)) = false := by decide) (he : starEach (a :: es) X.env = (false, eval a X.env) :: starEach es X.env := by rfl) (hpl : (backTo pos (starEach es X.env)).any (·.1) = false := by rfl) :
    PE X (.Call (.Name x p) (a :: es) [] pos) (lift X.K XA E (fCall fs f)) := by
  refine PE.weak (pe_call (E := L2.E0) F hr hg hm hk hb .nil pass0 ha hdb he hpl) ?_
  rintro σ H Q ⟨e, st, φ, n, q⟩
  refine ⟨e, st, φ, n, ?_⟩
  unfold fCall at q
  cases hf : f e st with
  | stuck => rw [hf] at q; exact q
  | exc c d st1 => rw [hf] at q; exact q
  | ok ds st1 =>
    rw [hf] at q
    intro φ1 H1 vs x1 g1 r1
    show liftF X.K XA fs (vs ++ []) H1 Q L2.E0
    rw [List.append_nil]
    refine ⟨φ1, st1, ds, g1, r1, ?_⟩
    have q2 : RQ X.K XA φ1 H1 (E σ) Q (noX (fs ds st1)) := RQ.mono x1 q fun _ _ z => z
    cases hr2 : fs ds st1 with
    | ok d fr st2 => rw [hr2] at q2; exact q2
    | exc c d st2 => rw [hr2] at q2; exact q2.elim
    | stuck => rw [hr2] at q2; exact q2.elim
end
end EV

set_option Elab.async false
set_option maxRecDepth 100000
set_option maxHeartbeats 2000000
namespace EV
open PySem PySem.Spec PyProof.Rows L2
/-- a def of the module that raises nothing: it does fs, by at most k rooms -/
structure Fn (P : Program) (w : World) (K : PySem.W.Frag) (mg : Str → Option Value) (base : Heap) (XA : XAT) (x : Str) (ps : List Str) (k : Nat) (fs : FF) : Prop where
  ex : ∃ fa fd, mg x = some (.ref fa) ∧ PySem.W.keepIn K (.ref fa) = true ∧ Binds K fd ps [] ∧ FnOk P w K mg base CX0 k fa fd ps (liftF K XA fs)
section
variable {X : Cx} {XA : XAT} {E : L2.St → XK}
theorem e_fn {k k' : Nat} {ps : List Str} {fs : FF} {f : FA} {x : Str} {a : Expr} {es : List Expr} {p pos : Pos} (G : Fn X.prog X.w X.K X.mg X.base XA x ps k fs) (hr : Room k' X.A) (hk : k ≤ k') (hg : Gl X x)
    (ha : PA X (a :: es) (liftA X.K XA E f)) (hdb : (x == ("__debug__" : Str)) = false) (he : starEach (a :: es) X.env = (false, eval a X.env) :: starEach es X.env := by rfl) (hpl : (backTo pos (starEach es X.env)).any (·.1) = false := by rfl) :
    PE X (.Call (.Name x p) (a :: es) [] pos) (lift X.K XA E (fCall fs f)) := by
  obtain ⟨fa, fd, hm, kp, hb, F⟩ := G.ex
  exact e_call F (hr.mono hk) hg hm kp hb ha hdb he hpl
end
/-- what the module's top has written -/
structure Tx (K : PySem.W.Frag) (mg : Str → Option Value) (fr : List Str) : Prop where
  free : ∀ x ∈ fr, mg x = none
end EV

set_option Elab.async false
set_option maxRecDepth 100000
set_option maxHeartbeats 2000000
namespace EV
open PySem PySem.Spec PyProof.Rows L2
/-! ### methods that change a list -/
abbrev MOp := List D → CO → Option (D × CO)
def mGo (op : MOp) (i : Nat) (ds : List D) (st : Sto) : R := match st[i]? with
  | some c => (match op ds c with
    | some (d, c') => .ok d false (st.set i c')
    | none => .stuck)
  | none => .stuck
def isLs : Option CO → Bool
  | some (.lst _) => true
  | _ => false
def kMut (op : MOp) (fb : FA) : D → FE
  | .cell i => fun e st => if isLs st[i]? = true then (match fb e st with
      | .ok ds st1 => mGo op i ds st1
      | .exc c d st1 => .exc c d st1
      | .stuck => .stuck) else .stuck
  | _ => kStuck
def fMut (op : MOp) (fa : FE) (fb : FA) : FE := fBind fa (kMut op fb)
def OpM (K : PySem.W.Frag) (r : V → List V → Hp → VK → Prop) (op : MOp) : Prop :=
  ∀ (φ : List Addr) (H : Hp) (st : Sto) (i : Nat) (a : Addr) (c c' : CO) (ds : List D) (vs : List V) (d : D) (Q : VK), Good K φ H st → st[i]? = some c → φ[i]? = some a → RDs K φ H ds vs → op ds c = some (d, c') →
    (∀ H' v, Ext φ φ H H' → Good K φ H' (st.set i c') → RD K φ H' d v → Q v H') → r (.ref a) vs H Q
section
variable {X : Cx} {XA : XAT} {E : L2.St → XK}
theorem isLs_ok {K : PySem.W.Frag} {φ : List Addr} {H : Hp} {st : Sto} {i : Nat} {a : Addr} (g : Good K φ H st) (h : isLs st[i]? = true) (ha : φ[i]? = some a) : ∃ xs, H a = some (.lst xs) := by
  cases hc : st[i]? with
  | none => rw [hc] at h; cases h
  | some c =>
    rw [hc] at h
    cases c with
    | lst ds => obtain ⟨vs, h1, _⟩ := g.at_ i _ a hc ha; exact ⟨vs, h1⟩
    | _ => cases h
theorem Good.cell_addr {K : PySem.W.Frag} {φ : List Addr} {H : Hp} {st : Sto} {i : Nat} {c : CO} (g : Good K φ H st) (h : st[i]? = some c) : ∃ a, φ[i]? = some a := by
  have := (List.getElem?_eq_some_iff.mp h).1
  rw [← g.len] at this
  exact ⟨φ[i], by simp [this]⟩
theorem t_mut {K : PySem.W.Frag} {r : V → List V → Hp → VK → Prop} {op : MOp} {fa : FE} {fb : FA} {σ : L2.St} {H : Hp} {Q : VK} (hO : OpM K r op) (h : lift K XA E (fMut op fa fb) σ H Q) :
    lift K XA E fa σ H fun x H1 => tyV K "list" x H1 ∧ liftA K XA E fb σ H1 fun vs H2 => r x vs H2 Q := by
  obtain ⟨e, st, φ, n, q⟩ := h
  refine RQ.bind n q fun x fx φ1 H1 st1 v1 ef x1 n1 r1 q1 => ?_
  cases r1 with
  | @cell i a hc =>
    have q2 : RQ K XA φ1 H1 (E σ) Q (if isLs st1[i]? = true then (match fb e st1 with
      | .ok ds st1 => mGo op i ds st1
      | .exc c d st1 => .exc c d st1
      | .stuck => .stuck) else .stuck) := q1
    split at q2
    · rename_i hl
      obtain ⟨xs, hx⟩ := isLs_ok n1.good hl hc
      refine ⟨.inl ⟨rfl, xs, SqL.of hx⟩, e, st1, φ1, n1, ?_⟩
      cases hf : fb e st1 with
      | stuck => rw [hf] at q2; exact q2
      | exc c d st2 => rw [hf] at q2; exact q2
      | ok ds st2 =>
        rw [hf] at q2
        intro φ2 H2 vs x2 g2 r2
        have q3 : RQ K XA φ2 H2 (E σ) Q (mGo op i ds st2) := RQ.mono x2 q2 fun _ _ z => z
        unfold mGo at q3
        cases hs : st2[i]? with
        | none => rw [hs] at q3; exact q3.elim
        | some c =>
          rw [hs] at q3
          cases ho : op ds c with
          | none => simp only [ho] at q3; exact q3.elim
          | some p =>
            obtain ⟨d, c'⟩ := p
            simp only [ho] at q3
            have hc2 : φ2[i]? = some a := by
              obtain ⟨t, rfl⟩ := x2.pre
              rw [List.getElem?_append_left (List.getElem?_eq_some_iff.mp hc).1]
              exact hc
            exact hO φ2 H2 st2 i a c c' ds vs d Q g2 hs hc2 r2 ho fun H' v x3 g3 r3 => q3 φ2 H' v x3 g3 r3 fun z => by cases z
    · exact q2.elim
  | _ => exact q1.elim
variable {fa : FE} {fb : FA} {op : MOp} {o a : Expr} {es : List Expr} {name : Str} {id : String} {apos cpos : Pos} {r : V → List V → Hp → VK → Prop}
theorem e_mut (slot : Slot "list" name id) (hty : typeOf (.builtin id) = pure (.type "method_descriptor")) (hm : MtM X id r) (hO : OpM X.K r op) (ho : PE X o (lift X.K XA E fa)) (ha : PA X (a :: es) (liftA X.K XA E fb))
    (hbase : attributeBase o name X.env (eval o X.env) = eval o X.env := by rfl)
    (hfew : ((backTo cpos (starEach (a :: es) X.env)).all (fun x => !x.1) && (backToKw cpos (keywordEach [] X.env)).all (fun x => x.1.isSome)
      && decide ((a :: es).length + ([] : List Keyword).length + (if ([] : List Keyword).isEmpty then 0 else 1) < 30)) = true := by rfl)
    (hline : (apos.endLine == cpos.line) = true := by rfl) (hs : starEach (a :: es) X.env = (false, eval a X.env) :: starEach es X.env := by rfl) (hplain : (backTo cpos (starEach es X.env)).any (·.1) = false := by rfl) :
    PE X (.Call (.Attribute o name apos) (a :: es) [] cpos) (lift X.K XA E (fMut op fa fb)) :=
  PE.weak (pe_bm PySem.F.plainAttrs_list slot hty hm ho ha hbase hfew hline hs hplain) fun σ H Q h => t_mut hO h
theorem e_mut0 (slot : Slot "list" name id) (hty : typeOf (.builtin id) = pure (.type "method_descriptor")) (hm : MtM X id r) (hO : OpM X.K r op) (ho : PE X o (lift X.K XA E fa))
    (hbase : attributeBase o name X.env (eval o X.env) = eval o X.env := by rfl) (hline : (apos.endLine == cpos.line) = true := by rfl) : PE X (.Call (.Attribute o name apos) [] [] cpos) (lift X.K XA E (fMut op fa aNil)) := by
  refine PE.weak (pe_bm0 PySem.F.plainAttrs_list slot hty hm ho hbase hline) fun σ H Q h => ?_
  have := t_mut (XA := XA) (E := E) hO h
  obtain ⟨e, st, φ, n, q⟩ := this
  refine ⟨e, st, φ, n, ?_⟩
  cases hf : fa e st with
  | ok d fr st1 =>
    rw [hf] at q
    intro φ1 H1 v x g rr f
    obtain ⟨t, e2, st2, φ2, n2, q2⟩ := q φ1 H1 v x g rr f
    exact ⟨t, q2 φ2 H1 [] (Ext.refl _ _) n2.good .nil⟩
  | exc c d st1 => rw [hf] at q; exact q
  | stuck => rw [hf] at q; exact q
/-! ### the operations -/
def mAppend : MOp := fun ds c => match ds, c with
  | [d], .lst xs => if isP d && decide (xs.length < SZ) then some (.non, .lst (xs ++ [d])) else none
  | _, _ => none
def mExtend : MOp := fun ds c => match ds, c with
  | [.lst ys], .lst xs => if decide (xs.length + ys.length ≤ SZ) then some (.non, .lst (xs ++ ys)) else none
  | _, _ => none
def mPop : MOp := fun ds c => match ds, c with
  | [], .lst xs => (match xs[xs.length - 1]? with
    | some d => some (d, .lst xs.dropLast)
    | none => none)
  | _, _ => none
def mInsert : MOp := fun ds c => match ds, c with
  | [.int i, d], .lst xs => if isP d && decide (xs.length < SZ) && decide (0 ≤ i) && decide (i < 2 ^ 62) then some (.non, .lst (xs.take i.toNat ++ d :: xs.drop i.toNat)) else none
  | _, _ => none
variable {K : PySem.W.Frag}
theorem set_lst {φ : List Addr} {H : Hp} {st : Sto} {i : Nat} {a : Addr} {xs : List D} {us : List V} {c : CO} (g : Good K φ H st) (hs : st[i]? = some c) (ha : φ[i]? = some a) (hu : ∃ vs, H a = some (.lst vs)) (r : RDs K φ H xs us) (p : xs.all isP = true) :
    Ext φ φ H (upd H a (.lst us)) ∧ Good K φ (upd H a (.lst us)) (st.set i (.lst xs)) := by
  obtain ⟨vs, h1⟩ := hu
  have x : Ext φ φ H (upd H a (.lst us)) := ext_upd (List.mem_of_getElem? ha) h1 fun _ _ z => by cases z
  exact ⟨x, g.setc ha x (fun b _ nb => upd_ne nb) ⟨us, upd_same, r.keep x g.notup, p⟩⟩
theorem m_append : OpM K rAppend mAppend := by
  intro φ H st i a c c' ds vs d Q g hs ha rx ho q
  unfold mAppend at ho
  split at ho
  · rename_i d1 xs
    split at ho
    · rename_i hc
      cases ho
      rw [Bool.and_eq_true] at hc
      obtain ⟨v, rfl, r⟩ := rds1 rx
      obtain ⟨us, h1, h2, h3⟩ := g.at_ i _ a hs ha
      obtain ⟨x, g2⟩ := set_lst (xs := xs ++ [d1]) g hs ha ⟨us, h1⟩ (h2.append (.cons r .nil)) (all_append h3 (by rw [List.all_cons, hc.1]; rfl))
      exact ⟨a, us, v, rfl, rfl, h1, by rw [← h2.length, sz_eq]; exact of_decide_eq_true hc.2, q _ _ x g2 .non⟩
    · cases ho
  · cases ho
theorem m_extend : OpM K rExtend mExtend := by
  intro φ H st i a c c' ds vs d Q g hs ha rx ho q
  unfold mExtend at ho
  split at ho
  · rename_i ys xs
    split at ho
    · rename_i hc
      cases ho
      obtain ⟨v, rfl, r⟩ := rds1 rx
      cases r with
      | lst h4 n4 r4 p4 =>
        obtain ⟨us, h1, h2, h3⟩ := g.at_ i _ a hs ha
        obtain ⟨x, g2⟩ := set_lst (xs := xs ++ ys) g hs ha ⟨us, h1⟩ (h2.append r4) (all_append h3 p4)
        exact ⟨a, _, us, _, rfl, rfl, h1, h4, by rw [← h2.length, ← r4.length, sz_eq]; exact of_decide_eq_true hc, q _ _ x g2 .non⟩
    · cases ho
  · cases ho
theorem RDs.dropLast {φ : List Addr} {H : Hp} {xs : List D} {us : List V} (r : RDs K φ H xs us) : RDs K φ H xs.dropLast us.dropLast := by
  rw [List.dropLast_eq_take, List.dropLast_eq_take, r.length]
  exact r.take _
theorem m_pop : OpM K rPop mPop := by
  intro φ H st i a c c' ds vs d Q g hs ha rx ho q
  unfold mPop at ho
  split at ho
  · rename_i xs
    split at ho
    · rename_i d1 hd
      cases ho
      cases rx
      obtain ⟨us, h1, h2, h3⟩ := g.at_ i _ a hs ha
      obtain ⟨x, g2⟩ := set_lst (xs := xs.dropLast) g hs ha ⟨us, h1⟩ h2.dropLast (by
        rw [List.all_eq_true] at h3 ⊢
        exact fun y hy => h3 y ((List.dropLast_sublist xs).subset hy))
      obtain ⟨v, hv, rv⟩ := h2.get hd
      exact ⟨a, us, v, rfl, rfl, h1, by rw [← h2.length]; exact hv, q _ _ x g2 (rv.keep x g.notup)⟩
    · cases ho
  · cases ho
end
end EV

set_option Elab.async false
set_option maxRecDepth 100000
set_option maxHeartbeats 2000000
namespace EV
open PySem PySem.Spec PyProof.Rows L2
section
variable {X : Cx} {XA : XAT} {E : L2.St → XK} {K : PySem.W.Frag}
theorem m_insert : OpM K (fun x vs H Q => ∃ (l : Addr) (xs : List V) (i : Int) (y : V), x = .ref l ∧ vs = [.int i, y] ∧ H l = some (.lst xs) ∧ xs.length < sizeLine ∧ 0 ≤ i ∧ i < 2 ^ 63 ∧
    Q .non (upd H l (.lst (xs.take i.toNat ++ [y] ++ xs.drop i.toNat)))) mInsert := by
  intro φ H st i a c c' ds vs d Q g hs ha rx ho q
  unfold mInsert at ho
  split at ho
  · rename_i k d1 xs
    split at ho
    · rename_i hc
      cases ho
      simp only [Bool.and_eq_true, decide_eq_true_eq] at hc
      obtain ⟨v, u, rfl, r, r2⟩ := rds2 rx
      cases r
      obtain ⟨us, h1, h2, h3⟩ := g.at_ i _ a hs ha
      have r3 : RDs K φ H (xs.take k.toNat ++ d1 :: xs.drop k.toNat) (us.take k.toNat ++ [u] ++ us.drop k.toNat) := by
        rw [List.append_assoc]
        exact (h2.take _).append (.cons r2 (h2.drop _))
      have p3 : (xs.take k.toNat ++ d1 :: xs.drop k.toNat).all isP = true := by
        rw [List.all_eq_true] at h3 ⊢
        intro y hy
        rcases List.mem_append.mp hy with m | m
        · exact h3 y (List.mem_of_mem_take m)
        · rcases List.mem_cons.mp m with m | m
          · rw [m]; exact hc.1.1.1
          · exact h3 y (List.mem_of_mem_drop m)
      obtain ⟨x, g2⟩ := set_lst g hs ha ⟨us, h1⟩ r3 p3
      exact ⟨a, us, k, u, rfl, rfl, h1, by rw [← h2.length, sz_eq]; exact hc.1.1.2, hc.1.2, by omega, q _ _ x g2 .non⟩
    · cases ho
  · cases ho
/-! ### x[i] = v -/
def setL (i : Nat) (k : D) (v : D) (st : Sto) : Option Sto := match st[i]?, k with
  | some (.lst xs), .int k => if isP v = true then (ixN xs.length k).map fun j => st.set i (.lst (xs.set j v)) else none
  | _, _ => none
def setD (i : Nat) (k : D) (v : D) (st : Sto) : Option Sto := match st[i]?, toK k with
  | some (.dic false kvs), some k => if isP v && decide (kvs.length < SZ) then some (st.set i (.dic false (putD kvs k v))) else none
  | _, _ => none
def ofS (o : Option Sto) (e : Fr) : RS := match o with
  | some st => .nxt e.s st
  | none => .stuck
/-- value, then the list or dict, then the place -/
def fPut (set : Nat → D → D → Sto → Option Sto) (fo fi fv : FE) : FS := fBindS fv fun v _ => fBindS fo fun o _ => fBindS fi fun k _ e st => match o with
  | .cell i => ofS (set i k v st) e
  | _ => .stuck
theorem RDs.set {φ : List Addr} {H : Hp} {v : D} {vv : V} (rv : RD K φ H v vv) : ∀ {xs : List D} {us : List V} (j : Nat), RDs K φ H xs us → RDs K φ H (xs.set j v) (us.set j vv)
  | _, _, _, .nil => .nil
  | _, _, 0, .cons r rs => .cons rv rs
  | _, _, j + 1, .cons r rs => .cons r (RDs.set rv j rs)
theorem setL_ok {φ : List Addr} {H : Hp} {st st' : Sto} {i : Nat} {a : Addr} {k v : D} {vk vv : V} {Q : Hp → Prop} (g : Good K φ H st) (ha : φ[i]? = some a) (rk : RD K φ H k vk) (rv : RD K φ H v vv) (h : setL i k v st = some st')
    (q : ∀ H', Ext φ φ H H' → Good K φ H' st' → Q H') : rSetL (.ref a) vk vv H Q := by
  unfold setL at h
  split at h
  · rename_i xs n hs
    split at h
    · rename_i hp
      cases hj : ixN xs.length n with
      | none => rw [hj] at h; cases h
      | some j =>
        rw [hj] at h
        cases h
        cases rk
        obtain ⟨us, h1, h2, h3⟩ := g.at_ i _ a hs ha
        have r3 : RDs K φ H (xs.set j v) (us.set j vv) := h2.set rv j
        have p3 : (xs.set j v).all isP = true := by
          rw [List.all_eq_true] at h3 ⊢
          intro y hy
          rcases List.mem_or_eq_of_mem_set hy with m | m
          · exact h3 y m
          · rw [m]; exact hp
        obtain ⟨x, g2⟩ := set_lst g hs ha ⟨us, h1⟩ r3 p3
        exact ⟨a, us, n, j, rfl, rfl, h1, by rw [← h2.length]; exact hj, q _ x g2⟩
    · cases h
  · cases h
theorem setD_ok {φ : List Addr} {H : Hp} {st st' : Sto} {i : Nat} {a : Addr} {k v : D} {vk vv : V} {Q : Hp → Prop} (g : Good K φ H st) (ha : φ[i]? = some a) (rk : RD K φ H k vk) (rv : RD K φ H v vv) (h : setD i k v st = some st')
    (q : ∀ H', Ext φ φ H H' → Good K φ H' st' → Q H') : ∃ H', DPut H a vk vv H' ∧ Q H' := by
  unfold setD at h
  split at h
  · rename_i kvs k1 hs hk
    split at h
    · rename_i hp
      cases h
      rw [Bool.and_eq_true] at hp
      obtain ⟨kus, h1, h2⟩ := g.at_ i _ a hs ha
      rw [if_neg Bool.false_ne_true] at h1
      have x : Ext φ φ H (upd H a (.dK (putK kus k1.key vv))) := ext_upd (List.mem_of_getElem? ha) h1 fun _ _ z => by cases z
      have g2 : Good K φ (upd H a (.dK (putK kus k1.key vv))) (st.set i (.dic false (putD kvs k1 v))) := g.setc ha x (fun b _ nb => upd_ne nb) ⟨_, by rw [if_neg Bool.false_ne_true]; exact upd_same, (putD_ok rv hp.1 h2).keep x g.notup⟩
      exact ⟨_, .inl ⟨kus, k1.key, h1, toK_rd rk hk, by rw [← h2.length, sz_eq]; exact of_decide_eq_true hp.2, rfl⟩, q _ x g2⟩
    · cases h
  · cases h
variable {fo fi fv : FE} {o i v : Expr} {pos pos' : Pos}
theorem s_setL (ho : PE X o (lift X.K XA E fo)) (hi : PE X i (lift X.K XA E fi)) (hv : PE X v (lift X.K XA E fv))
    (ha : ∀ v, assign (.Subscript o i pos') X.env v = (do
      let ov ← holding [v] (eval o X.env)
      let iv ← holding [v, ov] (eval i X.env)
      standAt pos'
      holding [v, ov, iv] (setItem ov iv v)
      release [v, ov, iv] []) := by intro _; rfl) (hs : swapsWithSole [.Subscript o i pos'] v pos.line X.env = pure false := by rfl) (hw : swappedStores [.Subscript o i pos'] v X.env = pure none := by rfl)
    (h1 : (assignEach [.Subscript o i pos'] X.env).map (·.2) = [assign (.Subscript o i pos') X.env] := by rfl) : PS X (.Assign [.Subscript o i pos'] v pos) (liftS X.K XA E (fPut setL fo fi fv)) := by
  refine PS.weak (ps_asg hv (pg_sub ho hi set_list ha) hs hw h1) ?_
  rintro D σ H ⟨e, st, φ, n, q⟩
  refine RQS.bind n q fun d fr φ1 H1 st1 v1 x1 n1 r1 f1 q1 => ?_
  refine RQS.bind n1 q1 fun d2 fr2 φ2 H2 st2 v2 x2 n2 r2 f2 q2 => ?_
  refine RQS.bind n2 q2 fun d3 fr3 φ3 H3 st3 v3 x3 n3 r3 f3 q3 => ?_
  cases r2 with
  | @cell j a hc =>
    have hc3 : φ3[j]? = some a := by
      obtain ⟨t, rfl⟩ := x3.pre
      rw [List.getElem?_append_left (List.getElem?_eq_some_iff.mp hc).1]
      exact hc
    have q4 : RQS X.K XA φ3 H3 E D (ofS (setL j d3 d st3) e) := q3
    cases hs : setL j d3 d st3 with
    | none => rw [hs] at q4; exact q4.elim
    | some st4 =>
      rw [hs] at q4
      exact setL_ok n3.good hc3 r3 ((r1.keep x2 n1.good.notup).keep x3 n2.good.notup) hs fun H4 x4 g4 => q4 φ3 H4 σ x4 g4 (n3.rel.keep x4 n3.good.notup)
  | _ => exact q3.elim
theorem s_setD (hu : X.A.units + 1 < cLine) (ho : PE X o (lift X.K XA E fo)) (hi : PE X i (lift X.K XA E fi)) (hv : PE X v (lift X.K XA E fv)) (hs : swapsWith v (some (.Subscript o i pos')) pos.line X.env = pure false := by rfl) :
    PS X (.Assign [.Subscript o i pos'] v pos) (liftS X.K XA E (fPut setD fo fi fv)) := by
  refine PS.weak (ps_dput hu ho hi hv hs) ?_
  rintro D σ H ⟨e, st, φ, n, q⟩
  refine RQS.bind n q fun d fr φ1 H1 st1 v1 x1 n1 r1 f1 q1 => ?_
  refine RQS.bind n1 q1 fun d2 fr2 φ2 H2 st2 v2 x2 n2 r2 f2 q2 => ?_
  refine RQS.bind n2 q2 fun d3 fr3 φ3 H3 st3 v3 x3 n3 r3 f3 q3 => ?_
  cases r2 with
  | @cell j a hc =>
    have hc3 : φ3[j]? = some a := by
      obtain ⟨t, rfl⟩ := x3.pre
      rw [List.getElem?_append_left (List.getElem?_eq_some_iff.mp hc).1]
      exact hc
    have q4 : RQS X.K XA φ3 H3 E D (ofS (setD j d3 d st3) e) := q3
    cases hs : setD j d3 d st3 with
    | none => rw [hs] at q4; exact q4.elim
    | some st4 =>
      rw [hs] at q4
      obtain ⟨H4, h4, q5⟩ := setD_ok (Q := fun H4 => D.nx σ H4) n3.good hc3 r3 ((r1.keep x2 n1.good.notup).keep x3 n2.good.notup) hs fun H4 x4 g4 => q4 φ3 H4 σ x4 g4 (n3.rel.keep x4 n3.good.notup)
      exact ⟨a, H4, rfl, h4, q5⟩
  | _ => exact q3.elim
/-! ### x op= e -/
def fAug (i : Nat) (g : Sto → D → D → Option (D × Bool)) (f : FE) : FS := fun e st => match e.s[i]? with
  | some (some x) => fBindS f (fun y _ e st => match g st x y with
      | some (d, _) => .nxt (e.s.set i (some d)) st
      | none => .stuck) e st
  | _ => .stuck
theorem s_aug {i : Nat} {x : Str} {a : Expr} {f : FE} {op : Operator} {r : R2} {g : Sto → D → D → Option (D × Bool)} (hN : X.N.Nodup) (hi : X.N[i]? = some x) (hx : Loc X.env.scope x) (ha : PE X a (lift X.K XA E f)) (ho : OpR X (inplaceOp op) r) (hg : Op2 X.K r g) (hf : X.fn x = true ∨ X.env.scope.names.lookup x = some .local := by first | exact .inl rfl | exact .inr rfl | assumption) :
    PS X (.AugAssign (.Name x pos') op a pos) (liftS X.K XA E (fAug i g f)) := by
  refine PS.weak (ps_aug hN hi hx ha ho hf) ?_
  rintro D σ H ⟨e, st, φ, n, q⟩
  unfold fAug at q
  cases hd : e.s[i]? with
  | none => rw [hd] at q; exact q.elim
  | some od =>
    cases od with
    | none => rw [hd] at q; exact q.elim
    | some d0 =>
      rw [hd] at q
      obtain ⟨v0, h0, r0⟩ := n.rel.at_ i d0 hd
      refine ⟨v0, h0, ?_⟩
      refine RQS.bind n q fun y fr φ1 H1 st1 v1 x1 n1 r1 f1 q1 => ?_
      cases hz : g st1 d0 y with
      | none => simp only [hz] at q1; exact q1.elim
      | some p =>
        obtain ⟨d, fr⟩ := p
        simp only [hz] at q1
        exact hg φ1 H1 st1 d0 y d v0 v1 fr _ n1.good (r0.keep x1 n.good.notup) r1 hz fun H2 v2 x2 g2 r2 _ => q1 φ1 H2 _ x2 g2 ((n1.rel.keep x2 n1.good.notup).set r2 i)
theorem iop_mulW : OpR X (inplaceOp .Mult) (rI CMulW fun i j => .int (i * j)) := opI fun _ _ _ _ _ _ _ hc q => imul_int q hc.ok
theorem iop_fdivZ : OpR X (inplaceOp .FloorDiv) (rI CDivZ fun i j => .int (i.fdiv j)) := opI fun i j _ _ _ _ _ hc q =>
  ifloordiv_int hc.1 q (.inl (PyProof.noPylong_of_log2 hc.2))
theorem g_addI : Op2 K (rI0 fun i j => .int (i + j)) (gInt fun i j => some (.int (i + j))) := op2_gInt0 fun i j d h φ H => by cases h; exact .int _
end
end EV

set_option Elab.async false
set_option maxRecDepth 100000
set_option maxHeartbeats 2000000
namespace EV
open PySem PySem.Spec PyProof.Rows L2
section
variable {K : PySem.W.Frag} {φ φ' : List Addr} {H H' : Hp} {st : Sto} {a : Addr} {kus : List (Key × V)} {od : Obj}
theorem COat.keep0 {c : CO} (x : Ext0 φ φ' H H') (nt : NoTup φ H) (e : H' a = H a) (h : COat K φ H a c) : COat K φ' H' a c := by
  cases c with
  | lst ds =>
    obtain ⟨vs, h1, h2, h3⟩ := h
    exact ⟨vs, by rw [e]; exact h1, h2.keep0 x nt, h3⟩
  | acc _ ds =>
    obtain ⟨vs, h1, h2, h3⟩ := h
    exact ⟨vs, by rw [e]; exact h1, h2.keep0 x nt, h3⟩
  | dic k kvs =>
    obtain ⟨kus, h1, h2⟩ := h
    refine ⟨kus, ?_, h2.keep0 x nt⟩
    split
    · rename_i hk
      rw [if_pos hk] at h1
      rw [e]; exact h1
    · rename_i hk
      rw [if_neg hk] at h1
      rw [e]; exact h1
  | dit k kvs =>
    obtain ⟨kus, h1, h2⟩ := h
    refine ⟨kus, ?_, h2.keep0 x nt⟩
    split
    · rename_i hk
      rw [if_pos hk] at h1
      rw [e]; exact h1
    · rename_i hk
      rw [if_neg hk] at h1
      rw [e]; exact h1
/-- the cell at a is changed or none is -/
theorem Good.set0 {st' : Sto} (g : Good K φ H st) (x : Ext0 φ φ H H') (e : ∀ b ∈ φ, b ≠ a → H' b = H b) (l : st'.length = st.length) (o : ∀ (i : Nat) (b : Addr), φ[i]? = some b → b ≠ a → st'[i]? = st[i]?) (h : ∀ (i : Nat) (c : CO), φ[i]? = some a → st'[i]? = some c → COat K φ H' a c) : Good K φ H' st' := by
  refine ⟨by rw [l]; exact g.len, g.nd, fun j c b h1 h2 => ?_⟩
  by_cases hb : b = a
  · subst hb
    exact h j c h2 h1
  · rw [o j b h2 hb] at h1
    exact (g.at_ j c b h1 h2).keep0 x g.notup (e b (List.mem_of_getElem? h2) hb)
/-- the lock -/
theorem ext0_lock (h : H a = some (.dK kus)) : Ext0 φ φ H (upd H a (.frz od (.dK kus))) := by
  refine ⟨List.prefix_refl _, fun b m n => absurd m n, fun b w z r n => ?_, fun b w r n => ?_, fun b r => ?_⟩
  · by_cases e : b = a
    · subst e
      rcases r with r | ⟨o, r⟩
      · rw [h] at r; cases r; exact .inr ⟨od, upd_same⟩
      · rw [h] at r; cases r
    · exact rd_same (upd_ne e) r
  · have e : b ≠ a := fun e => by rw [e, h] at r; cases r
    rw [upd_ne e]; exact r
  · by_cases e : b = a
    · subst e; rw [upd_same] at r; cases r
    · rw [upd_ne e] at r; exact r
/-- .. and its end -/
theorem ext0_unlock (h : H a = some (.frz od (.dK kus))) : Ext0 φ φ H (upd H a (.dK kus)) := by
  refine ⟨List.prefix_refl _, fun b m n => absurd m n, fun b w z r n => ?_, fun b w r n => ?_, fun b r => ?_⟩
  · by_cases e : b = a
    · subst e
      rcases r with r | ⟨o, r⟩
      · rw [h] at r; cases r; exact z.elim
      · rw [h] at r; cases r; exact .inl upd_same
    · exact rd_same (upd_ne e) r
  · have e : b ≠ a := fun e => by rw [e, h] at r; cases r
    rw [upd_ne e]; exact r
  · by_cases e : b = a
    · subst e; rw [upd_same] at r; cases r
    · rw [upd_ne e] at r; exact r
theorem ext_locked (h : H a = some (.dK kus)) (x : Ext φ φ' (upd H a (.frz od (.dK kus))) H') : Ext φ φ' H (upd H' a (.dK kus)) := by
  have hl : H' a = some (.frz od (.dK kus)) := x.keepF a od _ upd_same
  have ne : ∀ b, b ≠ a → upd H a (.frz od (.dK kus)) b = H b := fun b e => upd_ne e
  refine ⟨⟨x.pre, fun b m n => ?_, fun b w z r n => ?_, fun b w r n => ?_, fun b r => ?_⟩, fun b w r n => ?_, fun b w r n => ?_, fun b o w r => ?_⟩
  · have := x.new b m n
    by_cases e : b = a
    · subst e; rw [upd_same] at this; cases this
    · rw [ne b e] at this; exact this
  · by_cases e : b = a
    · subst e
      rcases r with r | ⟨o, r⟩
      · rw [h] at r; cases r; exact .inl upd_same
      · rw [h] at r; cases r
    · exact rd_same (upd_ne e) (x.keep b w z (rd_same (ne b e) r) n)
  · have e : b ≠ a := fun e => by rw [e, h] at r; cases r
    rw [upd_ne e]
    exact x.keepL b w (by rw [ne b e]; exact r) n
  · by_cases e : b = a
    · subst e; rw [upd_same] at r; cases r
    · rw [upd_ne e] at r
      have := x.dom b r
      rw [ne b e] at this; exact this
  · by_cases e : b = a
    · subst e
      rw [h] at r; cases r; exact upd_same
    · rw [upd_ne e]
      exact x.keepK b w (by rw [ne b e]; exact r) n
  · have e : b ≠ a := fun e => by rw [e, h] at r; cases r
    rw [upd_ne e]
    exact x.keepT b w (by rw [ne b e]; exact r) n
  · have e : b ≠ a := fun e => by rw [e, h] at r; cases r
    rw [upd_ne e]
    exact x.keepF b o w (by rw [ne b e]; exact r)
theorem Rel.keep0 {s : List (Option D)} {σ : L2.St} (e : Ext0 φ φ' H H') (nt : NoTup φ H) (r : Rel K φ H s σ) : Rel K φ' H' s σ :=
  ⟨r.len, fun i d h => let ⟨v, h1, h2⟩ := r.at_ i d h; ⟨v, h1, h2.keep0 e nt⟩⟩
end
/-! ### what is walked of a dict -/
def keyD : K1 → D
  | .inl i => .int i
  | .inr s => .str s
def itKeys (kvs : List (K1 × D)) : List D := kvs.map fun p => keyD p.1
def itItems (kvs : List (K1 × D)) : List D := kvs.map fun p => .tup [keyD p.1, p.2]
/-- the source, and with which lock -/
def lkIn (x : D) (st : Sto) : Option (List (K1 × D) × Sto) := match x with
  | .dic kvs => some (kvs, st)
  | .cell i => (match st[i]? with
    | some (.dic false kvs) => some (kvs, st.set i (.dic true kvs))
    | some (.dic true kvs) => some (kvs, st)
    | _ => none)
  | _ => none
/-- the lock's end: it was open ahead of it (b) or not -/
def lkOut (x : D) (st0 st : Sto) : Option Sto := match x with
  | .cell i => (match st0[i]?, st[i]? with
    | some (.dic false _), some (.dic true kvs) => some (st.set i (.dic false kvs))
    | some (.dic true _), _ => some st
    | _, _ => none)
  | _ => some st
def lkS (x : D) (st0 : Sto) : RS → RS
  | .nxt s st => (match lkOut x st0 st with
    | some st' => .nxt s st'
    | none => .stuck)
  | .brk s st => (match lkOut x st0 st with
    | some st' => .brk s st'
    | none => .stuck)
  | .cnt s st => (match lkOut x st0 st with
    | some st' => .cnt s st'
    | none => .stuck)
  | .ret d fr st => (match lkOut x st0 st with
    | some st' => if isP d = true then .ret d false st' else .stuck
    | none => .stuck)
  | _ => .stuck
def fForD (j : Nat) (its : List (K1 × D) → List D) (g : FG) (f : FS) : FS := fun e st => match e.s[j]? with
  | some (some x) => (match lkIn x st with
    | some (kvs, st1) => lkS x st (forL g f (its kvs) e st1)
    | none => .stuck)
  | _ => .stuck
def lkE (x : D) (st0 : Sto) : R → R
  | .ok d fr st => (match lkOut x st0 st with
    | some st' => if isP d = true then .ok d fr st' else .stuck
    | none => .stuck)
  | _ => .stuck
def fCompD (j : Nat) (its : List (K1 × D) → List D) (g : FG) (c : FE) (f : FE) (vs : List Nat) : FE := fun e st => match e.s[j]? with
  | some (some x) => (match lkIn x st with
    | some (kvs, st1) => lkE x st (endC st1.length (compL st1.length g c f (its kvs) ⟨e.b, wipeD e.s vs⟩ (st1 ++ [.acc 0 []])))
    | none => .stuck)
  | _ => .stuck
section
variable {K : PySem.W.Frag} {φ φ' : List Addr} {H H' : Hp} {st : Sto} {a : Addr} {kus : List (Key × V)} {od : Obj}
theorem kv_key (k : K1) : RD K φ H (keyD k) (kV k.key) := by
  cases k with
  | inl i => exact .int i
  | inr s => exact .str s
theorem RKs.get : ∀ {kvs : List (K1 × D)} {kus : List (Key × V)} {i : Nat} {p : K1 × D}, RKs K φ H kvs kus → kvs[i]? = some p → ∃ v, kus[i]? = some (p.1.key, v) ∧ RD K φ H p.2 v ∧ isP p.2 = true
  | _, _, 0, _, .cons r p rs, e => by cases e; exact ⟨_, rfl, r, p⟩
  | _, _, i + 1, _, .cons r p rs, e => RKs.get (i := i) rs e
theorem keyD_isP (k : K1) : isP (keyD k) = true := by cases k <;> rfl
theorem iter_keys {kvs : List (K1 × D)} (h : H a = some (.frz od (.dK kus))) (r : RKs K φ H kvs kus) (nt : NoTup φ H) : IterP K (Itk a od kus) (itKeys kvs) φ H := by
  intro φ' H' st' x g
  have h' := x.keepF a od _ h
  refine ⟨fun i d hd => ?_, h', by unfold itKeys; rw [List.length_map, r.length]; exact Nat.le_refl _⟩
  unfold itKeys at hd
  rw [List.getElem?_map] at hd
  cases hp : kvs[i]? with
  | none => rw [hp] at hd; cases hd
  | some p =>
    rw [hp] at hd
    cases hd
    obtain ⟨v, hv, rv, _⟩ := r.get hp
    refine ⟨⟨h', (List.getElem?_eq_some_iff.mp hv).1⟩, fun y H'' z => ?_⟩
    obtain ⟨rfl, k2, v2, hk, rfl⟩ := z
    rw [hv] at hk
    cases hk
    exact ⟨Ext.refl _ _, g, kv_key p.1⟩
theorem iter_items {kvs : List (K1 × D)} (h : H a = some (.frz od (.dK kus))) (r : RKs K φ H kvs kus) (nt : NoTup φ H) : IterP K (Iti a od kus) (itItems kvs) φ H := by
  intro φ' H' st' x g
  have h' := x.keepF a od _ h
  have r' := r.keep x nt
  refine ⟨fun i d hd => ?_, h', by unfold itItems; rw [List.length_map, r.length]; exact Nat.le_refl _⟩
  unfold itItems at hd
  rw [List.getElem?_map] at hd
  cases hp : kvs[i]? with
  | none => rw [hp] at hd; cases hd
  | some p =>
    rw [hp] at hd
    cases hd
    obtain ⟨v, hv, rv, pv⟩ := r'.get hp
    refine ⟨⟨h', (List.getElem?_eq_some_iff.mp hv).1⟩, fun y H'' z => ?_⟩
    obtain ⟨T, k2, v2, hk, rfl, hT, rfl⟩ := z
    rw [hv] at hk
    cases hk
    exact new_pair g hT (kv_key p.1) rv (keyD_isP _) pv
/-- how the lock begins -/
inductive LkIn (K : PySem.W.Frag) (φ : List Addr) (H : Hp) (x : D) (v : V) (st : Sto) (kvs : List (K1 × D)) (st1 : Sto) : Prop
  | on {a : Addr} {kus : List (Key × V)} {od : Obj} (ev : v = .ref a) (h : H a = some (.frz od (.dK kus))) (r : RKs K φ H kvs kus) (e : st1 = st) (o : ∀ st2, lkOut x st st2 = some st2)
  | off {a : Addr} {kus : List (Key × V)} (ev : v = .ref a) (h : H a = some (.dK kus)) (r : RKs K φ H kvs kus) (g : ∀ od, Good K φ (upd H a (.frz od (.dK kus))) st1)
      (o : ∀ od φ' H' st2 st3, Ext φ φ' (upd H a (.frz od (.dK kus))) H' → Good K φ' H' st2 → lkOut x st st2 = some st3 → Good K φ' (upd H' a (.dK kus)) st3)
      (l : st1.length = st.length)
theorem lk_in {x : D} {v : V} {kvs : List (K1 × D)} {st1 : Sto} (g : Good K φ H st) (r : RD K φ H x v) (h : lkIn x st = some (kvs, st1)) : LkIn K φ H x v st kvs st1 := by
  cases r with
  | @dic kvs' a kus hr n rs =>
    cases h
    rcases hr with hr | ⟨od, hr⟩
    · refine .off rfl hr rs (fun od => ?_) (fun od φ' H' st2 st3 x2 g2 e => ?_) rfl
      · exact g.set0 (a := a) (ext0_lock hr) (fun b m e => upd_ne e) rfl (fun _ _ _ _ => rfl) fun i c ha => absurd (List.mem_of_getElem? ha) n
      · cases e
        have hl : H' a = some (.frz od (.dK kus)) := x2.keepF a od _ upd_same
        refine g2.set0 (a := a) (ext0_unlock hl) (fun b m e => upd_ne e) rfl (fun _ _ _ _ => rfl) fun i c ha => absurd (List.mem_of_getElem? ha) (x2.not_mem (by rw [upd_same]; simp) n)
    · exact .on rfl hr rs rfl fun st2 => rfl
  | @cell i a ha =>
    unfold lkIn at h
    simp only [] at h
    split at h
    · rename_i kvs' hs
      cases h
      obtain ⟨kus, h1, h2⟩ := g.at_ i _ a hs ha
      rw [if_neg Bool.false_ne_true] at h1
      have hi : i < st.length := (List.getElem?_eq_some_iff.mp hs).1
      refine .off rfl h1 h2 (fun od => ?_) (fun od φ' H' st2 st3 x2 g2 e => ?_) (by rw [List.length_set])
      · refine g.set0 (a := a) (ext0_lock h1) (fun b m e => upd_ne e) (by rw [List.length_set]) (fun j b hj e => ?_) fun j c hj hc => ?_
        · rw [List.getElem?_set_ne fun z => e ?_]
          subst z
          rw [ha] at hj; cases hj; rfl
        · have ej : j = i := (List.getElem?_inj (List.getElem?_eq_some_iff.mp hj).1 g.nd).mp (hj.trans ha.symm)
          subst ej
          rw [List.getElem?_set_self hi] at hc
          cases hc
          exact ⟨kus, by rw [if_pos rfl]; exact ⟨od, upd_same⟩, h2.keep0 (ext0_lock h1) g.notup⟩
      · have hl : H' a = some (.frz od (.dK kus)) := x2.keepF a od _ upd_same
        have ha' : φ'[i]? = some a := by
          obtain ⟨t, rfl⟩ := x2.pre
          rw [List.getElem?_append_left (List.getElem?_eq_some_iff.mp ha).1]
          exact ha
        unfold lkOut at e
        simp only [hs] at e
        split at e
        · rename_i _ _ _ kvs2 e1 e2
          cases e
          obtain ⟨kus2, h3, h4⟩ := g2.at_ i _ a e2 ha'
          rw [if_pos rfl] at h3
          have hi2 : i < st2.length := (List.getElem?_eq_some_iff.mp e2).1
          have ek : kus2 = kus := by
            obtain ⟨o, h3⟩ := h3
            rw [hl] at h3; cases h3; rfl
          subst ek
          refine g2.set0 (a := a) (ext0_unlock hl) (fun b m e => upd_ne e) (by rw [List.length_set]) (fun j b hj e => ?_) fun j c hj hc => ?_
          · rw [List.getElem?_set_ne fun z => e ?_]
            subst z
            rw [ha'] at hj; cases hj; rfl
          · have ej : j = i := (List.getElem?_inj (List.getElem?_eq_some_iff.mp hj).1 g2.nd).mp (hj.trans ha'.symm)
            subst ej
            rw [List.getElem?_set_self hi2] at hc
            cases hc
            exact ⟨kus2, by rw [if_neg Bool.false_ne_true]; exact upd_same, h4.keep0 (ext0_unlock hl) g2.notup⟩
        · rename_i e1; cases e1
        · cases e
    · rename_i kvs' hs
      cases h
      obtain ⟨kus, h1, h2⟩ := g.at_ i _ a hs ha
      rw [if_pos rfl] at h1
      obtain ⟨od, h1⟩ := h1
      refine .on rfl h1 h2 rfl fun st2 => ?_
      unfold lkOut
      simp only [hs]
    · cases h
  | _ => cases h
end
end EV

set_option Elab.async false
set_option maxRecDepth 100000
set_option maxHeartbeats 2000000
namespace EV
open PySem PySem.Spec PyProof.Rows L2
theorem PS.or {X : Cx} {s : Stmt} {t t' : TS} (h : PS X s t) (h' : PS X s t') : PS X s (fun D σ H => t D σ H ∨ t' D σ H) := ⟨fun p s σ H D I q => by
  rcases q with q | q
  · exact h.run p s σ H D I q
  · exact h'.run p s σ H D I q⟩
theorem PE.or {X : Cx} {s : Expr} {t t' : TE} (h : PE X s t) (h' : PE X s t') : PE X s (fun D σ H => t D σ H ∨ t' D σ H) := ⟨fun p s σ H D I q => by
  rcases q with q | q
  · exact h.run p s σ H D I q
  · exact h'.run p s σ H D I q⟩
/-- how a dict in the slot j is walked -/
structure ID (X : Cx) (j : Nat) (tg iter : Expr) (its : List (K1 × D) → List D) : Prop where
  ex : ∃ (wi : TI) (Jf : Addr → Obj → List (Key × V) → It), PI X tg iter wi ∧ (∀ (σ : L2.St) (H : Hp) (R : It → Hp → Prop) (a : Addr) (od : Obj) (kus : List (Key × V)), σ[j]? = some (some (.ref a)) → H a = some (.frz od (.dK kus)) → R (Jf a od kus) H → wi σ H R) ∧
    ∀ (φ : List Addr) (H : Hp) (a : Addr) (od : Obj) (kus : List (Key × V)) (kvs : List (K1 × D)), H a = some (.frz od (.dK kus)) → RKs X.K φ H kvs kus → NoTup φ H → IterP X.K (Jf a od kus) (its kvs) φ H
section
variable {X : Cx} {XA : XAT} {E : L2.St → XK} {j : Nat} {e0 : Expr} {tg : Expr} {apos cpos : Pos}
theorem id_keys (he : PE X e0 (tVar j)) : ID X j tg e0 itKeys := ⟨_, Itk, pi_keys he, fun σ H R a od kus hs h r => ⟨_, hs, a, od, rfl, .inl ⟨kus, h, r⟩⟩, fun φ H a od kus kvs h r nt => iter_keys h r nt⟩
theorem id_items {elts : List Expr} {kk : Nat} {tpos : Pos} (he : PE X e0 (tVar j)) (hbase : attributeBase e0 "items" X.env (eval e0 X.env) = eval e0 X.env := by rfl) (hline : (apos.endLine == cpos.line) = true := by rfl) :
    ID X j (.Tuple elts kk tpos) (.Call (.Attribute e0 "items" apos) [] [] cpos) itItems := ⟨_, Iti, pi_items he hbase hline, fun σ H R a od kus hs h r => ⟨_, hs, a, od, kus, rfl, h, r⟩, fun φ H a od kus kvs h r nt => iter_items h r nt⟩
theorem RQS.unlk {K : PySem.W.Frag} {φ : List Addr} {H : Hp} {x : D} {st : Sto} {D : Ends} {r : RS} (o : ∀ st2, lkOut x st st2 = some st2) (q : RQS K XA φ H E D (lkS x st r)) : RQS K XA φ H E D r := by
  cases r with
  | nxt s st2 => simp only [lkS, o] at q; exact q
  | brk s st2 => simp only [lkS, o] at q; exact q
  | cnt s st2 => simp only [lkS, o] at q; exact q
  | ret d fr st2 =>
    simp only [lkS, o] at q
    split at q
    · exact fun φ' H' v x g r _ => q φ' H' v x g r fun z => by cases z
    · exact q.elim
  | exc c d s st2 => exact q.elim
  | stuck => exact q.elim
theorem RQS.lkd {K : PySem.W.Frag} {φ : List Addr} {H : Hp} {x : D} {st : Sto} {D : Ends} {r : RS} {a : Addr} {kus : List (Key × V)} {od : Obj} (h : H a = some (.dK kus))
    (o : ∀ od φ' H' st2 st3, Ext φ φ' (upd H a (.frz od (.dK kus))) H' → Good K φ' H' st2 → lkOut x st st2 = some st3 → Good K φ' (upd H' a (.dK kus)) st3) (q : RQS K XA φ H E D (lkS x st r)) :
    RQS K XA φ (upd H a (.frz od (.dK kus))) E ⟨fun σ' H' => H' a = some (.frz od (.dK kus)) ∧ D.nx σ' (upd H' a (.dK kus)), fun v H' => H' a = some (.frz od (.dK kus)) ∧ D.rt v (upd H' a (.dK kus)), fun σ' H' => H' a = some (.frz od (.dK kus)) ∧ D.bk σ' (upd H' a (.dK kus)), fun σ' H' => H' a = some (.frz od (.dK kus)) ∧ D.ct σ' (upd H' a (.dK kus))⟩ r := by
  have hl : ∀ {φ' H'}, Ext φ φ' (upd H a (.frz od (.dK kus))) H' → H' a = some (.frz od (.dK kus)) := fun x2 => x2.keepF a od _ upd_same
  cases r with
  | nxt s st2 =>
    intro φ' H' σ' x2 g2 r2
    cases hs : lkOut x st st2 with
    | none => simp only [lkS, hs] at q; exact q.elim
    | some st3 =>
      simp only [lkS, hs] at q
      exact ⟨hl x2, q φ' _ σ' (ext_locked h x2) (o od φ' H' st2 st3 x2 g2 hs) (r2.keep0 (ext0_unlock (hl x2)) g2.notup)⟩
  | brk s st2 =>
    intro φ' H' σ' x2 g2 r2
    cases hs : lkOut x st st2 with
    | none => simp only [lkS, hs] at q; exact q.elim
    | some st3 =>
      simp only [lkS, hs] at q
      exact ⟨hl x2, q φ' _ σ' (ext_locked h x2) (o od φ' H' st2 st3 x2 g2 hs) (r2.keep0 (ext0_unlock (hl x2)) g2.notup)⟩
  | cnt s st2 =>
    intro φ' H' σ' x2 g2 r2
    cases hs : lkOut x st st2 with
    | none => simp only [lkS, hs] at q; exact q.elim
    | some st3 =>
      simp only [lkS, hs] at q
      exact ⟨hl x2, q φ' _ σ' (ext_locked h x2) (o od φ' H' st2 st3 x2 g2 hs) (r2.keep0 (ext0_unlock (hl x2)) g2.notup)⟩
  | ret d fr st2 =>
    intro φ' H' v x2 g2 r2 _
    cases hs : lkOut x st st2 with
    | none => simp only [lkS, hs] at q; exact q.elim
    | some st3 =>
      simp only [lkS, hs] at q
      split at q
      · exact ⟨hl x2, q φ' _ v (ext_locked h x2) (o od φ' H' st2 st3 x2 g2 hs) (r2.keep0 (ext0_unlock (hl x2)) g2.notup) fun z => by cases z⟩
      · exact q.elim
  | exc c d s st2 => exact q.elim
  | stuck => exact q.elim
theorem lkOut_app {x : D} {st st2 st3 : Sto} {c : CO} (h : lkOut x st st2 = some st3) : lkOut x st (st2 ++ [c]) = some (st3 ++ [c]) := by
  cases x with
  | cell i =>
    have h2 : (match st[i]?, st2[i]? with
      | some (.dic false _), some (.dic true kvs) => some (st2.set i (.dic false kvs))
      | some (.dic true _), _ => some st2
      | _, _ => none) = some st3 := h
    show (match st[i]?, (st2 ++ [c])[i]? with
      | some (.dic false _), some (.dic true kvs) => some ((st2 ++ [c]).set i (.dic false kvs))
      | some (.dic true _), _ => some (st2 ++ [c])
      | _, _ => none) = some (st3 ++ [c])
    split at h2
    · rename_i e1 e2
      cases h2
      have hi := (List.getElem?_eq_some_iff.mp e2).1
      rw [e1, List.getElem?_append_left hi, e2]
      simp only [List.set_append_left _ _ hi]
    · rename_i e1
      cases h2
      rw [e1]
    · cases h2
  | _ => cases h; rfl
theorem s_forD {iter : Expr} {body : List Stmt} {its : List (K1 × D) → List D} {g : FG} {f : FS} {sl : List Nat} {pos : Pos} (hp : PassesOwn (model X.prog X.w) X.A X.env X.xe) (hc : X.calm = true) (hi : ID X j tg iter its) (hg : GL X tg g sl) (hb : PSs X body (liftS X.K XA E f))
    (hs : ∀ x, foldedSetIterable iter X.env x = pure x := by intro _; rfl) : PS X (.For tg iter body [] pos) (liftS X.K XA E (fForD j its g f)) := by
  obtain ⟨t, p, z⟩ := hg.ex
  obtain ⟨wi, Jf, hpi, hw, hI⟩ := hi.ex
  have base := ps_for (pos := pos) hp hc hpi p hb hs
  refine PS.weak (PS.or base (ps_lock base)) ?_
  rintro D σ H ⟨e, st, φ, n, q⟩
  unfold fForD at q
  cases hd : e.s[j]? with
  | none => rw [hd] at q; exact q.elim
  | some ox =>
    cases ox with
    | none => rw [hd] at q; exact q.elim
    | some x =>
      rw [hd] at q
      obtain ⟨v, hv, rv⟩ := n.rel.at_ j x hd
      cases hk : lkIn x st with
      | none => simp only [hk] at q; exact q.elim
      | some pr =>
        obtain ⟨kvs, st1⟩ := pr
        simp only [hk] at q
        cases lk_in n.good rv hk with
        | on ev h r es o =>
          subst ev es
          exact .inl (hw σ H _ _ _ _ hv h (for_core z n (hI φ H _ _ _ kvs h r n.good.notup) (RQS.unlk o q)))
        | @off a kus ev h r g1 o l =>
          subst ev
          refine .inr ⟨a, .dK kus, h, trivial, fun od => ?_⟩
          have x0 : Ext0 φ φ H (upd H a (.frz od (.dK kus))) := ext0_lock h
          have n1 : Now X.K φ (upd H a (.frz od (.dK kus))) σ e st1 := ⟨n.rel.keep0 x0 n.good.notup, g1 od, by rw [l]; exact n.base⟩
          exact hw σ _ _ a od kus hv upd_same (for_core z n1 (hI φ _ a od kus kvs upd_same (r.keep0 x0 n.good.notup) (g1 od).notup) (RQS.lkd h o q))
theorem e_compD {elt iter : Expr} {ifs : List Expr} {scope : Scope} {own : List (Str × Nat)} {pos : Pos} {its : List (K1 × D) → List D} {g : FG} {sl : List Nat} {fc f : FE} (hc : X.calm = true) (hN : X.N.Nodup) (hi : ID X j tg iter its) (ok : BlkOk X.N X.env.scope scope own)
    (hg : ∃ t : TG, (∀ (s : Shared) (H : Hp) (C : Addr) (cl : List (Str × Addr)) (fp : List Addr), PG (X.blk s H scope (compEnvC scope cl C X.env) fp) tg t) ∧ ∀ φ H s σ d v s' Q, Rel X.K φ H s σ → RD X.K φ H d v → g d s = some s' → (∀ σ', Rel X.K φ H s' σ' → Only2 sl σ σ' → Q σ' H) → t v σ H Q)
    (hsl : ∀ i ∈ sl, i ∈ own.map (·.2))
    (ht : ∀ (s : Shared) (H : Hp) (C : Addr) (cl : List (Str × Addr)) (fp : List Addr), PTs (X.blk s H scope (compEnvC scope cl C X.env) fp) ifs (liftT X.K XA E0 fc))
    (he : ∀ (s : Shared) (H : Hp) (C : Addr) (cl : List (Str × Addr)) (fp : List Addr), PE (X.blk s H scope (compEnvC scope cl C X.env) fp) elt (lift X.K XA E0 f)) (hs : ∀ x, foldedSetIterable iter X.env x = pure x := by intro _; rfl) :
    PE X (.ListComp elt [⟨tg, iter, ifs, 0⟩] scope pos) (lift X.K XA E (fCompD j its g fc f (own.map (·.2)))) := by
  obtain ⟨t, hp, z⟩ := hg
  obtain ⟨wi, Jf, hpi, hw, hI⟩ := hi.ex
  have base := pe_lc (pos := pos) hc hN hpi ok hp ht he hs
  refine PE.weak (PE.or base (pe_lock base)) ?_
  rintro σ H Q ⟨e, st, φ, n, q⟩
  unfold fCompD at q
  cases hd : e.s[j]? with
  | none => rw [hd] at q; exact q.elim
  | some ox =>
    cases ox with
    | none => rw [hd] at q; exact q.elim
    | some x =>
      rw [hd] at q
      obtain ⟨v, hv, rv⟩ := n.rel.at_ j x hd
      cases hk : lkIn x st with
      | none => simp only [hk] at q; exact q.elim
      | some pr =>
        obtain ⟨kvs, st1⟩ := pr
        simp only [hk] at q
        cases lk_in n.good rv hk with
        | on ev h r es o =>
          subst ev es
          refine .inl (hw σ H _ _ _ _ hv h fun D hD => comp_core z hsl n (hI φ H _ _ _ kvs h r n.good.notup) hD (E σ) ?_)
          cases hr : endC st1.length (compL st1.length g fc f (its kvs) ⟨e.b, wipeD e.s (own.map (·.2))⟩ (st1 ++ [.acc 0 []])) with
          | ok d fr st2 =>
            rw [hr] at q
            simp only [lkE, o] at q
            split at q
            · exact q
            · exact q.elim
          | exc c d st2 => rw [hr] at q; exact q.elim
          | stuck => rw [hr] at q; exact q.elim
        | @off a kus ev h r g1 o l =>
          subst ev
          refine .inr ⟨a, .dK kus, h, trivial, fun od => ?_⟩
          have x0 : Ext0 φ φ H (upd H a (.frz od (.dK kus))) := ext0_lock h
          have n1 : Now X.K φ (upd H a (.frz od (.dK kus))) σ e st1 := ⟨n.rel.keep0 x0 n.good.notup, g1 od, by rw [l]; exact n.base⟩
          refine hw σ _ _ a od kus hv upd_same fun D hD => comp_core (Q := fun v H' => H' a = some (.frz od (.dK kus)) ∧ Q v (upd H' a (.dK kus))) (XA := XA) z hsl n1 (hI φ _ a od kus kvs upd_same (r.keep0 x0 n.good.notup) (g1 od).notup) hD (fun _ _ _ => False) ?_
          cases hr : endC st1.length (compL st1.length g fc f (its kvs) ⟨e.b, wipeD e.s (own.map (·.2))⟩ (st1 ++ [.acc 0 []])) with
          | ok d fr st2 =>
            rw [hr] at q
            intro φ' H' v x2 g2 r2 f2
            have hl : H' a = some (.frz od (.dK kus)) := x2.keepF a od _ upd_same
            cases hs2 : lkOut x st st2 with
            | none => simp only [lkE, hs2] at q; exact q.elim
            | some st3 =>
              simp only [lkE, hs2] at q
              split at q
              · rename_i hp2
                refine ⟨hl, q φ' _ v (ext_locked h x2) (o od φ' H' st2 st3 x2 g2 hs2) (r2.keep0 (ext0_unlock hl) g2.notup) fun zf => ?_⟩
                obtain ⟨b, c, e1, e2, e3, e4⟩ := f2 zf
                have nb : b ≠ a := fun w => by rw [w, upd_same] at e2; cases e2
                have e2' : H b = none := by rw [upd_ne nb] at e2; exact e2
                have x3 : Ext φ (φ' ++ [b]) (upd H a (.frz od (.dK kus))) H' := ⟨⟨x2.pre.trans (List.prefix_append _ _), fun y m nm => by
                  rcases List.mem_append.mp m with m | m
                  · exact x2.new y m nm
                  · rw [List.mem_singleton.mp m]; exact e2, x2.keep, x2.keepL, x2.dom⟩, x2.keepK, x2.keepT, x2.keepF⟩
                exact ⟨b, c, e1, e2', e3, o od (φ' ++ [b]) H' (st2 ++ [c]) (st3 ++ [c]) x3 e4 (lkOut_app hs2)⟩
              · exact q.elim
          | exc c d st2 => rw [hr] at q; exact q.elim
          | stuck => rw [hr] at q; exact q.elim
end
end EV

set_option Elab.async false
set_option maxRecDepth 100000
set_option maxHeartbeats 2000000
namespace EV
open PySem PySem.Spec PyProof.Rows L2
/-! ### dict comprehensions -/
def dcompL (n : Nat) (g : FG) (c fk fv : FE) : List D → Fr → Sto → Option Sto
  | [], _, st => some st
  | d :: r, e, st => match g d e.s with
    | none => none
    | some s => (match c ⟨e.b, s⟩ st with
      | .ok (.bl true) _ st1 => (match fk ⟨e.b, s⟩ st1 with
        | .ok y _ st2 => (match fv ⟨e.b, s⟩ st2 with
          | .ok z _ st3 => (match toK y, st3[n]? with
            | some k, some (.dic false kvs) => if (isP z && decide (kvs.length < SZ)) = true then dcompL n g c fk fv r e (st3.set n (.dic false (putD kvs k z))) else none
            | _, _ => none)
          | _ => none)
        | _ => none)
      | .ok (.bl false) _ st1 => dcompL n g c fk fv r e st1
      | _ => none)
def endDC (n : Nat) : Option Sto → R
  | some st2 => (match st2[n]? with
    | some (.dic false kvs) => if st2.length = n + 1 then .ok (.dic kvs) true (st2.take n) else .stuck
    | _ => .stuck)
  | none => .stuck
def fDComp (i : FI) (g : FG) (c fk fv : FE) (vs : List Nat) : FE := fun e st => match i e st with
  | .ok xs st1 => endDC st1.length (dcompL st1.length g c fk fv xs ⟨e.b, wipeD e.s vs⟩ (st1 ++ [.dic false []]))
  | .exc c d st1 => .exc c d st1
  | .stuck => .stuck
section
variable {X : Cx} {XA : XAT} {E : L2.St → XK}
theorem dic_at {K : PySem.W.Frag} {φ : List Addr} {H : Hp} {st : Sto} {n : Nat} {a : Addr} {kvs : List (K1 × D)} (g : Good K φ H st) (h : st[n]? = some (.dic false kvs)) (ha : φ[n]? = some a) : ∃ kus, H a = some (.dK kus) ∧ RKs K φ H kvs kus := by
  obtain ⟨kus, h1, h2⟩ := g.at_ n _ a h ha
  rw [if_neg Bool.false_ne_true] at h1
  exact ⟨kus, h1, h2⟩
theorem dic_co {K : PySem.W.Frag} {φ : List Addr} {H : Hp} {a : Addr} {kvs : List (K1 × D)} {kus : List (Key × V)} (h : H a = some (.dK kus)) (r : RKs K φ H kvs kus) : COat K φ H a (.dic false kvs) := ⟨kus, by rw [if_neg Bool.false_ne_true]; exact h, r⟩
theorem RKs.ofP {K : PySem.W.Frag} {φ φ' : List Addr} {H : Hp} (h : ∀ a ∈ φ', a ∈ φ) {kvs : List (K1 × D)} {kus : List (Key × V)} (r : RKs K φ H kvs kus) : RKs K φ' H kvs kus := RKs.anti h r
theorem put_step {K : PySem.W.Frag} {φ4 : List Addr} {H4 : Hp} {st4 : Sto} {n : Nat} {D0 : Addr} {kvs : List (K1 × D)} {k : K1} {z : D} {v : V} (g4 : Good K φ4 H4 st4) (hc : st4[n]? = some (.dic false kvs)) (hn4 : φ4[n]? = some D0) (rz : RD K φ4 H4 z v) (hp : isP z = true) (hl : kvs.length < SZ) :
    ∃ kus, H4 D0 = some (.dK kus) ∧ kus.length < sizeLine ∧ Ext φ4 φ4 H4 (upd H4 D0 (.dK (putK kus k.key v))) ∧ Good K φ4 (upd H4 D0 (.dK (putK kus k.key v))) (st4.set n (.dic false (putD kvs k z))) := by
  obtain ⟨kus, w1, w2⟩ := dic_at g4 hc hn4
  have m4 : D0 ∈ φ4 := List.mem_of_getElem? hn4
  have x5 : Ext φ4 φ4 H4 (upd H4 D0 (.dK (putK kus k.key v))) := ext_upd m4 w1 fun _ _ z => by cases z
  exact ⟨kus, w1, by rw [sz_eq, ← w2.length]; exact hl, x5, g4.setc (c := .dic false (putD kvs k z)) hn4 x5 (fun b _ nb => upd_ne nb) (dic_co upd_same (putD_ok (rz.keep x5 g4.notup) hp (w2.keep x5 g4.notup)))⟩
theorem end_dic {K : PySem.W.Frag} {φ : List Addr} {H H1 : Hp} {st st1 : Sto} {φ1 : List Addr} {D0 : Addr} {E1 : XK} {Q : VK} (gd : Good K φ H st) (hD : H D0 = none) (x0 : Ext φ (φ ++ [D0]) H (upd H D0 (.dK []))) (x1 : Ext (φ ++ [D0]) φ1 (upd H D0 (.dK [])) H1) (g1 : Good K φ1 H1 st1)
    (q1 : RQ K XA φ H E1 Q (endDC st.length (some st1))) : Q (.ref D0) H1 := by
  have hn : (φ ++ [D0])[st.length]? = some D0 := by rw [← gd.len, List.getElem?_concat_length]
  unfold endDC at q1
  simp only [] at q1
  cases hc : st1[st.length]? with
  | none => rw [hc] at q1; exact q1.elim
  | some c1 =>
    rw [hc] at q1
    cases c1 with
    | dic b kvs =>
      cases b with
      | true => exact q1.elim
      | false =>
        simp only [] at q1
        split at q1
        · rename_i hlen
          have l1 := g1.len
          have e1 : φ1 = φ ++ [D0] := len1 x1.pre (by rw [l1, hlen, List.length_append, gd.len]; rfl)
          subst e1
          obtain ⟨kus, v1, v2⟩ := dic_at g1 hc hn
          have gf : Good K φ H1 (st1.take st.length) := by
            have := g1.first
            rw [gd.len] at this
            exact this
          have xx := x0.trans x1
          have xf : Ext φ φ H H1 := ⟨⟨List.prefix_refl _, fun b m nm => absurd m nm, xx.keep, xx.keepL, xx.dom⟩, xx.keepK, xx.keepT, xx.keepF⟩
          have dn : D0 ∉ φ := gd.notin hD
          refine q1 φ H1 (.ref D0) xf gf (.dic (.inl v1) dn (v2.anti fun b m => List.mem_append_left _ m)) fun _ => ⟨D0, _, rfl, hD, rfl, ?_⟩
          refine ⟨by rw [g1.len, hlen, List.length_append, List.length_take]; simp; omega, g1.nd, fun i c a h1 h2 => ?_⟩
          by_cases hi : i < st.length
          · rw [List.getElem?_append_left (by rw [List.length_take]; omega), List.getElem?_take_of_lt hi] at h1
            exact g1.at_ i c a h1 h2
          · have h3 := (List.getElem?_eq_some_iff.mp h2).1
            rw [List.length_append, gd.len] at h3
            have h4 : i < st.length + 1 := h3
            have e2 : i = st.length := by omega
            subst e2
            rw [hn] at h2
            cases h2
            rw [List.getElem?_append_right (by rw [List.length_take]; omega), List.length_take, Nat.min_eq_left (by omega), Nat.sub_self] at h1
            cases h1
            exact dic_co v1 v2
        · exact q1.elim
    | _ => exact q1.elim
theorem new_dic {K : PySem.W.Frag} {φ : List Addr} {H : Hp} {st : Sto} {D0 : Addr} (gd : Good K φ H st) (hD : H D0 = none) : Ext φ (φ ++ [D0]) H (upd H D0 (.dK [])) ∧ Good K (φ ++ [D0]) (upd H D0 (.dK [])) (st ++ [.dic false []]) := by
  have x0 : Ext φ (φ ++ [D0]) H (upd H D0 (.dK [])) := by
    have x := ext_new (φ := φ) (o := .dK []) hD
    exact ⟨⟨List.prefix_append _ _, fun b m nm => by
      rcases List.mem_append.mp m with m | m
      · exact absurd m nm
      · rw [List.mem_singleton.mp m]; exact hD, x.keep, x.keepL, x.dom⟩, x.keepK, x.keepT, x.keepF⟩
  exact ⟨x0, gd.push hD x0 (dic_co upd_same .nil) fun a m => upd_ne fun w => gd.notin hD (w ▸ m)⟩
theorem dcomp_core {K : PySem.W.Frag} {J : It} {xs : List D} {t : TG} {g : FG} {fc fk fv : FE} {φ : List Addr} {H : Hp} {σ : L2.St} {e : Fr} {st : Sto} {vs : List Nat} {Q : VK} {D0 : Addr}
    {sl : List Nat} (z : ∀ φ H s σ d v s' Q, Rel K φ H s σ → RD K φ H d v → g d s = some s' → (∀ σ', Rel K φ H s' σ' → Only2 sl σ σ' → Q σ' H) → t v σ H Q) (hsl : ∀ i ∈ sl, i ∈ vs)
    (n : Now K φ H σ e st) (it : IterP K J xs φ H) (hD : H D0 = none) (E1 : XK)
    (q : RQ K XA φ H E1 Q (endDC st.length (dcompL st.length g fc fk fv xs ⟨e.b, wipeD e.s vs⟩ (st ++ [.dic false []])))) :
    ∃ W : Nat → Nat → Hp → Prop, (∃ m, W 0 m (upd H D0 (.dK []))) ∧ ∀ i m H, W i m H →
      (J.stop i H ∧ Q (.ref D0) H) ∨ (J.go i H ∧ ∃ Nx : Hp → Prop, (∀ H', Nx H' → ∃ m', m' < m ∧ W (i + 1) m' H') ∧ ∀ x H', J.yld i H x H' → t x (wipe σ vs) H' fun σ2 H2 => wipe σ2 vs = wipe σ vs ∧ liftT K XA E0 fc σ2 H2 fun b H3 =>
        if b = true then lift K XA E0 fk σ2 H3 fun y H4 => lift K XA E0 fv σ2 H4 fun z H5 => ∃ kvs k, y = kV k ∧ H5 D0 = some (.dK kvs) ∧ kvs.length < sizeLine ∧ Nx (upd H5 D0 (.dK (putK kvs k z))) else Nx H3) := by
  obtain ⟨x0, g0⟩ := new_dic n.good hD
  have hn : (φ ++ [D0])[st.length]? = some D0 := by rw [← n.good.len, List.getElem?_concat_length]
  let e' : Fr := ⟨e.b, wipeD e.s vs⟩
  refine ⟨fun i m H' => m + i = xs.length ∧ ∃ st' φ', Now K φ' H' (wipe σ vs) e' st' ∧ Ext (φ ++ [D0]) φ' (upd H D0 (.dK [])) H' ∧ RQ K XA φ H E1 Q (endDC st.length (dcompL st.length g fc fk fv (xs.drop i) e' st')), ?_, ?_⟩
  · refine ⟨xs.length, rfl, st ++ [.dic false []], φ ++ [D0], ⟨(n.rel.keep x0 n.good.notup).wipe vs, g0, ?_⟩, Ext.refl _ _, by rw [List.drop_zero]; exact q⟩
    rw [List.length_append]
    exact Nat.le_trans n.base (Nat.le_add_right _ _)
  rintro i m H1 ⟨hm, st1, φ1, n1, x1, q1⟩
  have nd : ∀ {φ'' H''}, Ext (φ ++ [D0]) φ'' (upd H D0 (.dK [])) H'' → φ''[st.length]? = some D0 := fun x => by
    obtain ⟨r, rfl⟩ := x.pre
    rw [List.getElem?_append_left (by rw [List.length_append, n.good.len]; simp)]
    exact hn
  obtain ⟨go, stop⟩ := it φ1 H1 st1 (x0.trans x1) n1.good
  by_cases hi : i < xs.length
  · have hd : xs[i]? = some xs[i] := by simp [hi]
    obtain ⟨h1, h2⟩ := go i _ hd
    refine .inr ⟨h1, fun H' => ∃ st' φ', Now K φ' H' (wipe σ vs) e' st' ∧ Ext (φ ++ [D0]) φ' (upd H D0 (.dK [])) H' ∧ RQ K XA φ H E1 Q (endDC st.length (dcompL st.length g fc fk fv (xs.drop (i + 1)) e' st')), fun H' h => ⟨xs.length - (i + 1), by omega, by omega, h⟩, fun x H2 y => ?_⟩
    obtain ⟨x2, g2, r2⟩ := h2 x H2 y
    rw [List.drop_eq_getElem_cons hi] at q1
    unfold dcompL at q1
    cases hg : g xs[i] e'.s with
    | none => simp only [hg, endDC] at q1; exact q1.elim
    | some s2 =>
      simp only [hg] at q1
      refine z φ1 H2 e'.s (wipe σ vs) xs[i] x s2 _ (n1.rel.keep x2 n1.good.notup) r2 hg fun σ2 rel2 o2 => ?_
      have n2 : Now K φ1 H2 σ2 ⟨e'.b, s2⟩ st1 := n1.go x2 g2 rel2
      refine ⟨(o2 vs hsl).trans (wipe_wipe σ vs), ?_⟩
      cases hcf : fc ⟨e'.b, s2⟩ st1 with
      | stuck => simp only [hcf, endDC] at q1; exact q1.elim
      | exc c d st2 => simp only [hcf, endDC] at q1; exact q1.elim
      | ok dc frc st2 =>
        refine ⟨⟨e'.b, s2⟩, st1, φ1, n2, ?_⟩
        rw [hcf]
        intro φ3 H3 v3 x3 g3 r3 _
        have n3 : Now K φ3 H3 σ2 ⟨e'.b, s2⟩ st2 := n2.keep x3 g3
        rw [hcf] at q1
        cases r3 with
        | bl b =>
          refine ⟨b, rfl, ?_⟩
          cases b with
          | false =>
            exact ⟨st2, φ3, ⟨n1.rel.keep (x2.trans x3) n1.good.notup, g3, n3.base⟩, x1.trans (x2.trans x3), q1⟩
          | true =>
            show if true = true then _ else _
            rw [if_pos rfl]
            cases hf : fk ⟨e'.b, s2⟩ st2 with
            | stuck => simp only [hf, endDC] at q1; exact q1.elim
            | exc c d st4 => simp only [hf, endDC] at q1; exact q1.elim
            | ok y fy st4 =>
              refine ⟨⟨e'.b, s2⟩, st2, φ3, n3, ?_⟩
              rw [hf]
              intro φ4 H4 v4 x4 g4 r4 _
              have n4 : Now K φ4 H4 σ2 ⟨e'.b, s2⟩ st4 := n3.keep x4 g4
              simp only [hf] at q1
              cases hf5 : fv ⟨e'.b, s2⟩ st4 with
              | stuck => simp only [hf5, endDC] at q1; exact q1.elim
              | exc c d st5 => simp only [hf5, endDC] at q1; exact q1.elim
              | ok w fw st5 =>
                refine ⟨⟨e'.b, s2⟩, st4, φ4, n4, ?_⟩
                rw [hf5]
                intro φ5 H5 v5 x5 g5 r5 _
                have n5 : Now K φ5 H5 σ2 ⟨e'.b, s2⟩ st5 := n4.keep x5 g5
                simp only [hf5] at q1
                cases hk : toK y with
                | none => simp only [hk, endDC] at q1; exact q1.elim
                | some k =>
                  cases hc5 : st5[st.length]? with
                  | none => simp only [hk, hc5, endDC] at q1; exact q1.elim
                  | some c5 =>
                    cases c5 with
                    | dic lb kvs =>
                      cases lb with
                      | true => simp only [hk, hc5, endDC] at q1; exact q1.elim
                      | false =>
                        simp only [hk, hc5] at q1
                        split at q1
                        · rename_i hp
                          rw [Bool.and_eq_true] at hp
                          have x15 := x1.trans (x2.trans (x3.trans (x4.trans x5)))
                          obtain ⟨kus, w1, w2, x6, g6⟩ := put_step (k := k) g5 hc5 (nd x15) r5 hp.1 (of_decide_eq_true hp.2)
                          refine ⟨kus, k.key, toK_rd r4 hk, w1, w2, _, φ5, ⟨?_, g6, by rw [List.length_set]; exact n5.base⟩, x15.trans x6, q1⟩
                          exact (n1.rel.keep (x2.trans (x3.trans (x4.trans x5))) n1.good.notup).keep x6 g5.notup
                        · simp only [endDC] at q1; exact q1.elim
                    | _ => simp only [hk, hc5, endDC] at q1; exact q1.elim
        | _ => simp only [endDC] at q1; exact q1.elim
  · have he : i = xs.length := by omega
    subst he
    refine .inl ⟨stop, ?_⟩
    rw [List.drop_length] at q1
    unfold dcompL at q1
    exact end_dic n.good hD x0 x1 n1.good q1
theorem e_dcomp {kx vx tg iter : Expr} {ifs : List Expr} {scope : Scope} {own : List (Str × Nat)} {pos : Pos} {i : FI} {g : FG} {sl : List Nat} {fc fk fv : FE} (hc : X.calm = true) (hN : X.N.Nodup) (hi : PI X tg iter (liftI X.K XA E i)) (ok : BlkOk X.N X.env.scope scope own)
    (hg : ∃ t : TG, (∀ (s : Shared) (H : Hp) (C : Addr) (cl : List (Str × Addr)) (fp : List Addr), PG (X.blk s H scope (compEnvC scope cl C X.env) fp) tg t) ∧ ∀ φ H s σ d v s' Q, Rel X.K φ H s σ → RD X.K φ H d v → g d s = some s' → (∀ σ', Rel X.K φ H s' σ' → Only2 sl σ σ' → Q σ' H) → t v σ H Q)
    (hsl : ∀ i ∈ sl, i ∈ own.map (·.2))
    (ht : ∀ (s : Shared) (H : Hp) (C : Addr) (cl : List (Str × Addr)) (fp : List Addr), PTs (X.blk s H scope (compEnvC scope cl C X.env) fp) ifs (liftT X.K XA E0 fc))
    (hk : ∀ (s : Shared) (H : Hp) (C : Addr) (cl : List (Str × Addr)) (fp : List Addr), PE (X.blk s H scope (compEnvC scope cl C X.env) fp) kx (lift X.K XA E0 fk))
    (he : ∀ (s : Shared) (H : Hp) (C : Addr) (cl : List (Str × Addr)) (fp : List Addr), PE (X.blk s H scope (compEnvC scope cl C X.env) fp) vx (lift X.K XA E0 fv)) (hs : ∀ x, foldedSetIterable iter X.env x = pure x := by intro _; rfl) :
    PE X (.DictComp kx vx [⟨tg, iter, ifs, 0⟩] scope pos) (lift X.K XA E (fDComp i g fc fk fv (own.map (·.2)))) := by
  obtain ⟨t, hp, z⟩ := hg
  refine PE.weak (pe_dc hc hN hi ok hp ht hk he hs) ?_
  rintro σ H Q ⟨e, st, φ, n, q⟩
  refine ⟨e, st, φ, n, ?_⟩
  unfold fDComp at q
  cases hf : i e st with
  | stuck => rw [hf] at q; exact q.elim
  | exc c d st1 => rw [hf] at q; exact q
  | ok xs st1 =>
    rw [hf] at q
    intro φ1 H1 J x1 g1 it D0 hD
    exact dcomp_core z hsl (n.keep x1 g1) it hD (E σ) (RQ.mono x1 q fun _ _ w => w)
end
end EV

set_option Elab.async false
set_option maxRecDepth 100000
set_option maxHeartbeats 2000000
namespace EV
open PySem PySem.Spec PyProof.Rows L2
/-! ### a dict comprehension over a dict of the frame -/
def fDCompD (j : Nat) (its : List (K1 × D) → List D) (g : FG) (c fk fv : FE) (vs : List Nat) : FE := fun e st => match e.s[j]? with
  | some (some x) => (match lkIn x st with
    | some (kvs, st1) => lkE x st (endDC st1.length (dcompL st1.length g c fk fv (its kvs) ⟨e.b, wipeD e.s vs⟩ (st1 ++ [.dic false []])))
    | none => .stuck)
  | _ => .stuck
section
variable {X : Cx} {XA : XAT} {E : L2.St → XK} {j : Nat} {tg : Expr}
theorem e_dcompD {kx vx iter : Expr} {ifs : List Expr} {scope : Scope} {own : List (Str × Nat)} {pos : Pos} {its : List (K1 × D) → List D} {g : FG} {sl : List Nat} {fc fk fv : FE} (hc : X.calm = true) (hN : X.N.Nodup) (hi : ID X j tg iter its) (ok : BlkOk X.N X.env.scope scope own)
    (hg : ∃ t : TG, (∀ (s : Shared) (H : Hp) (C : Addr) (cl : List (Str × Addr)) (fp : List Addr), PG (X.blk s H scope (compEnvC scope cl C X.env) fp) tg t) ∧ ∀ φ H s σ d v s' Q, Rel X.K φ H s σ → RD X.K φ H d v → g d s = some s' → (∀ σ', Rel X.K φ H s' σ' → Only2 sl σ σ' → Q σ' H) → t v σ H Q)
    (hsl : ∀ i ∈ sl, i ∈ own.map (·.2))
    (ht : ∀ (s : Shared) (H : Hp) (C : Addr) (cl : List (Str × Addr)) (fp : List Addr), PTs (X.blk s H scope (compEnvC scope cl C X.env) fp) ifs (liftT X.K XA E0 fc))
    (hk : ∀ (s : Shared) (H : Hp) (C : Addr) (cl : List (Str × Addr)) (fp : List Addr), PE (X.blk s H scope (compEnvC scope cl C X.env) fp) kx (lift X.K XA E0 fk))
    (he : ∀ (s : Shared) (H : Hp) (C : Addr) (cl : List (Str × Addr)) (fp : List Addr), PE (X.blk s H scope (compEnvC scope cl C X.env) fp) vx (lift X.K XA E0 fv)) (hs : ∀ x, foldedSetIterable iter X.env x = pure x := by intro _; rfl) :
    PE X (.DictComp kx vx [⟨tg, iter, ifs, 0⟩] scope pos) (lift X.K XA E (fDCompD j its g fc fk fv (own.map (·.2)))) := by
  obtain ⟨t, hp, z⟩ := hg
  obtain ⟨wi, Jf, hpi, hw, hI⟩ := hi.ex
  have base := pe_dc (pos := pos) hc hN hpi ok hp ht hk he hs
  refine PE.weak (PE.or base (pe_lock base)) ?_
  rintro σ H Q ⟨e, st, φ, n, q⟩
  unfold fDCompD at q
  cases hd : e.s[j]? with
  | none => rw [hd] at q; exact q.elim
  | some ox =>
    cases ox with
    | none => rw [hd] at q; exact q.elim
    | some x =>
      rw [hd] at q
      obtain ⟨v, hv, rv⟩ := n.rel.at_ j x hd
      cases hk : lkIn x st with
      | none => simp only [hk] at q; exact q.elim
      | some pr =>
        obtain ⟨kvs, st1⟩ := pr
        simp only [hk] at q
        cases lk_in n.good rv hk with
        | on ev h r es o =>
          subst ev es
          refine .inl (hw σ H _ _ _ _ hv h fun D0 hD => dcomp_core z hsl n (hI φ H _ _ _ kvs h r n.good.notup) hD (E σ) ?_)
          cases hr : endDC st1.length (dcompL st1.length g fc fk fv (its kvs) ⟨e.b, wipeD e.s (own.map (·.2))⟩ (st1 ++ [.dic false []])) with
          | ok d fr st2 =>
            rw [hr] at q
            simp only [lkE, o] at q
            split at q
            · exact q
            · exact q.elim
          | exc c d st2 => rw [hr] at q; exact q.elim
          | stuck => rw [hr] at q; exact q.elim
        | @off a kus ev h r g1 o l =>
          subst ev
          refine .inr ⟨a, .dK kus, h, trivial, fun od => ?_⟩
          have x0 : Ext0 φ φ H (upd H a (.frz od (.dK kus))) := ext0_lock h
          have n1 : Now X.K φ (upd H a (.frz od (.dK kus))) σ e st1 := ⟨n.rel.keep0 x0 n.good.notup, g1 od, by rw [l]; exact n.base⟩
          refine hw σ _ _ a od kus hv upd_same fun D0 hD => dcomp_core (Q := fun v H' => H' a = some (.frz od (.dK kus)) ∧ Q v (upd H' a (.dK kus))) (XA := XA) z hsl n1 (hI φ _ a od kus kvs upd_same (r.keep0 x0 n.good.notup) (g1 od).notup) hD (fun _ _ _ => False) ?_
          cases hr : endDC st1.length (dcompL st1.length g fc fk fv (its kvs) ⟨e.b, wipeD e.s (own.map (·.2))⟩ (st1 ++ [.dic false []])) with
          | ok d fr st2 =>
            rw [hr] at q
            intro φ' H' v x2 g2 r2 f2
            have hl : H' a = some (.frz od (.dK kus)) := x2.keepF a od _ upd_same
            cases hs2 : lkOut x st st2 with
            | none => simp only [lkE, hs2] at q; exact q.elim
            | some st3 =>
              simp only [lkE, hs2] at q
              split at q
              · rename_i hp2
                refine ⟨hl, q φ' _ v (ext_locked h x2) (o od φ' H' st2 st3 x2 g2 hs2) (r2.keep0 (ext0_unlock hl) g2.notup) fun zf => ?_⟩
                obtain ⟨b, c, e1, e2, e3, e4⟩ := f2 zf
                have nb : b ≠ a := fun w => by rw [w, upd_same] at e2; cases e2
                have e2' : H b = none := by rw [upd_ne nb] at e2; exact e2
                have x3 : Ext φ (φ' ++ [b]) (upd H a (.frz od (.dK kus))) H' := ⟨⟨x2.pre.trans (List.prefix_append _ _), fun y m nm => by
                  rcases List.mem_append.mp m with m | m
                  · exact x2.new y m nm
                  · rw [List.mem_singleton.mp m]; exact e2, x2.keep, x2.keepL, x2.dom⟩, x2.keepK, x2.keepT, x2.keepF⟩
                exact ⟨b, c, e1, e2', e3, o od (φ' ++ [b]) H' (st2 ++ [c]) (st3 ++ [c]) x3 e4 (lkOut_app hs2)⟩
              · exact q.elim
          | exc c d st2 => rw [hr] at q; exact q.elim
          | stuck => rw [hr] at q; exact q.elim
end
/-! ### walking a dict that has just been made -/
def iItemsL (td : TE) : TI := fun σ H R => td σ H fun x H1 => ∃ d kvs, x = .ref d ∧ H1 d = some (.dK kvs) ∧ ∀ od, R (Iti d od kvs) (upd H1 d (.frz od (.dK kvs)))
section
variable {X : Cx} {XA : XAT} {E : L2.St → XK} {e : Expr} {td : TE} {apos cpos : Pos}
theorem pi_itemsL {elts : List Expr} {kk : Nat} {tpos : Pos} (he : PE X e td) (hbase : attributeBase e "items" X.env (eval e X.env) = eval e X.env := by rfl) (hline : (apos.endLine == cpos.line) = true := by rfl) :
    PI X (.Tuple elts kk tpos) (.Call (.Attribute e "items" apos) [] [] cpos) (iItemsL td) := by
  refine ⟨fun pins s σ H R I h => ?_⟩
  refine wpAny_Call_method (T := "dict") (id := "dict.items") hbase rfl hline F.plainAttrs_dict F.slot_dict_items F.type_dict_items (thn (he.run pins s σ H _ I h) fun u s1 ⟨x, H1', I1', rx, d, kvs, ex, hd', q⟩ => ?_)
  subst ex
  obtain rfl : u = Value.ref d := rx
  obtain ⟨o, I1⟩ := I1'.lock hd' trivial
  have hd : (upd H1' d (.frz o (.dK kvs))) d = some (.frz o (.dK kvs)) := upd_same
  have q := q o
  generalize hH : upd H1' d (.frz o (.dK kvs)) = H1 at I1 hd q
  obtain ⟨hs, hgd, hx, es, ep, vs, hdt, hsz, kv, hm⟩ := I1.frzK hd
  have hl : kvs.length = vs.length := Paired.length kv
  refine ⟨hm.dictOf.typeIs, hm.dictOf.mapOf.noDict, ?_⟩
  have I2 : Inv X pins σ H1 { s1 with heap := s1.heap.push { cls := .type "dict_items", data := .fields #[.ref d] } } := I1.kept (t' := s1.toks) fun b ob q => Heap.get?_push_of_some _ q
  have fin : wpAny (model X.prog X.w) X.A (pyIter (.ref s1.heap.objs.size)) (PIE X pins σ (.Tuple elts kk tpos) R) X.xe { s1 with heap := s1.heap.push { cls := .type "dict_items", data := .fields #[.ref d] } } := by
    refine wpAny_pyIter_items (d := d) (knd := mixKind X.prog X.w) ⟨_, Heap.get?_push_size _ rfl, rfl, rfl⟩ (hm.push _) (pi_one (tk := s1.toks) I2 _ (turn_items _ hdt) ⟨.none, .none, ?_⟩ q)
    rw [hl]
    exact Heap.get?_push_size _ rfl
  show wpAny _ _ (callWith cpos (.builtin "dict.items") [.ref d] [] []) _ X.xe s1
  exact method_meetsIn F.slot_dict_items F.entry_dict_items rfl (PySem.evalArgs_none ⟨rfl, hm.dictOf.typeIs, F.args_dict_items_1 _, _, meets_dict_items (mixKind X.prog X.w) d hs, ⟨vs, hm.dictOf⟩, fin⟩)
def fItItems (f : FE) : FI := fun e st => match f e st with
  | .ok (.dic kvs) true st1 => .ok (itItems kvs) st1
  | .exc c d st1 => .exc c d st1
  | _ => .stuck
theorem i_items {elts : List Expr} {kk : Nat} {tpos : Pos} {f : FE} (he : PE X e (lift X.K XA E f)) (hbase : attributeBase e "items" X.env (eval e X.env) = eval e X.env := by rfl) (hline : (apos.endLine == cpos.line) = true := by rfl) :
    PI X (.Tuple elts kk tpos) (.Call (.Attribute e "items" apos) [] [] cpos) (liftI X.K XA E (fItItems f)) := by
  refine PI.weak (pi_itemsL he hbase hline) ?_
  rintro σ H R ⟨e, st, φ, n, q⟩
  refine ⟨e, st, φ, n, ?_⟩
  unfold fItItems at q
  cases hf : f e st with
  | stuck => rw [hf] at q; exact q.elim
  | exc c d st1 => rw [hf] at q; exact q
  | ok d fr st1 =>
    rw [hf] at q
    cases d with
    | dic kvs =>
      cases fr with
      | false => exact q.elim
      | true =>
        simp only [] at q
        intro φ1 H1 v x1 g1 r1 f1
        obtain ⟨a, c, ev, hn, hc, g2⟩ := f1 rfl
        cases hc
        subst ev
        have la := g2.at_ φ1.length (.dic false kvs) a (by rw [g1.len, List.getElem?_concat_length]) (by rw [List.getElem?_concat_length])
        obtain ⟨kus0, la1, la2⟩ := la
        rw [if_neg Bool.false_ne_true] at la1
        cases r1 with
        | @dic _ _ kus hr nm rs =>
        have e1 : H1 a = some (.dK kus) := by
          rcases hr with hr | ⟨o, hr⟩
          · exact hr
          · rw [la1] at hr; cases hr
        refine ⟨a, kus, rfl, e1, fun od => ?_⟩
        have x0 : Ext0 φ1 φ1 H1 (upd H1 a (.frz od (.dK kus))) := ext0_lock e1
        have ge : Good X.K φ1 (upd H1 a (.frz od (.dK kus))) st1 := g1.set0 (a := a) x0 (fun b m e => upd_ne e) rfl (fun _ _ _ _ => rfl) fun i c ha => absurd (List.mem_of_getElem? ha) nm
        have xe : Ext φ φ1 H (upd H1 a (.frz od (.dK kus))) := by
          have ne : ∀ {b : Addr} {u : HO}, H b = some u → b ≠ a := fun h w => by rw [w, hn] at h; cases h
          exact ⟨x1.toExt0.trans x0, fun b k h nb => by rw [upd_ne (ne h)]; exact x1.keepK b k h nb, fun b k h nb => by rw [upd_ne (ne h)]; exact x1.keepT b k h nb, fun b o u h => by rw [upd_ne (ne h)]; exact x1.keepF b o u h⟩
        exact q φ1 _ _ xe ge (iter_items upd_same (rs.keep0 x0 g1.notup) ge.notup)
    | _ => exact q.elim
end
end EV

set_option Elab.async false
set_option maxRecDepth 100000
set_option maxHeartbeats 2000000
namespace EV
open PySem PySem.Spec PyProof.Rows L2
/-! ### displays -/
def runP : List (FE × FE) → Fr → Sto → Option (List (K1 × D) × Sto)
  | [], _, st => some ([], st)
  | (fk, fv) :: r, e, st => match fk e st with
    | .ok y _ st1 => (match fv e st1 with
      | .ok z _ st2 => (match toK y, isP z, runP r e st2 with
        | some k, true, some (ps, st3) => some ((k, z) :: ps, st3)
        | _, _, _ => none)
      | _ => none)
    | _ => none
def mergeD (kvs more : List (K1 × D)) : List (K1 × D) := more.foldl (fun acc kv => putD acc kv.1 kv.2) kvs
def fDisp (ps : List (FE × FE)) : FE := fun e st => match runP ps e (st ++ [.dic false []]) with
  | some (kvs, st2) => (match st2[st.length]? with
    | some (.dic false []) => if st2.length = st.length + 1 ∧ kvs.length ≤ 15 then endDC st.length (some (st2.set st.length (.dic false (mergeD [] kvs)))) else .stuck
    | _ => .stuck)
  | none => .stuck
section
variable {X : Cx} {XA : XAT} {E : L2.St → XK}
def liftP (K : PySem.W.Frag) (XA : XAT) (E : L2.St → XK) (ps : List (FE × FE)) : List (TE × TE) := ps.map fun p => (lift K XA E p.1, lift K XA E p.2)
theorem run_pairs {K : PySem.W.Frag} {σ : L2.St} {e : Fr} : ∀ (ps : List (FE × FE)) {φ : List Addr} {H : Hp} {st st2 : Sto} {kvs : List (K1 × D)} {Q : List (V × V) → Hp → Prop}, Now K φ H σ e st → runP ps e st = some (kvs, st2) →
    (∀ φ' H' kus, Ext φ φ' H H' → Good K φ' H' st2 → RKs K φ' H' kvs kus → Q (kus.map fun kv => (kV kv.1, kv.2)) H') → tPairs (liftP K XA E ps) σ H Q
  | [], φ, H, st, st2, kvs, Q, n, h, q => by
    cases h
    exact q φ H [] (Ext.refl _ _) n.good .nil
  | (fk, fv) :: r, φ, H, st, st2, kvs, Q, n, h, q => by
    unfold runP at h
    cases hk : fk e st with
    | stuck => rw [hk] at h; cases h
    | exc c d s => rw [hk] at h; cases h
    | ok y fy st1 =>
      rw [hk] at h
      simp only [] at h
      cases hv : fv e st1 with
      | stuck => rw [hv] at h; cases h
      | exc c d s => rw [hv] at h; cases h
      | ok z fz st3 =>
        rw [hv] at h
        simp only [] at h
        refine ⟨e, st, φ, n, ?_⟩
        show RQ K XA φ H (E σ) _ (fk e st)
        rw [hk]
        intro φ1 H1 v1 x1 g1 r1 _
        have n1 := n.keep x1 g1
        refine ⟨e, st1, φ1, n1, ?_⟩
        show RQ K XA φ1 H1 (E σ) _ (fv e st1)
        rw [hv]
        intro φ2 H2 v2 x2 g2 r2 _
        have n2 := n1.keep x2 g2
        split at h
        · rename_i k ps2 st4 e1 e2 e3
          cases h
          refine run_pairs r n2 e3 fun φ3 H3 kus x3 g3 r3 => ?_
          have ev : v1 = kV k.key := toK_rd r1 e1
          rw [ev]
          exact q φ3 H3 ((k.key, v2) :: kus) (x1.trans (x2.trans x3)) g3 (.cons (r2.keep x3 g2.notup) e2 r3)
        · cases h
theorem mergeD_ok {K : PySem.W.Frag} {φ : List Addr} {H : Hp} : ∀ {more : List (K1 × D)} {mus : List (Key × V)} {kvs : List (K1 × D)} {kus : List (Key × V)}, RKs K φ H more mus → RKs K φ H kvs kus → RKs K φ H (mergeD kvs more) (mergeK kus mus)
  | [], _, _, _, .nil, r => r
  | (k, d) :: more, _ :: mus, kvs, kus, .cons h p rs, r => mergeD_ok (more := more) (mus := mus) (kvs := putD kvs k d) (kus := putK kus k.key _) rs (putD_ok h p r)
theorem e_disp {pos : Pos} {keys : List (Option Expr)} {values : List Expr} {ps : List (FE × FE)} (h : PPs X pos keys values (liftP X.K XA E ps)) (hall : keys.all (·.isSome) = true) (hl : keys.length = values.length) (h0 : keys ≠ []) (h15 : keys.length ≤ 15) : PE X (.Dict keys values pos) (lift X.K XA E (fDisp ps)) := by
  refine PE.weak (pe_disp h hall hl h0 h15) ?_
  rintro σ H Q ⟨e, st, φ, n, q⟩
  intro p hp
  unfold fDisp at q
  obtain ⟨x0, g0⟩ := new_dic n.good hp
  have hn : (φ ++ [p])[st.length]? = some p := by rw [← n.good.len, List.getElem?_concat_length]
  cases hr : runP ps e (st ++ [.dic false []]) with
  | none => rw [hr] at q; exact q.elim
  | some pr =>
    obtain ⟨kvs, st2⟩ := pr
    rw [hr] at q
    simp only [] at q
    split at q
    · rename_i hc
      split at q
      · rename_i hh
        have n0 : Now X.K (φ ++ [p]) (upd H p (.dK [])) σ e (st ++ [.dic false []]) := ⟨n.rel.keep x0 n.good.notup, g0, by rw [List.length_append]; exact Nat.le_trans n.base (Nat.le_add_right _ _)⟩
        refine run_pairs ps n0 hr fun φ' H' kus x g r => ?_
        have e1 : φ' = φ ++ [p] := len1 x.pre (by rw [g.len, hh.1, List.length_append, n.good.len]; rfl)
        subst e1
        obtain ⟨kus0, w1, w2⟩ := dic_at g hc hn
        cases w2
        refine ⟨w1, kus, rfl, by rw [← r.length]; exact hh.2, ?_⟩
        have m : p ∈ φ ++ [p] := List.mem_append_right _ (List.mem_singleton.mpr rfl)
        have x5 : Ext (φ ++ [p]) (φ ++ [p]) H' (upd H' p (.dK (mergeK [] kus))) := ext_upd m w1 fun _ _ z => by cases z
        have g5 := g.setc (c := .dic false (mergeD [] kvs)) hn x5 (fun b _ nb => upd_ne nb) (dic_co upd_same ((mergeD_ok r .nil).keep x5 g.notup))
        exact end_dic n.good hp x0 (x.trans x5) g5 q
      · exact q.elim
    · exact q.elim
/-- {} -/
def fDisp0 : FE := fun _ st => .ok (.dic []) true st
theorem e_disp0 {pos : Pos} : PE X (.Dict [] [] pos) (lift X.K XA E fDisp0) := by
  refine PE.weak pe_dnewK ?_
  rintro σ H Q ⟨e, st, φ, n, q⟩
  intro p hp
  obtain ⟨x0, g0⟩ := new_dic n.good hp
  refine end_dic (K := X.K) (XA := XA) (E1 := E σ) (st1 := st ++ [.dic false []]) n.good hp x0 (Ext.refl _ _) g0 ?_
  unfold endDC
  simp only [List.getElem?_concat_length]
  rw [if_pos (by simp), List.take_left]
  exact q
theorem p_nil {pos : Pos} : PPs X pos [] [] (liftP X.K XA E []) := pps_nil
theorem p_cons {pos : Pos} {k v : Expr} {ks : List (Option Expr)} {vs : List Expr} {fk fv : FE} {ps : List (FE × FE)} (hk : PE X k (lift X.K XA E fk)) (hv : PE X v (lift X.K XA E fv)) (hr : PPs X pos ks vs (liftP X.K XA E ps)) : PPs X pos (some k :: ks) (v :: vs) (liftP X.K XA E ((fk, fv) :: ps)) := pps_cons hk hv hr
/-- what is never asked -/
def fBad : FE := fun _ _ => .stuck
theorem e_bad {e : Expr} : PE X e (lift X.K XA E fBad) := ⟨fun p s σ H Q I ⟨_, _, _, _, q⟩ => q.elim⟩
theorem t_bad {e : Expr} : PT X e (liftT X.K XA E fBad) := ⟨fun p s σ H Q I ⟨_, _, _, _, q⟩ => q.elim⟩
theorem w_bad {e : Expr} : PW X e (liftT X.K XA E fBad) := ⟨fun wh p s σ H Q I ⟨_, _, _, _, q⟩ => q.elim⟩
/-- dict(d) -/
theorem Frs.newdic {K : PySem.W.Frag} {φ : List Addr} {H : Hp} {st : Sto} {p : Addr} {kvs : List (K1 × D)} {kus : List (Key × V)} (g : Good K φ H st) (hp : H p = none) (r : RKs K φ H kvs kus) : Ext φ φ H (upd H p (.dK kus)) ∧ Good K φ (upd H p (.dK kus)) st ∧ RD K φ (upd H p (.dK kus)) (.dic kvs) (.ref p) ∧ Frs K H φ (upd H p (.dK kus)) st (.dic kvs) (.ref p) := by
  have x := ext_new (φ := φ) (o := .dK kus) hp
  have r' := r.keep x g.notup
  have np := g.notin hp
  have x0 : Ext φ (φ ++ [p]) H (upd H p (.dK kus)) := ⟨⟨List.prefix_append _ _, fun b m nm => by
      rcases List.mem_append.mp m with m | m
      · exact absurd m nm
      · rw [List.mem_singleton.mp m]; exact hp, x.keep, x.keepL, x.dom⟩, x.keepK, x.keepT, x.keepF⟩
  exact ⟨x, g.new hp, .dic (.inl upd_same) np r', p, _, rfl, hp, rfl, g.push hp x0 (dic_co upd_same (r.keep x0 g.notup)) fun a m => upd_ne fun w => np (w ▸ m)⟩
end
end EV

set_option Elab.async false
set_option maxRecDepth 100000
set_option maxHeartbeats 2000000
namespace EV
open PySem PySem.Spec PyProof.Rows L2
/-! ### sorted(xs): whole numbers, texts, pairs (number, text) -/
def llt : List Nat → List Nat → Bool
  | _, [] => false
  | [], _ :: _ => true
  | a :: r, b :: q => Nat.blt a b || (Nat.beq a b && llt r q)
theorem llt_iff : ∀ (a b : List Nat), llt a b = decide (a < b)
  | [], [] => by simp [llt]
  | _ :: _, [] => by simp [llt]
  | [], _ :: _ => by simp [llt]
  | a :: r, b :: q => by
    rw [llt, llt_iff r q, Bool.eq_iff_iff]
    simp only [Bool.or_eq_true, Bool.and_eq_true, decide_eq_true_eq, List.cons_lt_cons_iff]
    rw [Nat.blt_eq, Nat.beq_eq]
/-- the kind of a thing that is sorted -/
inductive SK where | int | str | pr | no
deriving DecidableEq
def skOf : D → SK
  | .int _ => .int
  | .str _ => .str
  | .tup [.int _, .str _] => .pr
  | _ => .no
def ltD : D → D → Bool
  | .int i, .int j => decide (i < j)
  | .str a, .str b => llt a b
  | .tup [.int i, .str a], .tup [.int j, .str b] => decide (i < j) || (decide (i = j) && llt a b)
  | _, _ => false
theorem str_lt (a b : List Nat) : W.dataLt (.str ⟨a.toArray⟩) (.str ⟨b.toArray⟩) = llt a b := by
  rw [W.dataLt_str, llt_iff]
theorem pr_lt (i j : Int) (a b : List Nat) : W.dataLt (.tuple [.int i, .str ⟨a.toArray⟩]) (.tuple [.int j, .str ⟨b.toArray⟩]) = (decide (i < j) || (decide (i = j) && llt a b)) := by
  rw [W.dataLt_pair rfl rfl, W.dataLt_int, str_lt]
  by_cases hc : PyData.eqv (.int i) (.int j) = true
  · rw [if_pos hc]
    have h1 : i = j := by simpa [PyData.eqv] using hc
    subst h1
    by_cases hd : PyData.eqv (.str ⟨a.toArray⟩) (.str ⟨b.toArray⟩) = true
    · rw [if_pos hd]
      have e : a = b := by
        have : (⟨a.toArray⟩ : Str) = ⟨b.toArray⟩ := by simpa [PyData.eqv] using hd
        have := congrArg (fun z : Str => z.cps.toList) this
        simpa using this
      subst e
      rw [llt_iff]
      simp
    · rw [if_neg hd]
      simp
  · rw [if_neg hc]
    have h1 : ¬ i = j := fun z => hc (by simp [PyData.eqv, z])
    simp [h1]
inductive IsK : SK → D → Prop
  | int (i : Int) : IsK .int (.int i)
  | str (a : List Nat) : IsK .str (.str a)
  | pr (i : Int) (a : List Nat) : IsK .pr (.tup [.int i, .str a])
theorem isK_of {x : D} {k : SK} (h : skOf x = k) (hk : k ≠ .no) : IsK k x := by
  unfold skOf at h
  split at h <;> subst h
  · exact .int _
  · exact .str _
  · exact .pr _ _
  · exact absurd rfl hk
theorem lt_sk {x y : D} {k : SK} (hx : IsK k x) (hy : IsK k y) : W.alike (pd x) (pd y) = true ∧ W.dataLt (pd x) (pd y) = ltD x y := by
  cases hx <;> cases hy
  · exact ⟨rfl, W.dataLt_int _ _⟩
  · exact ⟨rfl, str_lt _ _⟩
  · exact ⟨rfl, pr_lt _ _ _ _⟩
def insD (x : D) : List D → List D
  | [] => [x]
  | y :: r => bif ltD x y then x :: y :: r else y :: insD x r
def sortD : List D → List D
  | [] => []
  | x :: r => insD x (sortD r)
def chainD : List D → Bool
  | x :: y :: r => ltD x y && chainD (y :: r)
  | _ => true
def gSorted (st : Sto) : List D → Option (D × Bool)
  | [x] => (match res st x with
    | .lst ds => if okEs 2 ds = true ∧ (ds.all (fun d => skOf d == .int) = true ∨ ds.all (fun d => skOf d == .str) = true ∨ ds.all (fun d => skOf d == .pr) = true) then (if chainD (sortD ds) = true then some (.lst (sortD ds), true) else none) else none
    | _ => none)
  | _ => none
def encP (p : V × D) : PyData := pd p.2
/-- sorted(xs) of such things -/
def rSortD (K : PySem.W.Frag) : List V → Hp → VK → Prop := fun xs H Q => ∃ (a : Addr) (bs : List (V × D)), xs = [.ref a] ∧ SqL K H a (bs.map (·.1)) ∧ DpAll K H (bs.map (·.1)) (bs.map encP) ∧ W.AllAlike (bs.map encP) ∧ W.Sortable (bs.map encP) ∧ (∀ b ∈ bs, (encP b).depth ≤ 8) ∧
  ∀ p, H p = none → Q (.ref p) (upd H p (.lst ((bs.mergeSort (W.dataLe false encP)).map (·.1))))
section
variable {X : Cx}
theorem each_rel {xs : List V} {us : List Value} {ds : List D} : ∀ {bs : List (V × D)} {us : List Value}, Vals (bs.map (·.1)) us → W.EachIs (fun v (b : V × D) => RelV b.1 v) us bs
  | [], _, .nil => .nil
  | _ :: _, _, .cons h t => .cons h (each_rel (xs := xs) (us := us) (ds := ds) t)
theorem rel_each : ∀ {bs : List (V × D)} {us : List Value}, W.EachIs (fun v (b : V × D) => RelV b.1 v) us bs → Vals (bs.map (·.1)) us
  | _, _, .nil => .nil
  | _, _, .cons h t => .cons h (rel_each t)
theorem cr_sortD (hu : X.A.units + 64 < cLine) : CallR X (.builtin "sorted") (rSortD X.K) := by
  intro pins s σ H vs us Q I r h
  obtain ⟨a, bs, rfl, hs, hd, hal, hk, h8, q⟩ := h
  obtain ⟨its, rv, hl, hz⟩ := I.list hs
  rw [Vals.ref1 r]
  have e := each_rel (xs := []) (us := []) (ds := []) rv
  have er : W.EachIs (fun v (b : V × D) => ∃ as, Reads s.heap v (encP b) as) its bs := by
    obtain ⟨as, ra⟩ := Dp.readsAll I _ _ _ hd rv
    exact W.readsAll_each encP ra
  refine W.sorted_data (R := fun v (b : V × D) => RelV b.1 v) (enc := encP) hl.isList e er hal hk (by rw [List.length_map] at hz; exact hz) (fun b hb => by have := h8 b hb; omega) fun out ho eo => ?_
  obtain ⟨ep, he'⟩ := PyProof.Rows.sortedAll_at s.heap its out.toArray
  have rv2 := rel_each eo
  have hlen : ((bs.mergeSort (W.dataLe false encP)).map (·.1)).length ≤ sizeLine := by
    rw [List.length_map, List.length_mergeSort]
    rw [List.length_map] at hz
    exact hz
  exact ⟨.ref _, upd H (s.heap.objs.size + 1) (.lst ((bs.mergeSort (W.dataLe false encP)).map (·.1))), I.laid (t' := s.toks) (fun _ _ => PyProof.Rows.sortedAll_old) (Nat.le_succ _) ⟨hlen, out, ep, rv2, he'⟩, rfl, q _ (I.hok.fresh (Nat.le_succ _))⟩
end
/-! the order -/
def insP (x : V × D) : List (V × D) → List (V × D)
  | [] => [x]
  | y :: r => bif ltD x.2 y.2 then x :: y :: r else y :: insP x r
def sortP : List (V × D) → List (V × D)
  | [] => []
  | x :: r => insP x (sortP r)
theorem insP_D (x : V × D) : ∀ r : List (V × D), (insP x r).map (·.2) = insD x.2 (r.map (·.2))
  | [] => rfl
  | y :: r => by
    unfold insP
    rw [List.map_cons]
    unfold insD
    cases ltD x.2 y.2
    · show y.2 :: (insP x r).map (·.2) = _
      rw [insP_D x r] <;> rfl
    · rfl
theorem sortP_D : ∀ r : List (V × D), (sortP r).map (·.2) = sortD (r.map (·.2))
  | [] => rfl
  | x :: r => by
    show (insP x (sortP r)).map (·.2) = insD x.2 (sortD (r.map (·.2)))
    rw [insP_D, sortP_D r]
theorem insP_perm (x : V × D) : ∀ r : List (V × D), (insP x r).Perm (x :: r)
  | [] => .refl _
  | y :: r => by
    unfold insP
    cases ltD x.2 y.2
    · exact ((insP_perm x r).cons y).trans (.swap x y r)
    · exact .refl _
theorem sortP_perm : ∀ r : List (V × D), (sortP r).Perm r
  | [] => .refl _
  | x :: r => (insP_perm x (sortP r)).trans ((sortP_perm r).cons x)
theorem llt_trans {a b c : List Nat} (h : llt a b = true) (h' : llt b c = true) : llt a c = true := by
  rw [llt_iff, decide_eq_true_eq] at *
  exact List.lt_trans h h'
theorem llt_asymm {a b : List Nat} (h : llt a b = true) : llt b a = false := by
  rw [llt_iff, decide_eq_true_eq] at h
  rw [llt_iff, decide_eq_false_iff_not]
  exact List.lt_asymm h
theorem lt_trans {x y z : D} {k : SK} (hx : IsK k x) (hy : IsK k y) (hz : IsK k z) (h : ltD x y = true) (h' : ltD y z = true) : ltD x z = true := by
  cases hx <;> cases hy <;> cases hz <;> unfold ltD at *
  · simp only [decide_eq_true_eq] at *; omega
  · exact llt_trans h h'
  · simp only [Bool.or_eq_true, Bool.and_eq_true, decide_eq_true_eq] at *
    rcases h with h | ⟨h, g⟩ <;> rcases h' with h' | ⟨h', g'⟩
    · left; omega
    · left; omega
    · left; omega
    · right; exact ⟨by omega, llt_trans g g'⟩
theorem lt_asymm {x y : D} {k : SK} (hx : IsK k x) (hy : IsK k y) (h : ltD x y = true) : ltD y x = false := by
  cases hx <;> cases hy <;> unfold ltD at *
  · simp only [decide_eq_true_eq, decide_eq_false_iff_not] at *; omega
  · exact llt_asymm h
  · simp only [Bool.or_eq_true, Bool.and_eq_true, decide_eq_true_eq, Bool.or_eq_false_iff, Bool.and_eq_false_iff, decide_eq_false_iff_not] at *
    rcases h with h | ⟨h, g⟩
    · exact ⟨by omega, .inl (by omega)⟩
    · exact ⟨by omega, .inr (llt_asymm g)⟩
theorem chain_pair {k : SK} : ∀ {l : List D}, (∀ x ∈ l, IsK k x) → chainD l = true → l.Pairwise fun x y => ltD x y = true
  | [], _, _ => .nil
  | [x], _, _ => List.pairwise_singleton _ _
  | x :: y :: r, hk, h => by
    unfold chainD at h
    rw [Bool.and_eq_true] at h
    have ih := chain_pair (l := y :: r) (fun z hz => hk z (List.mem_cons_of_mem _ hz)) h.2
    refine List.pairwise_cons.mpr ⟨fun z hz => ?_, ih⟩
    rcases List.mem_cons.mp hz with rfl | hz'
    · exact h.1
    · exact lt_trans (hk x (List.mem_cons_self ..)) (hk y (List.mem_cons_of_mem _ (List.mem_cons_self ..))) (hk z (List.mem_cons_of_mem _ hz)) h.1 ((List.pairwise_cons.mp ih).1 z hz')
theorem sort_eq {k : SK} {bs : List (V × D)} (hk : ∀ b ∈ bs, IsK k b.2) (h : chainD (sortD (bs.map (·.2))) = true) : bs.mergeSort (W.dataLe false encP) = sortP bs := by
  have T : W.TotalLe (W.dataLe false encP) := W.sortLe_total _ false _
  have hle : ∀ a b : V × D, a ∈ bs → b ∈ bs → W.dataLe false encP a b = !ltD b.2 a.2 := fun a b ha hb => by
    show (!W.dataLt (pd b.2) (pd a.2)) = _
    rw [(lt_sk (hk b hb) (hk a ha)).2]
  have hp := sortP_perm bs
  rw [← sortP_D] at h
  have st := chain_pair (k := k) (l := (sortP bs).map (·.2)) (fun x hx => by
    obtain ⟨b, hb, rfl⟩ := List.mem_map.mp hx
    exact hk b (hp.mem_iff.mp hb)) h
  rw [List.pairwise_map] at st
  refine List.Perm.eq_of_pairwise (le := fun a b => W.dataLe false encP a b = true) ?_ (List.pairwise_mergeSort T.trans (fun a b => by rcases T.total a b with h | h <;> rw [h] <;> simp) bs) ?_ ((List.mergeSort_perm bs _).trans hp.symm)
  · intro a b ha hb h1 h2
    have ha' : a ∈ bs := (List.mergeSort_perm bs _).mem_iff.mp ha
    have hb' : b ∈ bs := hp.mem_iff.mp hb
    rw [hle a b ha' hb', Bool.not_eq_true'] at h1
    rw [hle b a hb' ha', Bool.not_eq_true'] at h2
    have ha2 : a ∈ sortP bs := hp.mem_iff.mpr ha'
    by_cases e : a = b
    · exact e
    · rcases List.pairwise_iff_getElem.mp st with P
      obtain ⟨i, hi, ei⟩ := List.mem_iff_getElem.mp ha2
      obtain ⟨j, hj, ej⟩ := List.mem_iff_getElem.mp hb
      rcases Nat.lt_trichotomy i j with l | l | l
      · have := P i j hi hj l
        rw [ei, ej, h2] at this
        cases this
      · subst l
        exact absurd (ei.symm.trans ej) e
      · have := P j i hj hi l
        rw [ei, ej, h1] at this
        cases this
  · refine List.Pairwise.imp_of_mem ?_ st
    intro a b ha hb hab
    have ha' : a ∈ bs := hp.mem_iff.mp ha
    have hb' : b ∈ bs := hp.mem_iff.mp hb
    rw [hle a b ha' hb', lt_asymm (hk a ha') (hk b hb') hab]
    rfl
theorem zip_rd {K : PySem.W.Frag} {φ : List Addr} {H : Hp} : ∀ {ds : List D} {vs : List V}, RDs K φ H ds vs → (vs.zip ds).map (·.1) = vs ∧ (vs.zip ds).map (·.2) = ds
  | _, _, .nil => ⟨rfl, rfl⟩
  | _, _, .cons r rs => by
    obtain ⟨h1, h2⟩ := zip_rd rs
    constructor
    · rw [List.zip_cons_cons, List.map_cons, h1]
    · rw [List.zip_cons_cons, List.map_cons, h2]
theorem rds_zip {K : PySem.W.Frag} {φ : List Addr} {H : Hp} : ∀ {ds : List D} {vs : List V}, RDs K φ H ds vs → ∀ b ∈ vs.zip ds, RD K φ H b.2 b.1
  | _, _, .nil => by simp
  | _, _, .cons r rs => by
    rw [List.zip_cons_cons]
    intro b hb
    rcases List.mem_cons.mp hb with rfl | hb
    · exact r
    · exact rds_zip rs b hb
theorem rds_of {K : PySem.W.Frag} {φ : List Addr} {H : Hp} : ∀ {bs : List (V × D)}, (∀ b ∈ bs, RD K φ H b.2 b.1) → RDs K φ H (bs.map (·.2)) (bs.map (·.1))
  | [], _ => .nil
  | b :: bs, h => .cons (h b (List.mem_cons_self ..)) (rds_of fun c hc => h c (List.mem_cons_of_mem _ hc))
theorem isK_ok {k : SK} {x : D} (h : IsK k x) : isP x = true ∧ (pd x).depth ≤ 8 := by
  cases h
  · exact ⟨rfl, by simp [pd, PyData.depth]⟩
  · exact ⟨rfl, by simp [pd, PyData.depth]⟩
  · exact ⟨rfl, by simp [pd, pds, PyData.depth, PyData.depthAll]⟩
theorem pds_map : ∀ ds : List D, pds ds = ds.map pd
  | [] => rfl
  | d :: ds => by rw [List.map_cons, ← pds_map ds] <;> rfl
theorem sort_all {K : PySem.W.Frag} {φ : List Addr} {H : Hp} {st : Sto} {k : SK} {a : Addr} {ds : List D} {vs : List V} {Q : VK} (g : Good K φ H st) (hk : k ≠ .no) (hall : ds.all (fun d => skOf d == k) = true) (hok : okEs 2 ds = true) (hl : H a = some (.lst vs)) (r : RDs K φ H ds vs) (hc : chainD (sortD ds) = true)
    (q : ∀ H' v, Ext φ φ H H' → Good K φ H' st → RD K φ H' (.lst (sortD ds)) v → (true = true → Frs K H φ H' st (.lst (sortD ds)) v) → Q v H') : rSortD K [.ref a] H Q := by
  obtain ⟨z1, z2⟩ := zip_rd r
  have ik : ∀ d ∈ ds, IsK k d := fun d hd => isK_of (by simpa using List.all_eq_true.mp hall d hd) hk
  have ib : ∀ b ∈ vs.zip ds, IsK k b.2 := fun b hb => ik b.2 (by rw [← z2]; exact List.mem_map_of_mem hb)
  have em : (vs.zip ds).map encP = pds ds := by
    rw [pds_map]
    conv => rhs; rw [← z2]
    rw [List.map_map]
    rfl
  refine ⟨a, vs.zip ds, rfl, by rw [z1]; exact SqL.of hl, by rw [z1, em]; exact RDs.dp 2 ds vs r hok, fun d hd d' hd' => ?_, ?_, fun b hb => (isK_ok (ib b hb)).2, fun p hp => ?_⟩
  · obtain ⟨b, hb, rfl⟩ := List.mem_map.mp hd
    obtain ⟨b', hb', rfl⟩ := List.mem_map.mp hd'
    exact (lt_sk (ib b hb) (ib b' hb')).1
  · cases k with
    | no => exact absurd rfl hk
    | pr =>
      refine .inl fun d hd => ?_
      obtain ⟨b, hb, rfl⟩ := List.mem_map.mp hd
      obtain ⟨v, e⟩ := b
      have := ib _ hb
      cases this
      exact ⟨_, _, rfl⟩
    | int =>
      refine .inr fun d hd => ?_
      obtain ⟨b, hb, rfl⟩ := List.mem_map.mp hd
      obtain ⟨v, e⟩ := b
      have := ib _ hb
      cases this
      exact ⟨fun z => (by cases z), fun xs z => (by cases z)⟩
    | str =>
      refine .inr fun d hd => ?_
      obtain ⟨b, hb, rfl⟩ := List.mem_map.mp hd
      obtain ⟨v, e⟩ := b
      have := ib _ hb
      cases this
      exact ⟨fun z => (by cases z), fun xs z => (by cases z)⟩
  · rw [sort_eq ib (by rw [z2]; exact hc)]
    have rr : RDs K φ H (sortD ds) ((sortP (vs.zip ds)).map (·.1)) := by
      have := rds_of (bs := sortP (vs.zip ds)) fun b hb => rds_zip r b ((sortP_perm _).mem_iff.mp hb)
      rw [sortP_D, z2] at this
      exact this
    have pp : (sortD ds).all isP = true := by
      rw [List.all_eq_true]
      intro d hd
      have e : sortD ds = (sortP (vs.zip ds)).map (·.2) := by rw [sortP_D, z2]
      rw [e] at hd
      obtain ⟨b, hb, rfl⟩ := List.mem_map.mp hd
      exact (isK_ok (ib b ((sortP_perm _).mem_iff.mp hb))).1
    obtain ⟨x1, x2, x3, x4⟩ := new_lst g hp rr pp
    exact q _ _ x1 x2 x3 fun _ => x4
theorem g_sorted {K : PySem.W.Frag} : OpN K (rSortD K) gSorted := by
  intro φ H st xs d vs fr Q g rx hd q
  unfold gSorted at hd
  split at hd
  · rename_i x
    obtain ⟨v, rfl, r⟩ := rds1 rx
    split at hd
    · rename_i ds hx
      split at hd
      · rename_i hh
        split at hd
        · rename_i hc
          cases hd
          obtain ⟨a, vs, rfl, h1, r1, p1⟩ := res_lst g r hx
          rcases hh.2 with h | h | h
          · exact sort_all g (by decide) h hh.1 h1 r1 hc q
          · exact sort_all g (by decide) h hh.1 h1 r1 hc q
          · exact sort_all g (by decide) h hh.1 h1 r1 hc q
        · cases hd
      · cases hd
    · cases hd
  · cases hd
end EV

set_option Elab.async false
set_option maxRecDepth 100000
set_option maxHeartbeats 3200000
namespace EV
open PySem PySem.Spec PyProof.Rows L2
/-! ### set(xs) of texts that are unlike -/
theorem nodup_any {xs : List Str} (h : xs.Nodup) {i : Nat} (hl : i < xs.length) : (xs.take i).any (· == xs[i]) = false := by
  cases hb : (xs.take i).any (· == xs[i]) with
  | false => rfl
  | true =>
    obtain ⟨y, hy, ey⟩ := List.any_eq_true.mp hb
    have ey2 : y = xs[i] := eq_of_beq ey
    rw [ey2] at hy
    obtain ⟨j, hj⟩ := List.mem_iff_getElem?.mp hy
    rw [List.getElem?_take] at hj
    by_cases hji : j < i
    · rw [if_pos hji] at hj
      obtain ⟨hjl, ej⟩ := List.getElem?_eq_some_iff.mp hj
      exact absurd ej (List.pairwise_iff_getElem.mp h j i hjl hl hji)
    · rw [if_neg hji] at hj
      cases hj
section
variable {prog : Program} {w : World} {A : Around} {R : Result → Shared → Prop} {I : Addr} {fp wr : List Addr} {G : Array GenState → Array GenState → Prop} {n : Nat} {P : Nat → Value → Prop} {St : Nat → Shared → Prop}
open SS
theorem strs_in (W : WalksS prog w A.in1 I fp wr G n P St) (S : Addr) (hSf : S ∉ fp) (xs : List Str) (hsz : xs.length = n) (hnd : xs.Nodup) (hn4 : n < 4000)
    (hval : ∀ i v, P i v → ∃ t, v = .str (xs.getD i Str.empty) t) :
    ∀ (k i : Nat) (s : Shared), n - i = k → i ≤ n → St i s →
      s.heap.SetOf (PySem.strKind prog w) S (fun k' => (xs.take i).any (· == k')) i →
      (∀ s', Moved (S :: wr) G s s' → s'.heap.SetOf (PySem.strKind prog w) S (fun k' => (xs.take n).any (· == k')) n → R (.ok (.ret .none)) s') →
      codeAny (model prog w) A (.builtin "set.update.loop" ⟨[.ref S, .ref I], []⟩) R s := by
  have hSw : S ∉ wr := fun h => hSf (W.sub _ h)
  have hsub : ∀ b ∈ wr, b ∈ S :: wr := fun b hb => List.mem_cons_of_mem _ hb
  intro k
  induction k with
  | zero =>
    intro i s hk hi hst hS hR
    have hin : i = n := by omega
    subst hin
    refine codeAny_builtin PyProof.Rows.F.entry_set_update_loop ?_
    rw [Around.under_plainId PyProof.Rows.F.plain_set_update_loop _]
    show wpAny _ A.in1 (pyNext (.ref I) >>= _) _ _ s
    refine wpAny_bind (W.done s _ _ hst fun s' hm => ?_)
    show wpAny _ A.in1 (ret Value.none) _ _ s'
    exact wpAny_pure (hR s' (hm.mono hsub) (by
      obtain ⟨o, es, ep, t, ho, rest⟩ := hS
      exact ⟨o, es, ep, t, hm.heap S _ hSw ho, rest⟩))
  | succ k ih =>
    intro i s hk hi hst hS hR
    have hlt : i < n := by omega
    refine codeAny_builtin PyProof.Rows.F.entry_set_update_loop ?_
    rw [Around.under_plainId PyProof.Rows.F.plain_set_update_loop _]
    show wpAny _ A.in1 (pyNext (.ref I) >>= _) _ _ s
    refine wpAny_bind (W.item i s _ _ hlt hst fun v s' hP hst' hm => ?_)
    obtain ⟨t, rfl⟩ := hval i v hP
    have hS' : s'.heap.SetOf (PySem.strKind prog w) S (fun k' => (xs.take i).any (· == k')) i := by
      obtain ⟨o, es, ep, tb, ho, rest⟩ := hS
      exact ⟨o, es, ep, tb, hm.heap S _ hSw ho, rest⟩
    show wpAny _ A.in1 (holding [Value.str (xs.getD i Str.empty) t] (setAdd S (.str (xs.getD i Str.empty) t)) >>= _) _ _ s'
    refine wpAny_bind (wpAny_holding ?_)
    unfold setAdd
    refine wpAny_holding ?_
    refine wpAny_bind ((PySem.strKind prog w).pyHash (k := xs.getD i Str.empty) (strKind_is _ _ _ _) ?_)
    refine wpAny_setAddHashed_of (knd := PySem.strKind prog w) (s := { s' with toks := s'.toks + 1 }) (strKind_is _ _ _ _) rfl hS' (by unfold scanBound; omega) fun h' hsb hS2 => ?_
    have hSi : h'.SetOf (PySem.strKind prog w) S (fun k' => (xs.take (i + 1)).any (· == k')) (i + 1) := by
      have hl : i < xs.length := by omega
      have eg : xs.getD i Str.empty = xs[i] := by rw [List.getD_eq_getElem?_getD, List.getElem?_eq_getElem hl] <;> rfl
      have et : xs.take (i + 1) = xs.take i ++ [xs[i]] := by rw [List.take_add_one, List.getElem?_eq_getElem hl] <;> rfl
      have no : (xs.take i).any (· == xs[i]) = false := nodup_any hnd hl
      refine SetOf_congr hS2 (fun k' => ?_) (by rw [eg, no]; rfl)
      rw [et, List.any_append, eg, Bool.eq_iff_iff]
      simp only [Bool.or_eq_true, decide_eq_true_eq, List.any_cons, List.any_nil, Bool.or_false, beq_iff_eq]
      exact or_congr Iff.rfl eq_comm
    refine wpAny_pure ⟨plainId_quiet PyProof.Rows.F.plain_set_update_loop _, ih (i + 1) _ (by omega) hlt (W.frame _ s' _ _ hst' (Nat.le_succ _) fun b hb o e => ?_) hSi fun s'' hm'' hS'' => ?_⟩
    · rw [hsb.2 b (fun h : b = S => hSf (by rw [← h]; exact hb))]; exact e
    · refine hR s'' (Moved.trans W.gtrans ((hm.mono hsub).then_heap (Nat.le_succ _) fun b o hb e => ?_) hm'') hS''
      rw [hsb.2 b (fun h : b = S => hb (by rw [h]; exact List.mem_cons_self))]; exact e
end

section
open SS
variable {prog : Program} {w : World} {A : Around} {E : Value → Shared → Prop} {s : Shared}
theorem set_of_strs {l : Addr} {items : Array Value} {xs : List Str} {Q : Value → Shared → Prop}
    (hh : A.handled = none) (hl : s.heap.IsList l items) (hi : PyProof.Rows.StrsAre items.toList xs) (hnd : xs.Nodup) (hn4 : xs.length < 4000)
    (h : ∀ (h' : Heap) (tk : Nat), h'.SetOf (PySem.strKind prog w) s.heap.objs.size (fun k' => (xs.take items.size).any (· == k')) items.size →
      (∀ b o, b < s.heap.objs.size → s.heap.get? b = some o → h'.get? b = some o) → Q (.ref s.heap.objs.size) { s with heap := h', toks := tk }) :
    wpAny (model prog w) A (call (.type "set") [.ref l]) Q E s := by
  obtain ⟨c, tl, hmro⟩ := PySem.F.called_set.mro
  have hmade := PySem.F.called_set.made
  have hsub := PySem.F.called_set.sub
  refine wpAny_call (codeAny_of_tree ?_)
  show wpAny _ _ (callAny (.type "set") _) _ _ _
  refine wpAny_pure ⟨Code.quiet_builtin _ (by decide +kernel), codeAny_builtin PySem.F.entry_type_call ?_⟩
  rw [Around.under_plain (weight_type_call_type "set" [.ref l] []) rfl]
  have h1 := PySem.F.called_set.notType
  have h2 := PySem.F.called_set.canCreate
  have hct := PySem.F.typeCall_set_1 (.ref l)
  repeat (any_goals (first | assumption | wp_step))

  refine codeAny_mono (code_set_new_1 (.ref l) (E := E) (Q₁ := fun obj s₁ => ∃ led : Bool, obj = .ref s.heap.objs.size ∧ s₁ = { s with heap := s.heap.push { cls := .type "set", dict := none, data := .set #[] 0 (.fresh 0 0 led) } }) fun led => ⟨led, rfl, rfl⟩) fun r s₁ hr => ?_
  cases r with
  | error e => exact hr
  | ok fl =>
    cases fl with
    | ret obj =>
      obtain ⟨led, rfl, rfl⟩ := hr
      have hS : (s.heap.push { cls := .type "set", dict := none, data := .set #[] 0 (.fresh 0 0 led) }).get? s.heap.objs.size = some { cls := .type "set", dict := none, data := .set #[] 0 (.fresh 0 0 led) } := Heap.get?_push_size _ rfl
      have hT : Shared.TypeIs { s with heap := s.heap.push { cls := .type "set", dict := none, data := .set #[] 0 (.fresh 0 0 led) } } (.ref s.heap.objs.size) "set" := ⟨_, hS, rfl⟩
      have hli := PySem.F.called_set.init.lookup
      have hbi := PySem.F.called_set.init.bind (.ref s.heap.objs.size)
      repeat (any_goals (first | assumption | wp_step))

      refine codeAny_mono (codeAny_call_builtin (R := wants (fun r s₂ => r = .none ∧ ∃ h' tk, s₂ = { s with heap := h', toks := tk } ∧
          h'.SetOf (PySem.strKind prog w) s.heap.objs.size (fun k' => (xs.take items.size).any (· == k')) items.size ∧
          (∀ b o, b < s.heap.objs.size → s.heap.get? b = some o → h'.get? b = some o)) E) PySem.F.called_set.init.plain PySem.F.entry_set_init (check_set_init_1 hT ?_)) fun r₂ s₂ hr₂ => ?_
      · obtain ⟨ol, hol, hcl, nl, hdl⟩ := hl
        obtain ⟨ocls, odict, odata, oslots⟩ := ol
        simp only at hcl hdl
        subst hcl; subst hdl
        have hol' : (s.heap.push { cls := .type "set", dict := none, data := .set #[] 0 (.fresh 0 0 led) }).get? l = some { cls := .type "list", dict := odict, data := .seq items nl, slots := oslots } := Heap.get?_push_of_some _ hol
        have hsls := PySem.F.sub_list_set
        have hslf := PySem.F.sub_list_frozenset
        have hne : (Value.type "list" == Value.type "dict") = false := by decide
        have hl1 : (s.heap.push { cls := .type "set", dict := none, data := .set #[] 0 (.fresh 0 0 led) }).IsList l items := ⟨_, hol', rfl, nl, rfl⟩
        unfold Builtin.«set.__init__» noKeywords Builtin.Frozenset.updateFrom
        generalize hPI : pyIter = PI
        wp_walk
        subst hPI

        refine wpAny_pyIter_list hl1 ?_
        refine wpAny_bind (wpAny_runValue ?_)
        have hlS : l < s.heap.objs.size := Heap.lt_size hol
        have hh3 : A.in1.in1.in1.handled = none := by simp [hh]
        have hneI : l ≠ (s.heap.push { cls := .type "set", dict := none, data := .set #[] 0 (.fresh 0 0 led) }).objs.size := by
          rw [Heap.size_push]; exact Nat.ne_of_lt (Nat.lt_succ_of_lt hlS)
        have hSf : s.heap.objs.size ∉ [(s.heap.push { cls := .type "set", dict := none, data := .set #[] 0 (.fresh 0 0 led) }).objs.size, l] := by
          rw [Heap.size_push]; simp only [List.mem_cons, List.mem_singleton, List.not_mem_nil, or_false, not_or]
          exact ⟨Nat.ne_of_lt (Nat.lt_succ_self _), Nat.ne_of_gt hlS⟩
        have hsz : xs.length = items.size := by rw [← StrsAre.len_eq hi, Array.length_toList]
        have hval : ∀ (i : Nat) (v : Value), items[i]? = some v → ∃ t, v = .str (xs.getD i Str.empty) t := fun i v hv => strs_at hi i v (by rw [Array.getElem?_toList]; exact hv)
        refine strs_in ((Walks.list hh3 _ l hneI items).toS) s.heap.objs.size
          hSf xs hsz hnd (by rw [← hsz]; exact hn4) hval (items.size - 0) 0 _ (by omega) (Nat.zero_le _)
          ⟨⟨_, Heap.get?_push_size _ rfl, rfl, rfl⟩, (hl1.push _)⟩ ?hS0 ?hR
        case hS0 =>
          have hget : ((s.heap.push { cls := .type "set", dict := none, data := .set #[] 0 (.fresh 0 0 led) }).push { cls := .type "list_iterator", data := .fields #[.ref l, .int 0 0] }).get? s.heap.objs.size
              = some { cls := .type "set", dict := none, data := .set #[] 0 (.fresh 0 0 led) } := Heap.get?_push_of_some _ hS
          exact PyProof.Rows.SetOf_congr ((PyProof.Rows.setObjOf_fresh (knd := PySem.strKind prog w) led).setOf hget (by unfold scanBound; omega)) (fun _ => rfl) rfl
        case hR =>
          intro s' hm hS'
          obtain ⟨h', g', d', tk', os'⟩ := s'
          have eg : g' = s.gens := hm.gens
          have ed : d' = s.drawn := hm.drawn
          have eo : os' = s.os := hm.os
          subst eg; subst ed; subst eo
          show wpAny _ _ _ _ _ _
          refine wpAny_pure ?_
          show wpAny _ _ (ret Value.none) _ _ _
          refine wpAny_pure ⟨rfl, h', tk', rfl, hS', fun b o hb e => ?_⟩
          have hb1 : b ≠ s.heap.objs.size := Nat.ne_of_lt hb
          have hb2 : b ≠ (s.heap.push { cls := .type "set", dict := none, data := .set #[] 0 (.fresh 0 0 led) }).objs.size := by
            rw [Heap.size_push]; exact Nat.ne_of_lt (Nat.lt_succ_of_lt hb)
          exact hm.heap b o (by simp only [List.mem_cons, List.mem_singleton, List.not_mem_nil, or_false, not_or]; exact ⟨hb1, hb2⟩) (Heap.get?_push_of_some _ (Heap.get?_push_of_some _ e))

      · cases r₂ with
        | error e => exact hr₂
        | ok fl₂ =>
          cases fl₂ with
          | ret r =>
            obtain ⟨rfl, h', tk, rfl, hS', hk'⟩ := hr₂
            repeat (any_goals (first | assumption | wp_step))
            exact h _ _ hS' hk'
          | _ => exact hr₂.elim
    | _ => exact hr.elim
end
end EV

set_option Elab.async false
set_option maxRecDepth 100000
set_option maxHeartbeats 2000000
namespace EV
open PySem PySem.Spec PyProof.Rows L2
/-! ### len(set(xs)), texts that are unlike -/
def strL : List D → Option (List (List Nat))
  | [] => some []
  | .str z :: r => (strL r).map (z :: ·)
  | _ => none
theorem strL_rd {K : PySem.W.Frag} {φ : List Addr} {H : Hp} : ∀ {ds : List D} {vs : List V} {zs : List (List Nat)}, RDs K φ H ds vs → strL ds = some zs → vs = (zs.map fun z : List Nat => (⟨z.toArray⟩ : Str)).map V.str ∧ ds = zs.map D.str
  | _, _, _, .nil, h => by cases h; exact ⟨rfl, rfl⟩
  | _, _, _, .cons (d := d) r rs, h => by
    cases d <;> first | (cases h; done) | skip
    rename_i ds vs z
    unfold strL at h
    cases h2 : strL _ with
    | none => rw [h2] at h; cases h
    | some ms =>
      rw [h2] at h
      cases h
      cases r
      obtain ⟨e1, e2⟩ := strL_rd rs h2
      rw [e1, e2]
      exact ⟨rfl, rfl⟩
def inL (z : List Nat) : List (List Nat) → Bool
  | [] => false
  | y :: r => lbeq z y || inL z r
def ndL : List (List Nat) → Bool
  | [] => true
  | z :: r => !inL z r && ndL r
theorem inL_iff {z : List Nat} : ∀ {r : List (List Nat)}, inL z r = true ↔ z ∈ r
  | [] => by simp [inL]
  | y :: r => by rw [inL, Bool.or_eq_true, lbeq_iff, inL_iff (r := r), List.mem_cons]
theorem ndL_ok : ∀ {r : List (List Nat)}, ndL r = true → r.Nodup
  | [], _ => .nil
  | z :: r, h => by
    rw [ndL, Bool.and_eq_true, Bool.not_eq_true'] at h
    refine List.nodup_cons.mpr ⟨fun m => ?_, ndL_ok h.2⟩
    rw [inL_iff.mpr m] at h
    cases h.1
def tLenSetS (K : PySem.W.Frag) (ta : TE) : TE := fun σ H Q => ta σ H fun x H1 => ∃ l, ∃ xs : List Str, x = .ref l ∧ SqL K H1 l (xs.map V.str) ∧ xs.Nodup ∧ xs.length < 4000 ∧ Q (.int xs.length) H1
section
variable {X : Cx} {XA : XAT} {E : L2.St → XK}
theorem pe_lenSetS {a : Expr} {ta : TE} {p p2 q pos : Pos} (hc : X.calm = true) (hg : Gl X "len") (hm : X.mg "len" = none) (hg2 : Gl X "set") (hm2 : X.mg "set" = none) (ha : PE X a ta)
    (na : starEach [a] X.env = (false, eval a X.env) :: starEach [] X.env := by rfl) : PE X (.Call (.Name "len" p) [.Call (.Name "set" p2) [a] [] q] [] pos) (tLenSetS X.K ta) := by
  refine ⟨fun pins s σ H Q I h => Call_ (ld_blt I hg hm boot_len (PyProof.Rows.callWith_builtin1 (PyProof.Rows.args_cons ?_ rfl) rfl rfl))⟩
  refine Call_ (ld_blt I hg2 hm2 boot_set (PyProof.Rows.callWith_type1 (PyProof.Rows.args_cons (thn (ha.run pins s σ H _ I h) fun v s1 z => PyProof.Rows.args_nil ?_) na) na rfl))
  obtain ⟨x, H1, I1, r1, l, xs, rfl, hq, hnd, h4, q1⟩ := z
  cases r1
  obtain ⟨its, r, pl, hz⟩ := I1.list hq
  have hl : its.toArray.size = xs.length := by rw [List.size_toArray, ← r.length, List.length_map]
  refine set_of_strs (I1.ok.hd hc) pl.isList (by simpa using strsAre_of r) hnd h4 fun h' tk hS hk => PyProof.Rows.args_nil ?_
  rw [hl] at hS
  obtain ⟨o, es, ep, t, ho, hex, hd, _, _, _, hf, hn⟩ := hS
  have I2 : Inv X pins σ H1 { s1 with heap := h', toks := tk } := I1.kept fun b o e => hk b o (Heap.lt_size e) e
  exact call_len_set ho hex hd hf (by rw [hn] <;> omega) ⟨.int xs.length, H1, I2.tok _, ⟨_, by rw [hn]⟩, q1⟩
def gLenSet (st : Sto) (x : D) : Option (D × Bool) := match res st x with
  | .lst ds => (match strL ds with
    | some zs => if ndL zs = true ∧ zs.length < 4000 then some (.int zs.length, false) else none
    | none => none)
  | _ => none
theorem e_lenSet {a : Expr} {f : FE} {p p2 q pos : Pos} (hc : X.calm = true) (hg : Gl X "len") (hm : X.mg "len" = none) (hg2 : Gl X "set") (hm2 : X.mg "set" = none) (ha : PE X a (lift X.K XA E f))
    (na : starEach [a] X.env = (false, eval a X.env) :: starEach [] X.env := by rfl) : PE X (.Call (.Name "len" p) [.Call (.Name "set" p2) [a] [] q] [] pos) (lift X.K XA E (f1 gLenSet f)) := by
  refine PE.weak (pe_lenSetS hc hg hm hg2 hm2 ha na) ?_
  rintro σ H Q ⟨e, st, φ, n, q⟩
  unfold f1 at q
  refine RQ.bind n q fun d fr φ1 H1 st1 v hf x1 n1 r1 q1 => ?_
  cases hg : gLenSet st1 d with
  | none => simp only [hg, ofO] at q1; exact q1.elim
  | some pr =>
    simp only [hg, ofO] at q1
    unfold gLenSet at hg
    split at hg
    · rename_i ds hx
      split at hg
      · rename_i zs hz
        split at hg
        · rename_i hh
          cases hg
          obtain ⟨a, vs, rfl, h1, r2, p1⟩ := res_lst n1.good r1 hx
          obtain ⟨e1, e2⟩ := strL_rd r2 hz
          subst e1
          refine ⟨a, zs.map fun z : List Nat => (⟨z.toArray⟩ : Str), rfl, SqL.of h1, ?_, by rw [List.length_map]; exact hh.2, ?_⟩
          · refine List.Pairwise.map _ (fun x y hne w => hne ?_) (ndL_ok hh.1)
            have := congrArg (fun z : Str => z.cps.toList) w
            simpa using this
          · rw [List.length_map]
            exact q1 φ1 H1 _ (Ext.refl _ _) n1.good (.int _) fun z => by cases z
        · cases hg
      · cases hg
    · cases hg
end
end EV

set_option Elab.async false
set_option maxRecDepth 100000
set_option maxHeartbeats 2000000
namespace EV
open PySem PySem.Spec PyProof.Rows L2
/-! ### methods of texts, one argument -/
def isStrD (_ : Sto) : D → Bool
  | .str _ => true
  | _ => false
def fM1 (g : Sto → D → D → Option (D × Bool)) (fa fb : FE) : FE := fRecv isStrD fa fun x => fBind fb fun y _ st => ofO st (g st x y)
section
variable {X : Cx} {XA : XAT} {E : L2.St → XK}
theorem e_m1 {r : V → List V → Hp → VK → Prop} {g : Sto → D → D → Option (D × Bool)} {fa fb : FE} {e : Expr} (h : PE X e (tM1 r (lift X.K XA E fa) (lift X.K XA E fb))) (hg : Op2 X.K (fun x y H Q => r x [y] H Q) g) : PE X e (lift X.K XA E (fM1 g fa fb)) := by
  refine PE.weak h ?_
  rintro σ H Q ⟨e, st, φ, n, q⟩
  unfold fM1 fRecv at q
  refine RQ.bind n q fun x fx φ1 H1 st1 v1 ef x1 n1 r1 q1 => ?_
  split at q1
  · rename_i hs
    refine ⟨?_, ?_⟩
    · unfold isStrD at hs
      split at hs
      · cases r1; exact ⟨_, rfl⟩
      · cases hs
    · refine RQ.bind n1 q1 fun y fy φ2 H2 st2 v2 ef2 x2 n2 r2 q2 => ?_
      obtain ⟨d, fr, hd, q3⟩ := RQ.of q2
      exact hg φ2 H2 st2 x y d v1 v2 fr Q n2.good (r1.keep x2 n1.good.notup) r2 hd fun H' v x3 g3 r3 f3 => q3 φ2 H' v x3 g3 r3 f3
  · exact q1.elim
def gJoin (st : Sto) (x y : D) : Option (D × Bool) := match x, res st y with
  | .str z, .lst ds => (match strL ds with
    | some zs => if (zs.map List.length).sum + zs.length * z.length ≤ 16777216 then some (.str (TL.joinL z zs), false) else none
    | none => none)
  | _, _ => none
theorem g_join {K : PySem.W.Frag} : Op2 K (fun x y H Q => (fun x xs H Q => ∃ a p, ∃ ys : List Str, x = .str a ∧ xs = [.ref p] ∧ (SqL K H p (ys.map V.str) ∨ SqT K H p (ys.map V.str)) ∧ (ys.map (·.length)).sum + ys.length * a.length ≤ 16777216 ∧ Q (.str (Txt.join a ys)) H : V → List V → Hp → VK → Prop) x [y] H Q) gJoin := by
  intro φ H st x y d vx vy fr Q g rx ry hd q
  unfold gJoin at hd
  split at hd
  · rename_i z ds hx
    split at hd
    · rename_i zs hz
      split at hd
      · rename_i hl
        cases hd
        cases rx
        obtain ⟨a, vs, rfl, h1, r2, p1⟩ := res_lst g ry hx
        obtain ⟨e1, e2⟩ := strL_rd r2 hz
        subst e1
        refine ⟨⟨z.toArray⟩, a, zs.map fun z : List Nat => (⟨z.toArray⟩ : Str), rfl, rfl, .inl (SqL.of h1), ?_, ?_⟩
        · rw [List.map_map, List.length_map]
          have : (List.map ((fun x : Str => x.length) ∘ fun z : List Nat => (⟨z.toArray⟩ : Str)) zs) = zs.map List.length := List.map_congr_left fun w _ => str_len w
          rw [this, str_len]
          exact hl
        · have e : Txt.join (⟨z.toArray⟩ : Str) (zs.map fun z : List Nat => (⟨z.toArray⟩ : Str)) = ⟨(TL.joinL z zs).toArray⟩ := by
            rw [TL.join_eq]
            have t := TL.tl_join (⟨z.toArray⟩ : Str) (zs.map fun z : List Nat => (⟨z.toArray⟩ : Str))
            rw [List.map_map] at t
            have : (List.map (TL.tl ∘ fun z : List Nat => (⟨z.toArray⟩ : Str)) zs) = zs := by
              conv => rhs; rw [← List.map_id zs]
              exact List.map_congr_left fun w _ => by simp [TL.tl]
            rw [this] at t
            have e0 : TL.tl (⟨z.toArray⟩ : Str) = z := by simp [TL.tl]
            rw [e0] at t
            generalize Str.join (⟨z.toArray⟩ : Str) (zs.map fun z : List Nat => (⟨z.toArray⟩ : Str)) = w at t
            cases w with
            | mk c =>
              have : c.toList = TL.joinL z zs := t
              rw [← this]
          rw [e]
          exact q H _ (Ext.refl _ _) g (.str _) fun z => by cases z
      · cases hd
    · cases hd
  · cases hd
def gStrIx (_ : Sto) (x y : D) : Option (D × Bool) := match x, y with
  | .str a, .str b => (match Builtin.Str.occurrences ⟨a.toArray⟩ ⟨b.toArray⟩ 0 a.length 1 with
    | i :: _ => some (.int (i : Nat), false)
    | [] => none)
  | _, _ => none
theorem g_strix {K : PySem.W.Frag} : Op2 K (fun x y H Q => (fun x xs H Q => ∃ a b i rest, x = .str a ∧ xs = [.str b] ∧ Builtin.Str.occurrences a b 0 a.length 1 = i :: rest ∧ Q (.int (i : Nat)) H : V → List V → Hp → VK → Prop) x [y] H Q) gStrIx := by
  intro φ H st x y d vx vy fr Q g rx ry hd q
  unfold gStrIx at hd
  split at hd
  · rename_i a b
    split at hd
    · rename_i i rest ho
      cases hd
      cases rx
      cases ry
      exact ⟨_, _, i, rest, rfl, rfl, by rw [str_len]; exact ho, q H _ (Ext.refl _ _) g (.int _) fun z => by cases z⟩
    · cases hd
  · cases hd
example : (match gStrIx [] (.str [97, 98, 99]) (.str [98]) with | some (.int i, _) => decide (i = 1) | _ => false) = true := by decide +kernel
end
end EV

set_option Elab.async false
set_option maxRecDepth 100000
set_option maxHeartbeats 2000000
namespace EV
open PySem PySem.Spec PyProof.Rows L2
/-! ### t[::-1] of a tuple -/
theorem adj_back (n : Nat) : Builtin.Slice.sliceAdjust none none (-1) (n : Int) = ((n : Int) - 1, -1) := by
  simp [Builtin.Slice.sliceAdjust]
theorem places_back (n : Nat) : Builtin.Slice.slicePlaces ((n : Int) - 1) (-1) (-1) = n := by
  unfold Builtin.Slice.slicePlaces
  rw [if_neg (by decide)]
  simp
  try omega
theorem pick_back {α : Type} (xs : Array α) : ((List.range xs.size).filterMap fun (m : Nat) => xs[((xs.size : Int) - 1 + (m : Int) * (-1)).toNat]?).toArray = xs.toList.reverse.toArray := by
  congr 1
  have e : ((List.range xs.size).filterMap fun (m : Nat) => xs[((xs.size : Int) - 1 + (m : Int) * (-1)).toNat]?) = (List.range xs.size).filterMap fun m => xs.toList.reverse[m]? := by
    have gen : ∀ l : List Nat, (∀ m ∈ l, m < xs.size) → (l.filterMap fun (m : Nat) => xs[((xs.size : Int) - 1 + (m : Int) * (-1)).toNat]?) = l.filterMap fun m => xs.toList.reverse[m]? := by
      intro l
      induction l with
      | nil => intro _; rfl
      | cons m l ih =>
        intro h
        have hm := h m (List.mem_cons_self ..)
        have h1 : ((xs.size : Int) - 1 + (m : Int) * (-1)).toNat = xs.size - 1 - m := by omega
        have h2 : xs[((xs.size : Int) - 1 + (m : Int) * (-1)).toNat]? = xs.toList.reverse[m]? := by
          rw [h1, List.getElem?_reverse (by simpa using hm)]
          simp
        rw [List.filterMap_cons, List.filterMap_cons, h2, ih fun k hk => h k (List.mem_cons_of_mem _ hk)]
    exact gen _ fun m hm => List.mem_range.mp hm
  rw [e]
  have z : ∀ l : List α, (List.range l.length).filterMap (fun m => l[m]?) = l := fun l => by
    induction l with
    | nil => rfl
    | cons a l ih =>
      rw [List.length_cons, List.range_succ_eq_map, List.filterMap_cons, List.filterMap_map]
      simp only [List.getElem?_cons_zero]
      congr 1
  have := z xs.toList.reverse
  rw [List.length_reverse, Array.length_toList] at this
  exact this
section
open HT
variable {prog : Program} {w : World} {A : Around} {E : Value → Shared → Prop} {s : Shared}
theorem slice_back {sl : Addr} {vl vu vs : Value} {n : Nat} {Q : Int × Int × Nat → Shared → Prop} (hs : s.heap.IsSliceOf sl vl vu vs) (pl : IsPart vl none) (pu : IsPart vu none) (ps : IsPart vs (some (-1)))
    (h : Q ((n : Int) - 1, -1, n) s) : wpAny (model prog w) A (Builtin.Slice.sliceApplied (.ref sl) (pure (n : Int))) Q E s := by
  obtain ⟨os, hos, hcs, hds⟩ := id hs
  unfold Builtin.Slice.sliceApplied Builtin.Slice.sliceFields
  refine wpAny_bind (wpAny_bind (wpAny_field hos hds (x := vl) rfl (wpAny_bind (wpAny_field hos hds (x := vu) rfl (wpAny_bind (wpAny_field hos hds (x := vs) rfl (wpAny_pure ?_)))))))
  refine wpAny_bind (slicePart_ ps ?_)
  show wpAny _ _ (if ((-1 : Int) == 0) = true then _ else _) _ _ s
  rw [if_neg (by decide)]
  refine wpAny_bind (slicePart_ pl (wpAny_bind (slicePart_ pu (wpAny_bind (wpAny_pure ?_)))))
  show wpAny _ _ (match Builtin.Slice.sliceAdjust none none (-1) (n : Int) with | (lo, hi) => pure (lo, (-1 : Int), Builtin.Slice.slicePlaces lo hi (-1))) _ _ s
  rw [adj_back n]
  show wpAny _ _ (pure ((n : Int) - 1, (-1 : Int), Builtin.Slice.slicePlaces ((n : Int) - 1) (-1) (-1))) _ _ s
  rw [places_back]
  exact wpAny_pure h
theorem tuple_back {t sl : Addr} {items : Array Value} {vl vu vs : Value} {Q : Value → Shared → Prop} (ht : IsTup s.heap t items) (hs : s.heap.IsSliceOf sl vl vu vs) (pl : IsPart vl none) (pu : IsPart vu none) (ps : IsPart vs (some (-1)))
    (h : Q (.ref s.heap.objs.size) { s with heap := s.heap.push { cls := .type "tuple", data := .seq items.toList.reverse.toArray } })
    (hsz : items.size ≤ sizeLine) : wpAny (model prog w) A (getItem (.ref t) (.ref sl)) Q E s := by
  have hsize : sizeOk (.seq items.toList.reverse.toArray) := by
    show items.toList.reverse.toArray.size ≤ sizeLine
    rw [List.size_toArray, List.length_reverse, Array.length_toList]
    exact hsz
  obtain ⟨os, hos, hcs, hds⟩ := id hs
  have hTs : s.TypeIs (.ref sl) "slice" := ⟨os, hos, hcs⟩
  unfold getItem
  refine wpAny_holding ?_
  refine wpAny_bind (wpAny_sequenceKey ht.typeIs (by decide) ?_)
  refine wpAny_bind (wpAny_callSpecial?_slot (name := Str.ofString "__getitem__") ht.typeIs PyProof.Rows.slot_tuple_getitem
    (wpAny_call_entry PyProof.Rows.slot_tuple_getitem ht.typeIs entry_tuple_getitem ?_ (args_tuple_getitem _ _)))
  show wpAny _ _ (Builtin.Tuple.tupleItemsOf (.ref t) >>= _) _ _ s
  refine wpAny_bind (tupleItemsOf_ ht (wpAny_bind (wpAny_typeOf hTs ?_)))
  rw [if_pos (by decide)]
  refine wpAny_bind (slice_back hs pl pu ps ?_)
  have hno : ¬ (((items.size : Int) - 1 == 0 && (-1 : Int) == 1 && items.size == items.size) = true) := by simp
  show wpAny _ _ (if ((items.size : Int) - 1 == 0 && (-1 : Int) == 1 && items.size == items.size) = true then _ else _) _ _ s
  rw [if_neg hno, pick_back]
  first
    | exact wpAny_bind (m := Builtin.Tuple.tupleExact _) (wpAny_newObj_type (wpAny_pure ⟨_, rfl, wpAny_pure h⟩) hsize)
    | exact wpAny_bind (wpAny_bind (m := Builtin.Tuple.tupleExact _) (wpAny_newObj_type (wpAny_pure (wpAny_pure ⟨_, rfl, wpAny_pure h⟩)) hsize))
    | exact wpAny_bind (wpAny_bind (m := Builtin.Tuple.tupleExact _) (wpAny_newObj_type (wpAny_pure ⟨_, rfl, wpAny_pure h⟩) hsize))
end
def tRevT (K : PySem.W.Frag) (te : TE) : TE := fun σ H Q => te σ H fun x H1 => ∃ a xs, x = .ref a ∧ SqT K H1 a xs ∧ ∀ p, H1 p = none → Q (.ref p) (upd H1 p (.tup xs.reverse))
section
variable {X : Cx} {XA : XAT} {E : L2.St → XK}
theorem pe_revT {e : Expr} {te : TE} {k : Nat} {p1 p2 p3 pos : Pos} (he : PE X e te) : PE X (.Subscript e (.Slice none none (some (.UnaryOp .USub (.Constant (.int 1) k p1) p2)) p3) pos) (tRevT X.K te) := by
  refine ⟨fun pins s σ H Q I h => ?_⟩
  refine Subscript_ (thn (he.run pins s σ H _ I h) fun v s1 ⟨x, H1, I1, r1, q1⟩ => ?_)
  obtain ⟨a, xs, ex, hx, q⟩ := q1
  subst ex
  cases r1
  have hst : PO X (some (.UnaryOp .USub (.Constant (.int 1) k p1) p2)) (tPart (tUn (rU fun i => .int (-i)) (tC (.int 1)))) := po_some (pe_un un_neg pe_int)
  refine wpAny_Slice (thn (po_none.run pins s1 σ H1 (fun o H2 => o = none ∧ H2 = H1) I1 ⟨rfl, rfl⟩) fun vl s2 z2 => ?_)
  obtain ⟨l, H2, I2, pl, el, e2⟩ := z2
  subst el e2
  refine thn (po_none.run pins s2 σ H2 (fun o H3 => o = none ∧ H3 = H2) I2 ⟨rfl, rfl⟩) fun vu s3 z3 => ?_
  obtain ⟨u, H3, I3, pu, eu, e3⟩ := z3
  subst eu e3
  refine thn (hst.run pins s3 σ H3 (fun o H4 => o = some (-1) ∧ H4 = H3) I3 ⟨1, rfl, -1, rfl, rfl, rfl⟩) fun vs s4 z4 => ?_
  obtain ⟨o, H4, I4, ps, eo, e4⟩ := z4
  subst eo e4
  have I5 : Inv X pins σ H4 { s4 with heap := s4.heap.push { cls := .type "slice", data := .fields #[vl, vu, vs] } } := I4.kept (t' := s4.toks) fun b ob q => Heap.get?_push_of_some _ q
  obtain ⟨its, r, ht, hz⟩ := I5.tuple hx
  have hlen := r.length
  show wpAny (model X.prog X.w) X.A (subscriptTail e (.Slice none none (some (.UnaryOp .USub (.Constant (.int 1) k p1) p2)) p3) (.ref a) (.ref s4.heap.objs.size)) (EP X pins σ Q) X.xe { s4 with heap := s4.heap.push { cls := .type "slice", data := .fields #[vl, vu, vs] } }
  refine tail_any (ops := [.ref a, .ref s4.heap.objs.size]) ht.typeIs (PyProof.Rows.slot_tuple_getitem.lookup) ?_ (by with_unfolding_all rfl)
  refine tuple_back ht (Heap.IsSliceOf.new _ vl vu vs) pl pu ps ?_ (by rw [List.size_toArray]; omega)
  refine ⟨.ref _, _, I5.laid (t' := s4.toks) (o := .tup xs.reverse) (fun b ob q => Heap.get?_push_of_some _ q) (Nat.le_refl _) ?_, rfl, q _ (I5.hok.fresh (Nat.le_refl _))⟩
  exact ⟨by rw [List.length_reverse]; exact hz, _, r.reverse, ⟨_, Heap.get?_push_size _ rfl, rfl, 0, rfl⟩⟩
def gRevT (_ : Sto) : D → Option (D × Bool)
  | .tup ds => some (.tup ds.reverse, false)
  | _ => none
theorem RDs.reverse {K : PySem.W.Frag} {φ : List Addr} {H : Hp} : ∀ {ds : List D} {vs : List V}, RDs K φ H ds vs → RDs K φ H ds.reverse vs.reverse
  | _, _, .nil => .nil
  | _, _, .cons r rs => by rw [List.reverse_cons, List.reverse_cons]; exact (RDs.reverse rs).append (.cons r .nil)
theorem e_revT {e : Expr} {f : FE} {k : Nat} {p1 p2 p3 pos : Pos} (he : PE X e (lift X.K XA E f)) : PE X (.Subscript e (.Slice none none (some (.UnaryOp .USub (.Constant (.int 1) k p1) p2)) p3) pos) (lift X.K XA E (f1 gRevT f)) := by
  refine PE.weak (pe_revT he) ?_
  rintro σ H Q ⟨e, st, φ, n, q⟩
  unfold f1 at q
  refine RQ.bind n q fun x fx φ1 H1 st1 v1 ef x1 n1 r1 q1 => ?_
  obtain ⟨d, fr, hd, q3⟩ := RQ.of q1
  unfold gRevT at hd
  split at hd
  · cases hd
    obtain ⟨a, vs, rfl, h1, r2, p2⟩ := r1.of_tup
    refine ⟨a, vs, rfl, h1, fun p hp => ?_⟩
    obtain ⟨y1, y2, y3⟩ := new_tup n1.good hp r2.reverse (by rw [List.all_reverse]; exact p2)
    exact q3 φ1 _ _ y1 y2 y3 fun z => by cases z
  · cases hd
end
end EV

set_option Elab.async false
set_option maxRecDepth 100000
set_option maxHeartbeats 2000000
namespace EV
open PySem PySem.Spec PyProof.Rows L2
/-! ### enumerate of a tuple -/
set_option maxHeartbeats 4000000 in
theorem enum_newT {v : Value} {o : Obj} {H : Heap → Prop} (B : Begins v o H) :
    Meets (Builtin.«enumerate.__new__» ⟨[.type "enumerate", v], []⟩) (fun _ R s => H s.heap ∧
      R (.ok (.ret (.ref (s.heap.push o).objs.size))) { s with heap := (s.heap.push o).push { cls := .type "enumerate", data := .fields #[.none, .bool false, .ref s.heap.objs.size, rawInt 0, .none, .none] } }) :=
  .of_wp fun prog w A R s h => by
    obtain ⟨hp, g, d, tk, os⟩ := s
    obtain ⟨h1, h⟩ := h
    have hsub := sub_enumerate
    have q1 : ∀ {A' : Around} {E : Value → Shared → Prop} {Q : Value → Shared → Prop}, Q (.ref hp.objs.size) ⟨hp.push o, g, d, tk, os⟩ → wpAny (model prog w) A' (pyIter v) Q E ⟨hp, g, d, tk, os⟩ :=
      fun q => B.iter prog w _ _ ⟨hp, g, d, tk, os⟩ _ h1 q
    wp_walk using q1
    refine wpAny_stack_any fun st => wpAny_pure ?_
    split
    · rename_i c _ _ _ _ _
      cases (c == Value.type "enumerate")
      · wp_walk using q1
        exact ⟨_, rfl, h⟩
      · wp_walk using q1
        exact ⟨_, rfl, h⟩
    · wp_walk using q1
      exact ⟨_, rfl, h⟩
section
variable {prog : Program} {w : World} {A : Around} {E : Value → Shared → Prop} {s : Shared}
theorem call_enumT {v : Value} {o : Obj} {H : Heap → Prop} {Q : Value → Shared → Prop} (B : Begins v o H) (h1 : H s.heap)
    (h : ∀ h', IsEnum h' (s.heap.objs.size + 1) s.heap.objs.size 0 .none → h'.get? s.heap.objs.size = some o → (∀ b o, s.heap.get? b = some o → h'.get? b = some o) → Q (.ref (s.heap.objs.size + 1)) { s with heap := h' }) :
    wpAny (model prog w) A (call (.type "enumerate") [v]) Q E s := by
  refine callType_new F.called_enumerate (by decide) (F.typeCall_enumerate_1 _) (F.newCall_enumerate_1 _) (fun obj => F.args_object_init_2 obj _) F.entry_enumerate_new (enum_newT B) ⟨h1, ?_⟩
  have hz : (s.heap.push o).objs.size = s.heap.objs.size + 1 := Heap.size_push ..
  show _ ∧ _
  rw [hz]
  have he : IsEnum ((s.heap.push o).push { cls := .type "enumerate", data := .fields #[.none, .bool false, .ref s.heap.objs.size, rawInt 0, .none, .none] }) (s.heap.objs.size + 1) s.heap.objs.size 0 .none := by
    have q := Heap.get?_push_size (s.heap.push o) (o := { cls := .type "enumerate", data := .fields #[.none, .bool false, .ref s.heap.objs.size, rawInt 0, .none, .none] }) rfl
    rw [hz] at q; exact q
  exact ⟨⟨_, he, rfl⟩, h _ he (Heap.get?_push_of_some _ (Heap.get?_push_size _ B.free)) fun b o x => Heap.get?_push_of_some _ (Heap.get?_push_of_some _ x)⟩
end
/-- the tuple at a, each item in a new pair -/
def IteT (K : PySem.W.Frag) (a : Addr) (xs : List V) : It :=
  ⟨fun i H => SqT K H a xs ∧ i < xs.length, fun i H v H' => ∃ T x, xs[i]? = some x ∧ v = .ref T ∧ H T = none ∧ H' = upd H T (.tup [.int (i : Nat), x]), fun i H => SqT K H a xs ∧ xs.length = i⟩
theorem turn_enumT {P : Program} {w : World} {K : PySem.W.Frag} {elts : List Expr} {kk : Nat} {tpos : Pos} {a e it : Addr} {xs : List V} :
    Turn P w K (.Tuple elts kk tpos) (IteT K a xs) [e, it] e (fun i h => (∃ old, IsEnum h e it ((i : Nat) : Int) old) ∧ h.IsTupleIter it a i ∧ e ≠ it ∧ a ≠ it ∧ a ≠ e) where
  mem := by simp
  obj := fun i h st b hb => by
    obtain ⟨⟨old, he⟩, ⟨o, ho, hc, hd⟩, _⟩ := st
    have e' : b = e ∨ b = it := by simpa using hb
    rcases e' with z | z
    · rw [z]; exact ⟨_, he, fun v q => nomatch q⟩
    · rw [z]; exact ⟨o, ho, fun v q => by rw [hd] at q; cases q⟩
  keep := fun i h h' st k => let ⟨⟨old, he⟩, hi, hne⟩ := st; ⟨⟨old, k e (by simp) _ he⟩, hi.at fun o q => k it (by simp) o q, hne⟩
  item := by
    intro X hP hw hK hc i pins s σ H E I hf st hg
    subst hP hw hK
    obtain ⟨⟨old, he⟩, hit, hei, hai, hae⟩ := st
    obtain ⟨hq, hi⟩ := hg
    obtain ⟨its, rv, p, hz⟩ := I.tuple hq
    have hlen := rv.length
    have hx : xs[i]? = some xs[i] := by simp [hi]
    obtain ⟨u, hu, ru⟩ := rv.get hx
    have hel : e < s.heap.objs.size := Heap.lt_size he
    have hil : it < s.heap.objs.size := by obtain ⟨_, q, _⟩ := hit; exact Heap.lt_size q
    have hh : X.A.in1.handled = none := by have := I.ok.hd hc; simp [this]
    have W := WalksT.enumerateD (Draws.tuple (prog := X.prog) (w := X.w) hh it a hai its.toArray) e hei (by simp [hei, Ne.symm hae]) (by simp)
    refine W.item i s _ _ (by rw [List.size_toArray]; omega) ⟨⟨old, he⟩, hit, p⟩ fun T vals h' tk hv hle hT mid hk => ?_
    obtain ⟨t, x0, hx0, ev⟩ := hv
    subst ev
    have ex : x0 = u := by
      have q : its.toArray[i]? = some u := by simpa using hu
      rw [q] at hx0
      cases hx0; rfl
    subst ex
    refine ⟨_, rfl, W.go elts kk tpos i T { s with heap := h', toks := tk } _ _ mid fun h'' st'' hk'' => ?_⟩
    have hTn : ∀ c ∈ [e, it], T ≠ c := fun c hc w => by
      have : c < s.heap.objs.size := by
        have e' : c = e ∨ c = it := by simpa using hc
        rcases e' with z | z
        · rw [z]; exact hel
        · rw [z]; exact hil
      exact absurd (w ▸ hle) (Nat.not_le.mpr this)
    have hT2 : h''.IsTuple T #[.int i t, x0] := by
      obtain ⟨o, ho, hr⟩ := hT
      exact ⟨o, hk'' T o (fun m => hTn T m rfl) ho, hr⟩
    have new : ObjOk X.prog X.w (upd H T (.tup [.int (i : Nat), xs[i]])) h'' T (.tup [.int (i : Nat), xs[i]]) :=
      ⟨by show 2 ≤ sizeLine; decide, [.int i t, x0], .cons ⟨_, rfl⟩ (.cons ru .nil), hT2⟩
    have I1 : Inv X pins σ (upd H T (.tup [.int (i : Nat), xs[i]])) { s with heap := h'', toks := tk } :=
      I.turnedNew (ch := [e, it]) (fun b ob hb q => hk'' b ob hb (hk b ob hb q)) hf hle new
    obtain ⟨st1, st2, st3⟩ := st''
    refine ⟨.ref T, _, I1, rfl, ⟨T, xs[i], hx, rfl, I.hok.fresh hle, rfl⟩, ⟨by simpa using st1, st2, hei, hai, hae⟩, fun b hb => ?_⟩
    rw [upd_ne (fun z => hTn b hb z.symm)]
    exact (hf b hb).1
  done := by
    intro X hP hw hK hc i pins s σ H E I hf st hg
    subst hP hw hK
    obtain ⟨⟨old, he⟩, hit, hei, hai, hae⟩ := st
    obtain ⟨hq, hi⟩ := hg
    obtain ⟨its, rv, p, hz⟩ := I.tuple hq
    have hlen := rv.length
    have hh : X.A.in1.handled = none := by have := I.ok.hd hc; simp [this]
    have D := Draws.tuple (prog := X.prog) (w := X.w) hh it a hai its.toArray
    obtain ⟨f0, f1, f2, f3, f4, f5⟩ := hf it (by simp)
    have ei : i = its.toArray.size := by rw [List.size_toArray]; omega
    subst ei
    exact wpAny_pyNext_enum_endD D he ⟨hit, p⟩ fun h' eb => ⟨rfl, I.turned (t' := s.toks) (fun b o hb q => eb b o hb q) f0 f1 f3 f4 f5⟩
  self := fun A i s Q E st h => let ⟨⟨_, he⟩, _⟩ := st; wpAny_pyIter_enum he h
def iEnumT (K : PySem.W.Frag) (ta : TA) : TI := fun σ H R => ta σ H fun vs H1 => ∃ a xs, vs = [.ref a] ∧ SqT K H1 a xs ∧ R (IteT K a xs) H1
theorem pi_enumT {X : Cx} {e : Expr} {ta : TA} {p pos tpos : Pos} {elts : List Expr} {kk : Nat} (hg : Gl X "enumerate") (hm : X.mg "enumerate" = none) (ha : PA X [e] ta) (hs : starEach [e] X.env = [(false, eval e X.env)] := by rfl) :
    PI X (.Tuple elts kk tpos) (.Call (.Name "enumerate" p) [e] [] pos) (iEnumT X.K ta) := by
  refine ⟨fun pins s σ H R I h => ?_⟩
  refine Call_ (ld_blt I hg hm boot_enumerate (PyProof.Rows.callWith_type1 (thn (ha.run pos pins s σ H _ I h) fun us s1 z => ?_) hs rfl))
  obtain ⟨vs, H1, I1, r1, a, xs, ex, hq, q⟩ := z
  subst ex
  cases r1 with
  | cons r rr =>
    cases rr
    cases r
    obtain ⟨its, rv, p', hz⟩ := I1.tuple hq
    have hal : a < s1.heap.objs.size := by obtain ⟨_, q, _⟩ := p'; exact Heap.lt_size q
    refine call_enumT (begins_tuple a its.toArray) p' fun h' he hit hk => wpAny_pyIter_enum he ?_
    have I2 : Inv X pins σ H1 { s1 with heap := h' } := I1.kept (t' := s1.toks) hk
    refine ⟨s1.heap.objs.size + 1, [s1.heap.objs.size + 1, s1.heap.objs.size], _, _, H1, rfl, I2, turn_enumT (a := a) (e := s1.heap.objs.size + 1) (it := s1.heap.objs.size), ⟨⟨.none, he⟩, ⟨_, hit, rfl, rfl⟩, Nat.succ_ne_self _, Nat.ne_of_lt hal, Nat.ne_of_lt (Nat.lt_succ_of_lt hal)⟩, fun b hb => ?_, q⟩
    have e' : b = s1.heap.objs.size + 1 ∨ b = s1.heap.objs.size := by simpa using hb
    have hle : s1.heap.objs.size ≤ b := by
      rcases e' with z | z
      · rw [z]; exact Nat.le_add_right _ _
      · rw [z]; exact Nat.le_refl _
    exact I1.fpOk hle (I1.hok.fresh hle)
def kEnumT (ds : List D) (_ : Sto) : Option (List D) := match ds with
  | [.tup a] => some (numb 0 a)
  | _ => none
theorem iter_enumT {K : PySem.W.Frag} {φ : List Addr} {H : Hp} {a : Addr} {xs : List D} {vs : List V} (h : SqT K H a vs) (r : RDs K φ H xs vs) (p : xs.all isP = true) (nt : NoTup φ H) : IterP K (IteT K a vs) (numb 0 xs) φ H := by
  intro φ' H' st' x g
  have h' : SqT K H' a vs := sqT_keep x.toExt0 nt h
  have r' := r.keep x nt
  refine ⟨fun i d hd => ?_, h', by rw [numb_len, ← r.length]⟩
  rw [numb_get] at hd
  cases hx : xs[i]? with
  | none => rw [hx] at hd; cases hd
  | some e =>
    rw [hx] at hd
    cases hd
    obtain ⟨v, hv, rv⟩ := r'.get hx
    refine ⟨⟨h', (List.getElem?_eq_some_iff.mp hv).1⟩, fun y H'' z => ?_⟩
    obtain ⟨T, x1, hx1, rfl, hT, rfl⟩ := z
    rw [hv] at hx1
    cases hx1
    have q := new_pair g hT (.int ((0 + i : Nat) : Int)) rv rfl (RDs.isP_get (K := K) (φ := φ) (H := H) p hx)
    rw [Nat.zero_add] at q ⊢
    exact q
section
variable {X : Cx} {XA : XAT} {E : L2.St → XK} {f : FA} {p pos : Pos}
theorem i_enumT {a : Expr} {tpos : Pos} {elts : List Expr} {kk : Nat} (hg : Gl X "enumerate") (hm : X.mg "enumerate" = none) (ha : PA X [a] (liftA X.K XA E f)) (hs : starEach [a] X.env = [(false, eval a X.env)] := by rfl) :
    PI X (.Tuple elts kk tpos) (.Call (.Name "enumerate" p) [a] [] pos) (liftI X.K XA E (fItA f kEnumT)) := by
  refine PI.weak (pi_enumT hg hm ha hs) fun σ H R h => ?_
  refine itA_lift h fun ds st1 φ1 H1 vs xs g r0 hk q => ?_
  unfold kEnumT at hk
  split at hk
  · cases hk
    obtain ⟨v, rfl, r⟩ := rds1 r0
    obtain ⟨b, us, rfl, h1, r1, p1⟩ := r.of_tup
    exact ⟨_, _, rfl, h1, q _ (iter_enumT h1 r1 p1 g.notup)⟩
  · cases hk
end
end EV

set_option Elab.async false
set_option maxRecDepth 100000
set_option maxHeartbeats 2000000
namespace EV
open PySem PySem.Spec PyProof.Rows L2
/-! ### dict(d) -/
def gDict (st : Sto) : List D → Option (D × Bool)
  | [x] => (dicOf st x).map fun kvs => (.dic kvs, true)
  | _ => none
theorem g_dict {K : PySem.W.Frag} : OpN K (fun xs H Q => ∃ (a : Addr) (kvs : List (Key × V)), xs = [.ref a] ∧ Rd H a (.dK kvs) ∧ ∀ p, H p = none → Q (.ref p) (upd H p (.dK kvs))) gDict := by
  intro φ H st xs d vs fr Q g rx hd q
  unfold gDict at hd
  split at hd
  · rename_i x
    obtain ⟨v, rfl, r⟩ := rds1 rx
    obtain ⟨kvs, hk, rfl, rfl⟩ := opt1 (f := fun kvs => D.dic kvs) hd
    obtain ⟨a, kus, rfl, h1, r2⟩ := res_dic g r (dicOf_some hk)
    refine ⟨a, kus, rfl, h1, fun p hp => ?_⟩
    obtain ⟨y1, y2, y3, y4⟩ := Frs.newdic g hp r2
    exact q _ _ y1 y2 y3 fun _ => y4
  · cases hd
/-! ### d != e of dicts of unlike lengths, d == e -/
def rNeDL : R2 := fun x y H Q => ∃ a b ks ls, x = .ref a ∧ y = .ref b ∧ Rd H a (.dK ks) ∧ Rd H b (.dK ls) ∧ (ks.length = ls.length → ks = []) ∧ Q (.bl (!decide (ks.length = ls.length))) H
section
variable {X : Cx} {XA : XAT} {E : L2.St → XK}
theorem op_neDL (hu : X.A.units < cLine) : OpR X (compareOp .NotEq) rNeDL := by
  intro pins s σ H x y v u Q I rx ry h
  obtain ⟨a, b, ks, ls, rfl, rfl, ea, eb, hlen, q⟩ := h
  obtain rfl : v = Value.ref a := rx
  obtain rfl : u = Value.ref b := ry
  obtain ⟨_, ya, va, ra, da⟩ := dk_rd I.hok ea
  obtain ⟨_, yb, vb, rb, db⟩ := dk_rd I.hok eb
  have la : ks.length = va.length := ra.length
  have lb : ls.length = vb.length := rb.length
  refine PySem.W.keq_ne (knd := mixKind X.prog X.w) (r := true) ya yb da db hu (fun e => ?_) (fin_bl I q ?_)
  · have h0 := hlen (by omega)
    subst h0
    have hv : va = [] := List.eq_nil_of_length_eq_zero (by rw [← la]; rfl)
    subst hv
    exact hits_all rb ra fun p hp => nomatch hp
  · rw [la, lb]
    by_cases e : va.length = vb.length
    · simp [e]
    · simp [e]
def gNeD (st : Sto) (x y : D) : Option (D × Bool) := match dicOf st x, dicOf st y with
  | some ks, some [] => some (.bl (!ks.isEmpty), false)
  | _, _ => none
theorem g_neD {K : PySem.W.Frag} : Op2 K rNeDL gNeD := by
  intro φ H st x y d vx vy fr Q g rx ry hd q
  unfold gNeD at hd
  split at hd
  · rename_i ks hx hy
    cases hd
    obtain ⟨a, kus, rfl, h1, r1⟩ := res_dic g rx (dicOf_some hx)
    obtain ⟨b, lus, rfl, h2, r2⟩ := res_dic g ry (dicOf_some hy)
    cases r2
    refine ⟨a, b, kus, [], rfl, rfl, h1, h2, fun e => List.eq_nil_of_length_eq_zero e, ?_⟩
    have e : (!decide (kus.length = ([] : List (Key × V)).length)) = !ks.isEmpty := by
      rw [← r1.length]
      cases ks <;> simp
    rw [e]
    exact q H _ (Ext.refl _ _) g (.bl _) fun z => by cases z
  · cases hd
/-! ### xs[i] op= e -/
theorem get_list : PGet X (rIxL X.K) := by
  intro pins s σ H o i ov iv Q I ro ri h
  obtain ⟨p, xs, i, z, rfl, rfl, hq, he, q⟩ := h
  cases ro
  obtain ⟨t, rfl⟩ := ri
  obtain ⟨its, r, pl, hz⟩ := I.list hq
  obtain ⟨j, h1, h2, h3, h4, h5⟩ := atI_get he
  obtain ⟨w, ew, rw'⟩ := r.get h2
  have hl := r.length
  have hn := line63
  have fin : EP X pins σ Q w s := ⟨z, H, I, rw', q⟩
  by_cases h0 : 0 ≤ i
  · have hj : i.toNat = j := by
      rw [seqIndex_of h0 h5] at h1
      exact Option.some.inj h1
    exact wpAny_getItem_list pl.isList h0 (by omega) (by rw [hj]; simpa using ew) fin
  · have hj : (i + (its.toArray.size : Int)).toNat = j := by
      rw [seqIndex_neg (by omega) h4] at h1
      rw [List.size_toArray, ← hl]
      exact Option.some.inj h1
    exact wpAny_getItem_list_neg pl.isList (by omega) (by rw [List.size_toArray] <;> omega) (by omega) (by rw [hj]; simpa using ew) fin
def gIxL (st : Sto) (x y : D) : Option D := match res st x, y with
  | .lst ds, .int i => atI ds i
  | _, _ => none
def fAugS (g : Sto → D → D → Option (D × Bool)) (fo fi fv : FE) : FS := fBindS fo fun o _ => fBindS fi fun k _ e st => match gIxL st o k with
  | some x => fBindS fv (fun y _ e st => match o, g st x y with
    | .cell i, some (d, _) => ofS (setL i k d st) e
    | _, _ => .stuck) e st
  | none => .stuck
theorem s_augS {o i v : Expr} {fo fi fv : FE} {op : Operator} {r : R2} {g : Sto → D → D → Option (D × Bool)} {tpos pos : Pos} (ho : PE X o (lift X.K XA E fo)) (hi : PE X i (lift X.K XA E fi)) (hv : PE X v (lift X.K XA E fv)) (hop : OpR X (inplaceOp op) r) (hg : Op2 X.K r g)
    (ha : ∀ ov iv new, augStore i ov iv new = (do holding [new, ov, iv] (setItem ov iv new); release [new, ov, iv] []; pure .next) := by intros; rfl) : PS X (.AugAssign (.Subscript o i tpos) op v pos) (liftS X.K XA E (fAugS g fo fi fv)) := by
  refine PS.weak (ps_augS ho hi get_list hv hop set_list ha) ?_
  rintro D σ H ⟨e, st, φ, n, q⟩
  refine RQS.bind n q fun d fr φ1 H1 st1 v1 x1 n1 r1 f1 q1 => ?_
  refine RQS.bind n1 q1 fun k fr2 φ2 H2 st2 v2 x2 n2 r2 f2 q2 => ?_
  have r1' := r1.keep x2 n1.good.notup
  cases hx : gIxL st2 d k with
  | none => simp only [hx] at q2; exact q2.elim
  | some x =>
    simp only [hx] at q2
    have hx0 := hx
    unfold gIxL at hx
    split at hx
    · rename_i ds i hr
      cases r2
      obtain ⟨a, vs, rfl, h1, r3, p3⟩ := res_lst n2.good r1' hr
      obtain ⟨w, hw, rw'⟩ := r3.atI hx
      refine ⟨a, vs, i, w, rfl, rfl, SqL.of h1, hw, ?_⟩
      refine RQS.bind n2 q2 fun y fr3 φ3 H3 st3 v3 x3 n3 r3 f3 q3 => ?_
      cases d with
      | cell c =>
        cases hz : g st3 x y with
        | none => simp only [hz] at q3; exact q3.elim
        | some pr =>
          obtain ⟨d4, fr4⟩ := pr
          simp only [hz] at q3
          refine hg φ3 H3 st3 x y d4 w v3 fr4 _ n3.good (rw'.keep x3 n2.good.notup) r3 hz fun H4 v4 x4 g4 r4 _ => ?_
          have n4 := n3.keep x4 g4
          cases hs : setL c (.int i) d4 st3 with
          | none => rw [hs] at q3; exact q3.elim
          | some st5 =>
            rw [hs] at q3
            cases r1' with
            | @cell _ _ hc =>
              have hc3 : φ3[c]? = some a := by
                obtain ⟨t, rfl⟩ := x3.pre
                rw [List.getElem?_append_left (List.getElem?_eq_some_iff.mp hc).1]
                exact hc
              exact setL_ok g4 hc3 (.int i) r4 hs fun H5 x5 g5 => q3 φ3 H5 σ (x4.trans x5) g5 (n4.rel.keep x5 g4.notup)
      | _ => exact q3.elim
    · cases hx
end
end EV

set_option Elab.async false
set_option maxRecDepth 100000
set_option maxHeartbeats 2000000
namespace EV
open PySem PySem.Spec PyProof.Rows L2
/-! ### targets in blocks -/
structure GB (X : Cx) (scope : Scope) (tg : Expr) (g : FG) (sl : List Nat) : Prop where
  ex : ∃ t : TG, (∀ (s : Shared) (H : Hp) (C : Addr) (cl : List (Str × Addr)) (fp : List Addr), PG (X.blk s H scope (compEnvC scope cl C X.env) fp) tg t) ∧ ∀ φ H s σ d v s' Q, Rel X.K φ H s σ → RD X.K φ H d v → g d s = some s' → (∀ σ', Rel X.K φ H s' σ' → Only2 sl σ σ' → Q σ' H) → t v σ H Q
structure GBs (X : Cx) (scope : Scope) (tgs : List Expr) (g : FGs) (sl : List Nat) : Prop where
  ex : ∃ t : TGs, (∀ (s : Shared) (H : Hp) (C : Addr) (cl : List (Str × Addr)) (fp : List Addr), PGs (X.blk s H scope (compEnvC scope cl C X.env) fp) tgs t) ∧ ∀ φ H s σ ds vs s' Q, Rel X.K φ H s σ → RDs X.K φ H ds vs → g ds s = some s' → (∀ σ', Rel X.K φ H s' σ' → Only2 sl σ σ' → Q σ' H) → t vs σ H Q
section
variable {X : Cx} {scope : Scope}
theorem gb_name {i : Nat} {x : Str} {pos : Pos} (h : ∀ (s : Shared) (H : Hp) (C : Addr) (cl : List (Str × Addr)) (fp : List Addr), PG (X.blk s H scope (compEnvC scope cl C X.env) fp) (.Name x pos) (gName i)) : GB X scope (.Name x pos) (gN i) [i] := ⟨gName i, h, fun φ H s σ d v s' Q r rd hg q => by
  cases hg
  exact q _ (r.set rd i) fun vs hv => wipe_set (hv i List.mem_cons_self)⟩
theorem gbs_nil : GBs X scope [] gsN [] := ⟨gNil, fun _ _ _ _ _ => pgs_nil, fun φ H s σ ds vs s' Q r rd hg q => by
  cases rd with
  | nil => cases hg; exact ⟨rfl, q _ r fun _ _ => rfl⟩
  | cons _ _ => cases hg⟩
theorem gbs_cons {tg : Expr} {tgs : List Expr} {g : FG} {gs : FGs} {sl sls : List Nat} (h : GB X scope tg g sl) (hs : GBs X scope tgs gs sls) (hst : ∀ (C : Addr) (cl : List (Str × Addr)), assignEach (tg :: tgs) (compEnvC scope cl C X.env) = (false, assign tg (compEnvC scope cl C X.env)) :: assignEach tgs (compEnvC scope cl C X.env) := by intros; rfl) : GBs X scope (tg :: tgs) (gsC g gs) (sl ++ sls) := by
  obtain ⟨t, p, z⟩ := h.ex
  obtain ⟨ts, ps, zs⟩ := hs.ex
  refine ⟨gCons t ts, fun s H C cl fp => pgs_cons (p s H C cl fp) (ps s H C cl fp) (by
    show (assignEach (tg :: tgs) (compEnvC scope cl C X.env)).map (·.2) = assign tg (compEnvC scope cl C X.env) :: (assignEach tgs (compEnvC scope cl C X.env)).map (·.2)
    rw [hst]; rfl), fun φ H s σ ds vs s' Q r rd hg q => ?_⟩
  cases rd with
  | nil => cases hg
  | cons rd rds =>
    unfold gsC at hg
    simp only [] at hg
    split at hg
    · rename_i s1 h1
      exact ⟨_, _, rfl, z φ H s σ _ _ s1 _ r rd h1 fun σ1 r1 o1 => zs φ H s1 σ1 _ _ s' Q r1 rds hg fun σ2 r2 o2 => q σ2 r2 fun vs hv => (o2 vs fun i m => hv i (List.mem_append_right _ m)).trans (o1 vs fun i m => hv i (List.mem_append_left _ m))⟩
    · cases hg
theorem gb_tup {es : List Expr} {k n : Nat} {pos : Pos} {gs : FGs} {sl : List Nat} (hc : X.calm = true) (h : GBs X scope es gs sl) (hn : ∀ (C : Addr) (cl : List (Str × Addr)), (assignEach es (compEnvC scope cl C X.env)).length = n := by intros; rfl) (hst : ∀ (C : Addr) (cl : List (Str × Addr)), (assignEach es (compEnvC scope cl C X.env)).findIdx? (·.1) = none := by intros; rfl) : GB X scope (.Tuple es k pos) (gT n gs) sl := by
  obtain ⟨ts, ps, zs⟩ := h.ex
  refine ⟨L2.gTup X.K n ts, fun s H C cl fp => pg_tup hc (ps s H C cl fp) (hn C cl) (hst C cl), fun φ H s σ d v s' Q r rd hg q => ?_⟩
  unfold gT at hg
  split at hg
  · rename_i ds hd
    obtain ⟨a, vs, rfl, h1, r1⟩ := itemsOf_ok rd hd
    split at hg
    · rename_i hl
      exact ⟨a, vs, rfl, h1, by rw [← r1.length]; exact hl, zs φ H s σ ds vs s' Q r r1 hg q⟩
    · cases hg
  · cases hg
/-! ### tests of a block -/
variable {XA : XAT} {E : L2.St → XK}
def fYes : FE := fun _ st => .ok (.bl true) false st
theorem ts_nil : PTs X [] (liftT X.K XA E fYes) := ⟨fun p s σ H Q I q => (pts_nil (X := X)).run p s σ H Q I (by
  obtain ⟨e, st, φ, n, q⟩ := q
  obtain ⟨b, eb, q⟩ := q φ H (.bl true) (Ext.refl _ _) n.good (.bl true) fun z => by cases z
  cases eb
  exact q)⟩
theorem ts_one {c : Expr} {f : FE} (h : PT X c (liftT X.K XA E f)) : PTs X [c] (liftT X.K XA E f) := pts_one h
/-! ### what the top has written -/
/-- a constant of the module -/
structure GC (K : PySem.W.Frag) (mg : Str → Option Value) (x : Str) (d : D) : Prop where
  ex : ∃ u v, mg x = some u ∧ RelV v u ∧ ∀ φ H, RD K φ H d v
theorem e_gc {x : Str} {d : D} {pos : Pos} (G : GC X.K X.mg x d) (hg : Gl X x) (hd : (x == ("__debug__" : Str)) = false := by decide) : PE X (.Name x pos) (lift X.K XA E (fC d)) := by
  obtain ⟨u, v, hm, r, h⟩ := G.ex
  exact e_const (pe_glob hg hm r hd) h
end
/-- a def of the module -/
structure GD (K : PySem.W.Frag) (mg : Str → Option Value) (x : Str) (st : Stmt) : Prop where
  ex : ∃ f fd, FunD K x x (defArgs st) (defBody st) (defScope st) [] [] f fd ∧ mg x = some (.ref f)
end EV

set_option Elab.async false
set_option maxRecDepth 100000
set_option maxHeartbeats 2000000
namespace EV
open PySem PySem.Spec PyProof.Rows L2
theorem hu65 {A : Around} {k : Nat} (hr : Room k A) : A.units + 65 < cLine := by have := hr.un; omega
section
variable {X : Cx} {XA : XAT} {E : L2.St → XK}
/-! ### list(range(n)) -/
def gListR (_ : Sto) (x : D) : Option (D × Bool) := match x with
  | .int j => if okR j && decide (j ≤ 16777216) then some (.lst (rng 0 j.toNat 1), true) else none
  | _ => none
theorem rds_rng {K : PySem.W.Frag} {φ : List Addr} {H : Hp} (lo : Int) : ∀ l : List Nat, RDs K φ H (l.map fun k : Nat => D.int (lo + (k : Nat) * 1)) (l.map fun i : Nat => V.int (lo + (i : Nat)))
  | [] => .nil
  | k :: l => by
    rw [List.map_cons, List.map_cons, Int.mul_one]
    exact .cons (.int _) (rds_rng lo l)
theorem all_rng (lo c : Int) : ∀ l : List Nat, (l.map fun k : Nat => D.int (lo + (k : Nat) * c)).all isP = true
  | [] => rfl
  | k :: l => by rw [List.map_cons, List.all_cons, all_rng lo c l]; rfl
theorem e_listR {a : Expr} {f : FE} {p p2 q pos : Pos} (hc : X.calm = true) (hg : Gl X "list") (hm : X.mg "list" = none) (hg2 : Gl X "range") (hm2 : X.mg "range" = none) (ha : PE X a (lift X.K XA E f)) (na : starEach [a] X.env = (false, eval a X.env) :: starEach [] X.env := by rfl)
    (na2 : starEach [.Call (.Name "range" p2) [a] [] q] X.env = (false, eval (.Call (.Name "range" p2) [a] [] q) X.env) :: starEach [] X.env := by rfl) : PE X (.Call (.Name "list" p) [.Call (.Name "range" p2) [a] [] q] [] pos) (lift X.K XA E (f1 gListR f)) := by
  refine PE.weak (pe_listRg hc hg hm (prg_1 hg2 hm2 ha na) na2) ?_
  rintro σ H Q ⟨e, st, φ, n, q⟩
  unfold f1 at q
  refine RQ.bind n q fun x fx φ1 H1 st1 v1 ef x1 n1 r1 q1 => ?_
  obtain ⟨d, fr, hd, q3⟩ := RQ.of q1
  unfold gListR at hd
  split at hd
  · rename_i j
    split at hd
    · rename_i c
      cases hd
      cases r1
      rw [Bool.and_eq_true] at c
      have o := okR_iff c.1
      have o2 : j ≤ 16777216 := of_decide_eq_true c.2
      refine ⟨j, rfl, ⟨by omega, by omega, o.1, o.2, by omega⟩, fun p hp => ?_⟩
      have e : (j - 0).toNat = j.toNat := by omega
      have rr := rds_rng (K := X.K) (φ := φ1) (H := H1) 0 (List.range j.toNat)
      obtain ⟨y1, y2, y3, y4⟩ := new_lst n1.good hp rr (all_rng 0 1 _)
      have e2 : rgV 0 j = (List.range j.toNat).map fun i : Nat => V.int (0 + (i : Nat)) := by unfold rgV; rw [e]
      rw [e2]
      exact q3 φ1 _ _ y1 y2 y3 fun _ => y4
    · cases hd
  · cases hd
/-! ### cells made for a call alone -/
def fLoc (f : FE) : FE := fun e st => match f e st with
  | .ok d _ st' => if isP d = true ∧ e.b ≤ st.length then .ok d false (st'.take st.length) else .stuck
  | r => r
theorem e_loc {f : FE} {a : Expr} (h : PE X a (lift X.K XA E f)) : PE X a (lift X.K XA E (fLoc f)) := by
  refine PE.weak h ?_
  rintro σ H Q ⟨e, st, φ, n, q⟩
  refine ⟨e, st, φ, n, ?_⟩
  unfold fLoc at q
  cases hf : f e st with
  | stuck => rw [hf] at q; exact q
  | exc c d st1 => rw [hf] at q; exact q
  | ok d fr st1 =>
    rw [hf] at q
    simp only [] at q
    split at q
    · rename_i hp
      intro φ' H' v x g r f
      obtain ⟨φ2, rfl⟩ := x.pre
      have gf := g.first
      rw [n.good.len] at gf
      exact q φ H' v x.base gf (r.anti (fun b m => List.mem_append_left _ m) hp.1) fun z => by cases z
    · exact q.elim
end
/-! ### zip of two lists -/
def kZipL (ds : List D) (st : Sto) : Option (List D) := match ds with
  | [.lst a, .lst b] => some ((a.zip b).map fun p => .tup [p.1, p.2])
  | _ => none
section
variable {X : Cx} {XA : XAT} {E : L2.St → XK} {f : FA} {p pos : Pos}
theorem i_zipL {a b : Expr} {tpos : Pos} {elts : List Expr} {kk : Nat} (hg : Gl X "zip") (hm : X.mg "zip" = none) (ha : PA X [a, b] (liftA X.K XA E f)) (hs : starEach [a, b] X.env = (false, eval a X.env) :: starEach [b] X.env := by rfl) (hpl : (backTo pos (starEach [b] X.env)).any (·.1) = false := by rfl) :
    PI X (.Tuple elts kk tpos) (.Call (.Name "zip" p) [a, b] [] pos) (liftI X.K XA E (fItA f kZipL)) := i_zip hg hm ha hs hpl
end
end EV

set_option Elab.async false
set_option maxRecDepth 100000
set_option maxHeartbeats 2000000
namespace EV
open PySem PySem.Spec PyProof.Rows L2
section
variable {X : Cx} {XA : XAT} {E : L2.St → XK}
theorem cell_lift {f : FE} {K : PySem.W.Frag} {σ : L2.St} {H : Hp} {Q : VK} (h : lift K XA E (fCell f) σ H Q) : lift K XA E f σ H Q := by
  obtain ⟨e, st, φ, n, q⟩ := h
  refine ⟨e, st, φ, n, ?_⟩
  unfold fCell at q
  cases hf : f e st with
  | stuck => rw [hf] at q; exact q
  | exc c d st1 => rw [hf] at q; exact q
  | ok d fr st1 =>
    rw [hf] at q
    cases fr with
    | false => exact q.elim
    | true =>
      simp only [] at q
      intro φ1 H1 v x1 g1 r1 f1
      obtain ⟨a, c, rfl, hn, hc, g2⟩ := f1 rfl
      rw [hc] at q
      refine q (φ1 ++ [a]) H1 _ ⟨⟨x1.pre.trans (List.prefix_append _ _), fun b m nm => ?_, x1.keep, x1.keepL, x1.dom⟩, x1.keepK, x1.keepT, x1.keepF⟩ g2 (.cell ?_) fun z => by cases z
      · rcases List.mem_append.mp m with m | m
        · exact x1.new b m nm
        · rw [List.mem_singleton.mp m]; exact hn
      · rw [← g1.len, List.getElem?_concat_length]
/-- name = value, by the value's reading -/
theorem asg_lift {K : PySem.W.Frag} {i : Nat} {f : FE} {D : Ends} {σ : L2.St} {H : Hp} (h : liftS K XA E (fAsg (gN i) f) D σ H) : lift K XA E f σ H fun x H1 => D.nx (σ.set i (some x)) H1 := by
  obtain ⟨e, st, φ, n, q⟩ := h
  refine RQS.bind n q fun d fr φ1 H1 st1 v1 x1 n1 r1 f1 q1 => ?_
  exact q1 φ1 H1 _ (Ext.refl _ _) n1.good (n1.rel.set r1 i)
/-- x, y = a, b by way of a tuple -/
theorem s_par2 {i j : Nat} {x y : Str} {a b : Expr} {fa fb : FE} {px py pt : Pos} {kt k2 : Nat} {pt2 pos : Pos} (hc : X.calm = true) (hx : PG X (.Name x px) (gName i)) (hy : PG X (.Name y py) (gName j)) (hij : i ≠ j) (ha : PE X a (lift X.K XA E fa)) (hb : PE X b (lift X.K XA E fb))
    (hw : swappedStores [.Tuple [.Name x px, .Name y py] kt pt] (.Tuple [a, b] k2 pt2) X.env = pure none := by rfl) (hs : swapsWithSole [.Tuple [.Name x px, .Name y py] kt pt] (.Tuple [a, b] k2 pt2) pos.line X.env = pure false := by rfl)
    (h1 : (assignEach [.Tuple [.Name x px, .Name y py] kt pt] X.env).map (·.2) = [assign (.Tuple [.Name x px, .Name y py] kt pt) X.env] := by rfl)
    (hst : assignEach [.Name x px, .Name y py] X.env = (false, assign (.Name x px) X.env) :: assignEach [.Name y py] X.env := by rfl) (hst2 : assignEach [.Name y py] X.env = (false, assign (.Name y py) X.env) :: assignEach [] X.env := by rfl)
    (hn : (assignEach [.Name x px, .Name y py] X.env).length = 2 := by rfl) (hfi : (assignEach [.Name x px, .Name y py] X.env).findIdx? (·.1) = none := by rfl)
    (he1 : starEach (a :: [b]) X.env = (false, eval a X.env) :: starEach [b] X.env := by rfl) (he2 : starEach (b :: []) X.env = (false, eval b X.env) :: starEach [] X.env := by rfl) :
    PS X (.Assign [.Tuple [.Name x px, .Name y py] kt pt] (.Tuple [a, b] k2 pt2) pos) (liftS X.K XA E (fPar i j fa fb)) := by
  have pt := pg_tup (X := X) (k := kt) (pos := pt) hc (pgs_cons hx (pgs_cons hy pgs_nil (by rw [hst2]; rfl)) (by rw [hst]; rfl)) hn hfi
  refine PS.weak (ps_asg (pe_tup (pa_cons ha (pa_cons hb pa_nil he2) he1)) pt hs hw h1) ?_
  rintro D σ H ⟨e, st, φ, n, q⟩
  refine RQS.bind n q fun d fr φ1 H1 st1 v1 x1 n1 r1 f1 q1 => ?_
  refine RQS.bind n1 q1 fun d2 fr2 φ2 H2 st2 v2 x2 n2 r2 f2 q2 => ?_
  refine ⟨by show 2 ≤ sizeLine; decide, fun p hp => ?_⟩
  have x3 : Ext φ2 φ2 H2 (upd H2 p (.tup [v1, v2])) := ext_new hp
  refine ⟨p, [v1, v2], rfl, SqT.of upd_same, rfl, v1, [v2], rfl, v2, [], rfl, rfl, ?_⟩
  have r1' := (r1.keep x2 n1.good.notup).keep x3 n2.good.notup
  exact q2 φ2 _ _ x3 (n2.good.new hp) (((n2.rel.keep x3 n2.good.notup).set r1' i).set (r2.keep x3 n2.good.notup) j)
end
/-! ### name = [..], name = {..: ..} on one line -/
theorem sw_trueD {kx vx : Expr} {gs : List Comprehension} {scope : Scope} {pos py : Pos} {y : Str} {l : Nat} {env : Env} (hk : env.scope.kind = .function) (hy : env.scope.names.lookup y = some .local) (hl : (py.line == pos.line) = true)
    (ha : (scope.names.any fun (n, k) => n == y && (k == .local || k == .cell)) = false) : swapsWith (.DictComp kx vx gs scope pos) (some (.Name y py)) l env = pure true := by
  have ky : env.kindOf y = some .local := hy
  have hb : env.blockKind = .function := by unfold Env.blockKind; rw [hk]; rfl
  unfold swapsWith
  simp only [hb, ky, ha, Expr.pos, hl]
  rfl
end EV

set_option Elab.async false
set_option maxRecDepth 100000
set_option maxHeartbeats 2000000
namespace EV
open PySem PySem.Spec PyProof.Rows L2
section
variable {X : Cx} {XA : XAT} {E : L2.St → XK} {j : Nat}
theorem comp_h {t : TG} {i : FI} {g : FG} {sl vs : List Nat} {fc f : FE} (z : ∀ φ H s σ d v s' Q, Rel X.K φ H s σ → RD X.K φ H d v → g d s = some s' → (∀ σ', Rel X.K φ H s' σ' → Only2 sl σ σ' → Q σ' H) → t v σ H Q) (hsl : ∀ i ∈ sl, i ∈ vs) :
    ∀ σ H Q, lift X.K XA E (fComp i g fc f vs) σ H Q → tLc (liftI X.K XA E i) t (liftT X.K XA E0 fc) (lift X.K XA E0 f) vs σ H Q := by
  rintro σ H Q ⟨e, st, φ, n, q⟩
  refine ⟨e, st, φ, n, ?_⟩
  unfold fComp at q
  cases hf : i e st with
  | stuck => rw [hf] at q; exact q.elim
  | exc c d st1 => rw [hf] at q; exact q
  | ok xs st1 =>
    rw [hf] at q
    intro φ1 H1 J x1 g1 it D hD
    exact comp_core z hsl (n.keep x1 g1) it hD (E σ) (RQ.mono x1 q fun _ _ w => w)
theorem compD_h {t : TG} {wi : TI} {Jf : Addr → Obj → List (Key × V) → It} {its : List (K1 × D) → List D} {g : FG} {sl vs : List Nat} {fc f : FE} (z : ∀ φ H s σ d v s' Q, Rel X.K φ H s σ → RD X.K φ H d v → g d s = some s' → (∀ σ', Rel X.K φ H s' σ' → Only2 sl σ σ' → Q σ' H) → t v σ H Q) (hsl : ∀ i ∈ sl, i ∈ vs)
    (hw : ∀ (σ : L2.St) (H : Hp) (R : It → Hp → Prop) (a : Addr) (od : Obj) (kus : List (Key × V)), σ[j]? = some (some (.ref a)) → H a = some (.frz od (.dK kus)) → R (Jf a od kus) H → wi σ H R)
    (hI : ∀ (φ : List Addr) (H : Hp) (a : Addr) (od : Obj) (kus : List (Key × V)) (kvs : List (K1 × D)), H a = some (.frz od (.dK kus)) → RKs X.K φ H kvs kus → NoTup φ H → IterP X.K (Jf a od kus) (its kvs) φ H) :
    ∀ σ H Q, lift X.K XA E (fCompD j its g fc f vs) σ H Q → tLc wi t (liftT X.K XA E0 fc) (lift X.K XA E0 f) vs σ H Q ∨ tLockE (tLc wi t (liftT X.K XA E0 fc) (lift X.K XA E0 f) vs) σ H Q := by
  rintro σ H Q ⟨e, st, φ, n, q⟩
  unfold fCompD at q
  cases hd : e.s[j]? with
  | none => rw [hd] at q; exact q.elim
  | some ox =>
    cases ox with
    | none => rw [hd] at q; exact q.elim
    | some x =>
      rw [hd] at q
      obtain ⟨v, hv, rv⟩ := n.rel.at_ j x hd
      cases hk : lkIn x st with
      | none => simp only [hk] at q; exact q.elim
      | some pr =>
        obtain ⟨kvs, st1⟩ := pr
        simp only [hk] at q
        cases lk_in n.good rv hk with
        | on ev h r es o =>
          subst ev es
          refine .inl (hw σ H _ _ _ _ hv h fun D hD => comp_core z hsl n (hI φ H _ _ _ kvs h r n.good.notup) hD (E σ) ?_)
          cases hr : endC st1.length (compL st1.length g fc f (its kvs) ⟨e.b, wipeD e.s vs⟩ (st1 ++ [.acc 0 []])) with
          | ok d fr st2 =>
            rw [hr] at q
            simp only [lkE, o] at q
            split at q
            · exact q
            · exact q.elim
          | exc c d st2 => rw [hr] at q; exact q.elim
          | stuck => rw [hr] at q; exact q.elim
        | @off a kus ev h r g1 o l =>
          subst ev
          refine .inr ⟨a, .dK kus, h, trivial, fun od => ?_⟩
          have x0 : Ext0 φ φ H (upd H a (.frz od (.dK kus))) := ext0_lock h
          have n1 : Now X.K φ (upd H a (.frz od (.dK kus))) σ e st1 := ⟨n.rel.keep0 x0 n.good.notup, g1 od, by rw [l]; exact n.base⟩
          refine hw σ _ _ a od kus hv upd_same fun D hD => comp_core (Q := fun v H' => H' a = some (.frz od (.dK kus)) ∧ Q v (upd H' a (.dK kus))) (XA := XA) z hsl n1 (hI φ _ a od kus kvs upd_same (r.keep0 x0 n.good.notup) (g1 od).notup) hD (fun _ _ _ => False) ?_
          cases hr : endC st1.length (compL st1.length g fc f (its kvs) ⟨e.b, wipeD e.s vs⟩ (st1 ++ [.acc 0 []])) with
          | ok d fr st2 =>
            rw [hr] at q
            intro φ' H' v x2 g2 r2 f2
            have hl : H' a = some (.frz od (.dK kus)) := x2.keepF a od _ upd_same
            cases hs2 : lkOut x st st2 with
            | none => simp only [lkE, hs2] at q; exact q.elim
            | some st3 =>
              simp only [lkE, hs2] at q
              split at q
              · rename_i hp2
                refine ⟨hl, q φ' _ v (ext_locked h x2) (o od φ' H' st2 st3 x2 g2 hs2) (r2.keep0 (ext0_unlock hl) g2.notup) fun zf => ?_⟩
                obtain ⟨b, c, e1, e2, e3, e4⟩ := f2 zf
                have nb : b ≠ a := fun w => by rw [w, upd_same] at e2; cases e2
                have e2' : H b = none := by rw [upd_ne nb] at e2; exact e2
                have x3 : Ext φ (φ' ++ [b]) (upd H a (.frz od (.dK kus))) H' := ⟨⟨x2.pre.trans (List.prefix_append _ _), fun y m nm => by
                  rcases List.mem_append.mp m with m | m
                  · exact x2.new y m nm
                  · rw [List.mem_singleton.mp m]; exact e2, x2.keep, x2.keepL, x2.dom⟩, x2.keepK, x2.keepT, x2.keepF⟩
                exact ⟨b, c, e1, e2', e3, o od (φ' ++ [b]) H' (st2 ++ [c]) (st3 ++ [c]) x3 e4 (lkOut_app hs2)⟩
              · exact q.elim
          | exc c d st2 => rw [hr] at q; exact q.elim
          | stuck => rw [hr] at q; exact q.elim
theorem dcomp_h {t : TG} {i : FI} {g : FG} {sl vs : List Nat} {fc fk fv : FE} (z : ∀ φ H s σ d v s' Q, Rel X.K φ H s σ → RD X.K φ H d v → g d s = some s' → (∀ σ', Rel X.K φ H s' σ' → Only2 sl σ σ' → Q σ' H) → t v σ H Q) (hsl : ∀ i ∈ sl, i ∈ vs) :
    ∀ σ H Q, lift X.K XA E (fDComp i g fc fk fv vs) σ H Q → tDc (liftI X.K XA E i) t (liftT X.K XA E0 fc) (lift X.K XA E0 fk) (lift X.K XA E0 fv) vs σ H Q := by
  rintro σ H Q ⟨e, st, φ, n, q⟩
  refine ⟨e, st, φ, n, ?_⟩
  unfold fDComp at q
  cases hf : i e st with
  | stuck => rw [hf] at q; exact q.elim
  | exc c d st1 => rw [hf] at q; exact q
  | ok xs st1 =>
    rw [hf] at q
    intro φ1 H1 J x1 g1 it D0 hD
    exact dcomp_core z hsl (n.keep x1 g1) it hD (E σ) (RQ.mono x1 q fun _ _ w => w)
theorem dcompD_h {t : TG} {wi : TI} {Jf : Addr → Obj → List (Key × V) → It} {its : List (K1 × D) → List D} {g : FG} {sl vs : List Nat} {fc fk fv : FE} (z : ∀ φ H s σ d v s' Q, Rel X.K φ H s σ → RD X.K φ H d v → g d s = some s' → (∀ σ', Rel X.K φ H s' σ' → Only2 sl σ σ' → Q σ' H) → t v σ H Q) (hsl : ∀ i ∈ sl, i ∈ vs)
    (hw : ∀ (σ : L2.St) (H : Hp) (R : It → Hp → Prop) (a : Addr) (od : Obj) (kus : List (Key × V)), σ[j]? = some (some (.ref a)) → H a = some (.frz od (.dK kus)) → R (Jf a od kus) H → wi σ H R)
    (hI : ∀ (φ : List Addr) (H : Hp) (a : Addr) (od : Obj) (kus : List (Key × V)) (kvs : List (K1 × D)), H a = some (.frz od (.dK kus)) → RKs X.K φ H kvs kus → NoTup φ H → IterP X.K (Jf a od kus) (its kvs) φ H) :
    ∀ σ H Q, lift X.K XA E (fDCompD j its g fc fk fv vs) σ H Q → tDc wi t (liftT X.K XA E0 fc) (lift X.K XA E0 fk) (lift X.K XA E0 fv) vs σ H Q ∨ tLockE (tDc wi t (liftT X.K XA E0 fc) (lift X.K XA E0 fk) (lift X.K XA E0 fv) vs) σ H Q := by
  rintro σ H Q ⟨e, st, φ, n, q⟩
  unfold fDCompD at q
  cases hd : e.s[j]? with
  | none => rw [hd] at q; exact q.elim
  | some ox =>
    cases ox with
    | none => rw [hd] at q; exact q.elim
    | some x =>
      rw [hd] at q
      obtain ⟨v, hv, rv⟩ := n.rel.at_ j x hd
      cases hk : lkIn x st with
      | none => simp only [hk] at q; exact q.elim
      | some pr =>
        obtain ⟨kvs, st1⟩ := pr
        simp only [hk] at q
        cases lk_in n.good rv hk with
        | on ev h r es o =>
          subst ev es
          refine .inl (hw σ H _ _ _ _ hv h fun D0 hD => dcomp_core z hsl n (hI φ H _ _ _ kvs h r n.good.notup) hD (E σ) ?_)
          cases hr : endDC st1.length (dcompL st1.length g fc fk fv (its kvs) ⟨e.b, wipeD e.s vs⟩ (st1 ++ [.dic false []])) with
          | ok d fr st2 =>
            rw [hr] at q
            simp only [lkE, o] at q
            split at q
            · exact q
            · exact q.elim
          | exc c d st2 => rw [hr] at q; exact q.elim
          | stuck => rw [hr] at q; exact q.elim
        | @off a kus ev h r g1 o l =>
          subst ev
          refine .inr ⟨a, .dK kus, h, trivial, fun od => ?_⟩
          have x0 : Ext0 φ φ H (upd H a (.frz od (.dK kus))) := ext0_lock h
          have n1 : Now X.K φ (upd H a (.frz od (.dK kus))) σ e st1 := ⟨n.rel.keep0 x0 n.good.notup, g1 od, by rw [l]; exact n.base⟩
          refine hw σ _ _ a od kus hv upd_same fun D0 hD => dcomp_core (Q := fun v H' => H' a = some (.frz od (.dK kus)) ∧ Q v (upd H' a (.dK kus))) (XA := XA) z hsl n1 (hI φ _ a od kus kvs upd_same (r.keep0 x0 n.good.notup) (g1 od).notup) hD (fun _ _ _ => False) ?_
          cases hr : endDC st1.length (dcompL st1.length g fc fk fv (its kvs) ⟨e.b, wipeD e.s vs⟩ (st1 ++ [.dic false []])) with
          | ok d fr st2 =>
            rw [hr] at q
            intro φ' H' v x2 g2 r2 f2
            have hl : H' a = some (.frz od (.dK kus)) := x2.keepF a od _ upd_same
            cases hs2 : lkOut x st st2 with
            | none => simp only [lkE, hs2] at q; exact q.elim
            | some st3 =>
              simp only [lkE, hs2] at q
              split at q
              · rename_i hp2
                refine ⟨hl, q φ' _ v (ext_locked h x2) (o od φ' H' st2 st3 x2 g2 hs2) (r2.keep0 (ext0_unlock hl) g2.notup) fun zf => ?_⟩
                obtain ⟨b, c, e1, e2, e3, e4⟩ := f2 zf
                have nb : b ≠ a := fun w => by rw [w, upd_same] at e2; cases e2
                have e2' : H b = none := by rw [upd_ne nb] at e2; exact e2
                have x3 : Ext φ (φ' ++ [b]) (upd H a (.frz od (.dK kus))) H' := ⟨⟨x2.pre.trans (List.prefix_append _ _), fun y m nm => by
                  rcases List.mem_append.mp m with m | m
                  · exact x2.new y m nm
                  · rw [List.mem_singleton.mp m]; exact e2, x2.keep, x2.keepL, x2.dom⟩, x2.keepK, x2.keepT, x2.keepF⟩
                exact ⟨b, c, e1, e2', e3, o od (φ' ++ [b]) H' (st2 ++ [c]) (st3 ++ [c]) x3 e4 (lkOut_app hs2)⟩
              · exact q.elim
          | exc c d st2 => rw [hr] at q; exact q.elim
          | stuck => rw [hr] at q; exact q.elim
/-- name = what has the reading t, by way of the lock if need be -/
theorem s_base {s : Stmt} {i : Nat} {t : TE} {f : FE} (base : PS X s (tAsg t (gName i))) (h : ∀ σ H Q, lift X.K XA E f σ H Q → t σ H Q ∨ tLockE t σ H Q) : PS X s (liftS X.K XA E (fAsg (gN i) f)) := by
  refine PS.weak (PS.or base (ps_lock base)) fun D σ H q => ?_
  rcases h σ H _ (asg_lift q) with h | ⟨d, u, h1, h2, h3⟩
  · exact .inl h
  · exact .inr ⟨d, u, h1, h2, fun od => h3 od⟩
theorem ps_setDc {i : Nat} {y : Str} {py : Pos} {kx vx tg iter : Expr} {ifs : List Expr} {scope : Scope} {own : List (Str × Nat)} {pos spos : Pos} {wi : TI} {g : TG} {tt : TT} {tk tv : TE} (hc : X.calm = true) (hN : X.N.Nodup) (hy : X.N[i]? = some y) (hyl : X.env.scope.names.lookup y = some .local)
    (hsw : swapsWith (.DictComp kx vx [⟨tg, iter, ifs, 0⟩] scope pos) (some (.Name y py)) spos.line X.env = pure true) (hi : PI X tg iter wi) (ok : BlkOk X.N X.env.scope scope own)
    (hg : ∀ (s : Shared) (H : Hp) (C : Addr) (cl : List (Str × Addr)) (fp : List Addr), PG (X.blk s H scope (compEnvC scope cl C X.env) fp) tg g) (ht : ∀ (s : Shared) (H : Hp) (C : Addr) (cl : List (Str × Addr)) (fp : List Addr), PTs (X.blk s H scope (compEnvC scope cl C X.env) fp) ifs tt)
    (hk : ∀ (s : Shared) (H : Hp) (C : Addr) (cl : List (Str × Addr)) (fp : List Addr), PE (X.blk s H scope (compEnvC scope cl C X.env) fp) kx tk)
    (he : ∀ (s : Shared) (H : Hp) (C : Addr) (cl : List (Str × Addr)) (fp : List Addr), PE (X.blk s H scope (compEnvC scope cl C X.env) fp) vx tv) (hs : ∀ x, foldedSetIterable iter X.env x = pure x := by intro _; rfl) :
    PS X (.Assign [.Name y py] (.DictComp kx vx [⟨tg, iter, ifs, 0⟩] scope pos) spos) (tAsg (tDc wi g tt tk tv (own.map (·.2))) (gName i)) := by
  refine ⟨fun pins s σ H D I h => ?_⟩
  rw [exec_Assign_Name_used _ _ _ _ hsw]
  refine wpAny_bind (wpAny_standAt (wpAny_bind ?_))
  show wpAny _ X.A (do let _ ← comprehension (.DictComp kx vx [⟨tg, iter, ifs, 0⟩] scope pos) scope X.env (firstIterPos [⟨tg, iter, ifs, 0⟩] pos) newDict false (eval iter X.env) (some (assign (.Name y py) X.env))) _ _ s
  have h : tDc wi g tt tk tv (own.map (·.2)) σ H (fun x H1 => gName i x σ H1 D.nx) := h
  refine wpAny_bind (thn (dc_core (Qf := fun _ s' => SP X pins D .next s') hc hN I hi ok hg ht hk he hs h fun L C s' m H' I' q hn f => ?_) fun _ s' hq => wpAny_pure (wpAny_pure hq))
  show wpAny _ _ (assign (.Name y py) X.env (.ref L)) _ _ _
  refine wpAny_assign_Name (store_ok2 (v := V.ref L) I' hN hy (.inl hyl) rfl (fun s2 I2 z => ?_) (.inr hyl))
  obtain ⟨a, sb, ha⟩ := z
  obtain ⟨f0, f1, f2, f3, f4, f5⟩ := f
  have haC : C ≠ a := by
    rcases ha with z | z
    · rw [z]; exact f1
    · exact fun e => f4 y a z e.symm
  exact ⟨m, hn.sameBut sb haC, fun h3 sb3 => ⟨_, H', I2.turned (t' := s2.toks) (fun b o hb e => (sb3.2 b hb).trans e) f0 f1 f3 f4 f5, q⟩⟩
theorem s_comp {tg iter : Expr} {ifs : List Expr} {scope : Scope} {own : List (Str × Nat)} {pos spos : Pos} {i : Nat} {y : Str} {py : Pos} {g : FG} {sl : List Nat} {elt : Expr} {ii : FI} {fc f : FE} (hc : X.calm = true) (hN : X.N.Nodup) (hy : X.N[i]? = some y) (hyl : X.env.scope.names.lookup y = some .local) (hsw : swapsWith (.ListComp elt [⟨tg, iter, ifs, 0⟩] scope pos) (some (.Name y py)) spos.line X.env = pure true) (hi : PI X tg iter (liftI X.K XA E ii)) (ok : BlkOk X.N X.env.scope scope own) (hg : ∃ t : TG, (∀ (s : Shared) (H : Hp) (C : Addr) (cl : List (Str × Addr)) (fp : List Addr), PG (X.blk s H scope (compEnvC scope cl C X.env) fp) tg t) ∧ ∀ φ H s σ d v s' Q, Rel X.K φ H s σ → RD X.K φ H d v → g d s = some s' → (∀ σ', Rel X.K φ H s' σ' → Only2 sl σ σ' → Q σ' H) → t v σ H Q)
    (hsl : ∀ i ∈ sl, i ∈ own.map (·.2))
    (ht : ∀ (s : Shared) (H : Hp) (C : Addr) (cl : List (Str × Addr)) (fp : List Addr), PTs (X.blk s H scope (compEnvC scope cl C X.env) fp) ifs (liftT X.K XA E0 fc)) (he : ∀ (s : Shared) (H : Hp) (C : Addr) (cl : List (Str × Addr)) (fp : List Addr), PE (X.blk s H scope (compEnvC scope cl C X.env) fp) elt (lift X.K XA E0 f)) (hs : ∀ x, foldedSetIterable iter X.env x = pure x := by intro _; rfl) :
    PS X (.Assign [.Name y py] (.ListComp elt [⟨tg, iter, ifs, 0⟩] scope pos) spos) (liftS X.K XA E (fAsg (gN i) (fComp ii g fc f (own.map (·.2))))) := by
  obtain ⟨t, hp, z⟩ := hg
  exact s_base (ps_setLc hc hN hy hyl hsw hi ok hp ht he hs) fun σ H Q q => .inl (comp_h z hsl σ H Q (q))
theorem s_compD {tg iter : Expr} {ifs : List Expr} {scope : Scope} {own : List (Str × Nat)} {pos spos : Pos} {i : Nat} {y : Str} {py : Pos} {g : FG} {sl : List Nat} {elt : Expr} {its : List (K1 × D) → List D} {fc f : FE} (hc : X.calm = true) (hN : X.N.Nodup) (hy : X.N[i]? = some y) (hyl : X.env.scope.names.lookup y = some .local) (hsw : swapsWith (.ListComp elt [⟨tg, iter, ifs, 0⟩] scope pos) (some (.Name y py)) spos.line X.env = pure true) (hi : ID X j tg iter its) (ok : BlkOk X.N X.env.scope scope own) (hg : ∃ t : TG, (∀ (s : Shared) (H : Hp) (C : Addr) (cl : List (Str × Addr)) (fp : List Addr), PG (X.blk s H scope (compEnvC scope cl C X.env) fp) tg t) ∧ ∀ φ H s σ d v s' Q, Rel X.K φ H s σ → RD X.K φ H d v → g d s = some s' → (∀ σ', Rel X.K φ H s' σ' → Only2 sl σ σ' → Q σ' H) → t v σ H Q)
    (hsl : ∀ i ∈ sl, i ∈ own.map (·.2))
    (ht : ∀ (s : Shared) (H : Hp) (C : Addr) (cl : List (Str × Addr)) (fp : List Addr), PTs (X.blk s H scope (compEnvC scope cl C X.env) fp) ifs (liftT X.K XA E0 fc)) (he : ∀ (s : Shared) (H : Hp) (C : Addr) (cl : List (Str × Addr)) (fp : List Addr), PE (X.blk s H scope (compEnvC scope cl C X.env) fp) elt (lift X.K XA E0 f)) (hs : ∀ x, foldedSetIterable iter X.env x = pure x := by intro _; rfl) :
    PS X (.Assign [.Name y py] (.ListComp elt [⟨tg, iter, ifs, 0⟩] scope pos) spos) (liftS X.K XA E (fAsg (gN i) (fCompD j its g fc f (own.map (·.2))))) := by
  obtain ⟨t, hp, z⟩ := hg
  obtain ⟨wi, Jf, hpi, hw, hI⟩ := hi.ex
  exact s_base (ps_setLc hc hN hy hyl hsw hpi ok hp ht he hs) fun σ H Q q => compD_h z hsl hw hI σ H Q (q)
theorem s_dcomp {tg iter : Expr} {ifs : List Expr} {scope : Scope} {own : List (Str × Nat)} {pos spos : Pos} {i : Nat} {y : Str} {py : Pos} {g : FG} {sl : List Nat} {kx vx : Expr} {ii : FI} {fc fk fv : FE} (hc : X.calm = true) (hN : X.N.Nodup) (hy : X.N[i]? = some y) (hyl : X.env.scope.names.lookup y = some .local) (hsw : swapsWith (.DictComp kx vx [⟨tg, iter, ifs, 0⟩] scope pos) (some (.Name y py)) spos.line X.env = pure true) (hi : PI X tg iter (liftI X.K XA E ii)) (ok : BlkOk X.N X.env.scope scope own) (hg : ∃ t : TG, (∀ (s : Shared) (H : Hp) (C : Addr) (cl : List (Str × Addr)) (fp : List Addr), PG (X.blk s H scope (compEnvC scope cl C X.env) fp) tg t) ∧ ∀ φ H s σ d v s' Q, Rel X.K φ H s σ → RD X.K φ H d v → g d s = some s' → (∀ σ', Rel X.K φ H s' σ' → Only2 sl σ σ' → Q σ' H) → t v σ H Q)
    (hsl : ∀ i ∈ sl, i ∈ own.map (·.2))
    (ht : ∀ (s : Shared) (H : Hp) (C : Addr) (cl : List (Str × Addr)) (fp : List Addr), PTs (X.blk s H scope (compEnvC scope cl C X.env) fp) ifs (liftT X.K XA E0 fc)) (hk : ∀ (s : Shared) (H : Hp) (C : Addr) (cl : List (Str × Addr)) (fp : List Addr), PE (X.blk s H scope (compEnvC scope cl C X.env) fp) kx (lift X.K XA E0 fk))
    (he : ∀ (s : Shared) (H : Hp) (C : Addr) (cl : List (Str × Addr)) (fp : List Addr), PE (X.blk s H scope (compEnvC scope cl C X.env) fp) vx (lift X.K XA E0 fv)) (hs : ∀ x, foldedSetIterable iter X.env x = pure x := by intro _; rfl) :
    PS X (.Assign [.Name y py] (.DictComp kx vx [⟨tg, iter, ifs, 0⟩] scope pos) spos) (liftS X.K XA E (fAsg (gN i) (fDComp ii g fc fk fv (own.map (·.2))))) := by
  obtain ⟨t, hp, z⟩ := hg
  exact s_base (ps_setDc hc hN hy hyl hsw hi ok hp ht hk he hs) fun σ H Q q => .inl (dcomp_h z hsl σ H Q (q))
theorem s_dcompD {tg iter : Expr} {ifs : List Expr} {scope : Scope} {own : List (Str × Nat)} {pos spos : Pos} {i : Nat} {y : Str} {py : Pos} {g : FG} {sl : List Nat} {kx vx : Expr} {its : List (K1 × D) → List D} {fc fk fv : FE} (hc : X.calm = true) (hN : X.N.Nodup) (hy : X.N[i]? = some y) (hyl : X.env.scope.names.lookup y = some .local) (hsw : swapsWith (.DictComp kx vx [⟨tg, iter, ifs, 0⟩] scope pos) (some (.Name y py)) spos.line X.env = pure true) (hi : ID X j tg iter its) (ok : BlkOk X.N X.env.scope scope own) (hg : ∃ t : TG, (∀ (s : Shared) (H : Hp) (C : Addr) (cl : List (Str × Addr)) (fp : List Addr), PG (X.blk s H scope (compEnvC scope cl C X.env) fp) tg t) ∧ ∀ φ H s σ d v s' Q, Rel X.K φ H s σ → RD X.K φ H d v → g d s = some s' → (∀ σ', Rel X.K φ H s' σ' → Only2 sl σ σ' → Q σ' H) → t v σ H Q)
    (hsl : ∀ i ∈ sl, i ∈ own.map (·.2))
    (ht : ∀ (s : Shared) (H : Hp) (C : Addr) (cl : List (Str × Addr)) (fp : List Addr), PTs (X.blk s H scope (compEnvC scope cl C X.env) fp) ifs (liftT X.K XA E0 fc)) (hk : ∀ (s : Shared) (H : Hp) (C : Addr) (cl : List (Str × Addr)) (fp : List Addr), PE (X.blk s H scope (compEnvC scope cl C X.env) fp) kx (lift X.K XA E0 fk))
    (he : ∀ (s : Shared) (H : Hp) (C : Addr) (cl : List (Str × Addr)) (fp : List Addr), PE (X.blk s H scope (compEnvC scope cl C X.env) fp) vx (lift X.K XA E0 fv)) (hs : ∀ x, foldedSetIterable iter X.env x = pure x := by intro _; rfl) :
    PS X (.Assign [.Name y py] (.DictComp kx vx [⟨tg, iter, ifs, 0⟩] scope pos) spos) (liftS X.K XA E (fAsg (gN i) (fDCompD j its g fc fk fv (own.map (·.2))))) := by
  obtain ⟨t, hp, z⟩ := hg
  obtain ⟨wi, Jf, hpi, hw, hI⟩ := hi.ex
  exact s_base (ps_setDc hc hN hy hyl hsw hpi ok hp ht hk he hs) fun σ H Q q => dcompD_h z hsl hw hI σ H Q (q)
theorem s_compC {tg iter : Expr} {ifs : List Expr} {scope : Scope} {own : List (Str × Nat)} {pos spos : Pos} {i : Nat} {y : Str} {py : Pos} {g : FG} {sl : List Nat} {elt : Expr} {ii : FI} {fc f : FE} (hc : X.calm = true) (hN : X.N.Nodup) (hy : X.N[i]? = some y) (hyl : X.env.scope.names.lookup y = some .local) (hsw : swapsWith (.ListComp elt [⟨tg, iter, ifs, 0⟩] scope pos) (some (.Name y py)) spos.line X.env = pure true) (hi : PI X tg iter (liftI X.K XA E ii)) (ok : BlkOk X.N X.env.scope scope own) (hg : ∃ t : TG, (∀ (s : Shared) (H : Hp) (C : Addr) (cl : List (Str × Addr)) (fp : List Addr), PG (X.blk s H scope (compEnvC scope cl C X.env) fp) tg t) ∧ ∀ φ H s σ d v s' Q, Rel X.K φ H s σ → RD X.K φ H d v → g d s = some s' → (∀ σ', Rel X.K φ H s' σ' → Only2 sl σ σ' → Q σ' H) → t v σ H Q)
    (hsl : ∀ i ∈ sl, i ∈ own.map (·.2))
    (ht : ∀ (s : Shared) (H : Hp) (C : Addr) (cl : List (Str × Addr)) (fp : List Addr), PTs (X.blk s H scope (compEnvC scope cl C X.env) fp) ifs (liftT X.K XA E0 fc)) (he : ∀ (s : Shared) (H : Hp) (C : Addr) (cl : List (Str × Addr)) (fp : List Addr), PE (X.blk s H scope (compEnvC scope cl C X.env) fp) elt (lift X.K XA E0 f)) (hs : ∀ x, foldedSetIterable iter X.env x = pure x := by intro _; rfl) :
    PS X (.Assign [.Name y py] (.ListComp elt [⟨tg, iter, ifs, 0⟩] scope pos) spos) (liftS X.K XA E (fAsg (gN i) (fCell (fComp ii g fc f (own.map (·.2)))))) := by
  obtain ⟨t, hp, z⟩ := hg
  exact s_base (ps_setLc hc hN hy hyl hsw hi ok hp ht he hs) fun σ H Q q => .inl (comp_h z hsl σ H Q (cell_lift q))
theorem s_compDC {tg iter : Expr} {ifs : List Expr} {scope : Scope} {own : List (Str × Nat)} {pos spos : Pos} {i : Nat} {y : Str} {py : Pos} {g : FG} {sl : List Nat} {elt : Expr} {its : List (K1 × D) → List D} {fc f : FE} (hc : X.calm = true) (hN : X.N.Nodup) (hy : X.N[i]? = some y) (hyl : X.env.scope.names.lookup y = some .local) (hsw : swapsWith (.ListComp elt [⟨tg, iter, ifs, 0⟩] scope pos) (some (.Name y py)) spos.line X.env = pure true) (hi : ID X j tg iter its) (ok : BlkOk X.N X.env.scope scope own) (hg : ∃ t : TG, (∀ (s : Shared) (H : Hp) (C : Addr) (cl : List (Str × Addr)) (fp : List Addr), PG (X.blk s H scope (compEnvC scope cl C X.env) fp) tg t) ∧ ∀ φ H s σ d v s' Q, Rel X.K φ H s σ → RD X.K φ H d v → g d s = some s' → (∀ σ', Rel X.K φ H s' σ' → Only2 sl σ σ' → Q σ' H) → t v σ H Q)
    (hsl : ∀ i ∈ sl, i ∈ own.map (·.2))
    (ht : ∀ (s : Shared) (H : Hp) (C : Addr) (cl : List (Str × Addr)) (fp : List Addr), PTs (X.blk s H scope (compEnvC scope cl C X.env) fp) ifs (liftT X.K XA E0 fc)) (he : ∀ (s : Shared) (H : Hp) (C : Addr) (cl : List (Str × Addr)) (fp : List Addr), PE (X.blk s H scope (compEnvC scope cl C X.env) fp) elt (lift X.K XA E0 f)) (hs : ∀ x, foldedSetIterable iter X.env x = pure x := by intro _; rfl) :
    PS X (.Assign [.Name y py] (.ListComp elt [⟨tg, iter, ifs, 0⟩] scope pos) spos) (liftS X.K XA E (fAsg (gN i) (fCell (fCompD j its g fc f (own.map (·.2)))))) := by
  obtain ⟨t, hp, z⟩ := hg
  obtain ⟨wi, Jf, hpi, hw, hI⟩ := hi.ex
  exact s_base (ps_setLc hc hN hy hyl hsw hpi ok hp ht he hs) fun σ H Q q => compD_h z hsl hw hI σ H Q (cell_lift q)
theorem s_dcompC {tg iter : Expr} {ifs : List Expr} {scope : Scope} {own : List (Str × Nat)} {pos spos : Pos} {i : Nat} {y : Str} {py : Pos} {g : FG} {sl : List Nat} {kx vx : Expr} {ii : FI} {fc fk fv : FE} (hc : X.calm = true) (hN : X.N.Nodup) (hy : X.N[i]? = some y) (hyl : X.env.scope.names.lookup y = some .local) (hsw : swapsWith (.DictComp kx vx [⟨tg, iter, ifs, 0⟩] scope pos) (some (.Name y py)) spos.line X.env = pure true) (hi : PI X tg iter (liftI X.K XA E ii)) (ok : BlkOk X.N X.env.scope scope own) (hg : ∃ t : TG, (∀ (s : Shared) (H : Hp) (C : Addr) (cl : List (Str × Addr)) (fp : List Addr), PG (X.blk s H scope (compEnvC scope cl C X.env) fp) tg t) ∧ ∀ φ H s σ d v s' Q, Rel X.K φ H s σ → RD X.K φ H d v → g d s = some s' → (∀ σ', Rel X.K φ H s' σ' → Only2 sl σ σ' → Q σ' H) → t v σ H Q)
    (hsl : ∀ i ∈ sl, i ∈ own.map (·.2))
    (ht : ∀ (s : Shared) (H : Hp) (C : Addr) (cl : List (Str × Addr)) (fp : List Addr), PTs (X.blk s H scope (compEnvC scope cl C X.env) fp) ifs (liftT X.K XA E0 fc)) (hk : ∀ (s : Shared) (H : Hp) (C : Addr) (cl : List (Str × Addr)) (fp : List Addr), PE (X.blk s H scope (compEnvC scope cl C X.env) fp) kx (lift X.K XA E0 fk))
    (he : ∀ (s : Shared) (H : Hp) (C : Addr) (cl : List (Str × Addr)) (fp : List Addr), PE (X.blk s H scope (compEnvC scope cl C X.env) fp) vx (lift X.K XA E0 fv)) (hs : ∀ x, foldedSetIterable iter X.env x = pure x := by intro _; rfl) :
    PS X (.Assign [.Name y py] (.DictComp kx vx [⟨tg, iter, ifs, 0⟩] scope pos) spos) (liftS X.K XA E (fAsg (gN i) (fCell (fDComp ii g fc fk fv (own.map (·.2)))))) := by
  obtain ⟨t, hp, z⟩ := hg
  exact s_base (ps_setDc hc hN hy hyl hsw hi ok hp ht hk he hs) fun σ H Q q => .inl (dcomp_h z hsl σ H Q (cell_lift q))
theorem s_dcompDC {tg iter : Expr} {ifs : List Expr} {scope : Scope} {own : List (Str × Nat)} {pos spos : Pos} {i : Nat} {y : Str} {py : Pos} {g : FG} {sl : List Nat} {kx vx : Expr} {its : List (K1 × D) → List D} {fc fk fv : FE} (hc : X.calm = true) (hN : X.N.Nodup) (hy : X.N[i]? = some y) (hyl : X.env.scope.names.lookup y = some .local) (hsw : swapsWith (.DictComp kx vx [⟨tg, iter, ifs, 0⟩] scope pos) (some (.Name y py)) spos.line X.env = pure true) (hi : ID X j tg iter its) (ok : BlkOk X.N X.env.scope scope own) (hg : ∃ t : TG, (∀ (s : Shared) (H : Hp) (C : Addr) (cl : List (Str × Addr)) (fp : List Addr), PG (X.blk s H scope (compEnvC scope cl C X.env) fp) tg t) ∧ ∀ φ H s σ d v s' Q, Rel X.K φ H s σ → RD X.K φ H d v → g d s = some s' → (∀ σ', Rel X.K φ H s' σ' → Only2 sl σ σ' → Q σ' H) → t v σ H Q)
    (hsl : ∀ i ∈ sl, i ∈ own.map (·.2))
    (ht : ∀ (s : Shared) (H : Hp) (C : Addr) (cl : List (Str × Addr)) (fp : List Addr), PTs (X.blk s H scope (compEnvC scope cl C X.env) fp) ifs (liftT X.K XA E0 fc)) (hk : ∀ (s : Shared) (H : Hp) (C : Addr) (cl : List (Str × Addr)) (fp : List Addr), PE (X.blk s H scope (compEnvC scope cl C X.env) fp) kx (lift X.K XA E0 fk))
    (he : ∀ (s : Shared) (H : Hp) (C : Addr) (cl : List (Str × Addr)) (fp : List Addr), PE (X.blk s H scope (compEnvC scope cl C X.env) fp) vx (lift X.K XA E0 fv)) (hs : ∀ x, foldedSetIterable iter X.env x = pure x := by intro _; rfl) :
    PS X (.Assign [.Name y py] (.DictComp kx vx [⟨tg, iter, ifs, 0⟩] scope pos) spos) (liftS X.K XA E (fAsg (gN i) (fCell (fDCompD j its g fc fk fv (own.map (·.2)))))) := by
  obtain ⟨t, hp, z⟩ := hg
  obtain ⟨wi, Jf, hpi, hw, hI⟩ := hi.ex
  exact s_base (ps_setDc hc hN hy hyl hsw hpi ok hp ht hk he hs) fun σ H Q q => dcompD_h z hsl hw hI σ H Q (cell_lift q)
theorem b_never {ss : List Stmt} : PSs X ss (liftS X.K XA E fNever) := ⟨fun p s σ H D I ⟨_, _, _, _, q⟩ => q.elim⟩
end
end EV

set_option Elab.async false
set_option maxRecDepth 100000
set_option maxHeartbeats 2000000
namespace EV
open PySem PySem.Spec PyProof.Rows L2
/-- f' tells no more than f -/
def Ref (f f' : FF) : Prop := ∀ ds st, f' ds st = .stuck ∨ f ds st = f' ds st
theorem Fn.ref {P : Program} {w : World} {K : PySem.W.Frag} {mg : Str → Option Value} {base : Heap} {XA : XAT} {x : Str} {ps : List Str} {k : Nat} {f f' : FF} (F : Fn P w K mg base XA x ps k f) (h : Ref f f') : Fn P w K mg base XA x ps k f' := by
  obtain ⟨fa, fd, h1, h2, h3, h4⟩ := F.ex
  refine ⟨fa, fd, h1, h2, h3, h4.imp fun vs H Q E q => ?_⟩
  obtain ⟨φ, st, ds, g, r, q⟩ := q
  refine ⟨φ, st, ds, g, r, ?_⟩
  rcases h ds st with e | e
  · rw [e] at q; exact q.elim
  · rw [e]; exact q
/-! ### the greatest shared divisor -/
abbrev wC : FE := f2 gNe (fV 1) (fC (.int 0))
abbrev wB : FS := fSeq (fPar 0 1 (fV 1) (f2 (gInt kMod) (fV 0) (fV 1))) fNxt
theorem gcd_step (n b x y : Nat) (st : Sto) : fWhile (n + 1) wC wB ⟨b, [some (.int (x : Int)), some (.int (y : Int))]⟩ st = if y = 0 then .nxt [some (.int (x : Int)), some (.int (y : Int))] st else fWhile n wC wB ⟨b, [some (.int (y : Int)), some (.int ((x % y : Nat) : Int))]⟩ st := by
  show fBindS wC (kWh (fWhile n wC wB) wB) _ st = _
  have e : wC ⟨b, [some (.int (x : Int)), some (.int (y : Int))]⟩ st = .ok (.bl (!((y : Int) == 0))) false st := rfl
  unfold fBindS
  rw [e]
  by_cases h : y = 0
  · subst h; rfl
  · have h2 : ((y : Int) == 0) = false := by simp [h]
    have h3 : (0 : Int) < (y : Int) := by omega
    rw [h2, if_neg h]
    show (match wB ⟨b, [some (.int (x : Int)), some (.int (y : Int))]⟩ st with | .nxt s st' => fWhile n wC wB ⟨b, s⟩ st' | .cnt s st' => fWhile n wC wB ⟨b, s⟩ st' | .brk s st' => .nxt s st' | r => r) = _
    have e2 : f2 (gInt kMod) (fV 0) (fV 1) ⟨b, [some (.int (x : Int)), some (.int (y : Int))]⟩ st = .ok (.int ((x : Int) % (y : Int))) false st := by
      show ofO st (gInt kMod st (.int (x : Int)) (.int (y : Int))) = _
      unfold gInt kMod
      simp only []
      rw [if_pos h3]
      rfl
    have e3 : wB ⟨b, [some (.int (x : Int)), some (.int (y : Int))]⟩ st = .nxt [some (.int (y : Int)), some (.int ((x : Int) % (y : Int)))] st := by
      show (match fPar 0 1 (fV 1) (f2 (gInt kMod) (fV 0) (fV 1)) ⟨b, [some (.int (x : Int)), some (.int (y : Int))]⟩ st with | .nxt s st' => fNxt ⟨b, s⟩ st' | r => r) = _
      have e4 : fPar 0 1 (fV 1) (f2 (gInt kMod) (fV 0) (fV 1)) ⟨b, [some (.int (x : Int)), some (.int (y : Int))]⟩ st = .nxt [some (.int (y : Int)), some (.int ((x : Int) % (y : Int)))] st := by
        show fBindS (f2 (gInt kMod) (fV 0) (fV 1)) (fun z _ e st => .nxt ((e.s.set 0 (some (.int (y : Int)))).set 1 (some z)) st) ⟨b, [some (.int (x : Int)), some (.int (y : Int))]⟩ st = _
        unfold fBindS
        rw [e2]
        rfl
      rw [e4]
      rfl
    rw [e3, Int.natCast_emod]
theorem gcd_loop (b : Nat) (st : Sto) : ∀ (k n x y : Nat), y < 2 ^ k → 2 * k + 1 ≤ n → fWhile n wC wB ⟨b, [some (.int (x : Int)), some (.int (y : Int))]⟩ st = .nxt [some (.int ((Nat.gcd x y : Nat) : Int)), some (.int 0)] st
  | 0, n, x, y, h, hn => by
    have h0 : y = 0 := by simpa using h
    subst h0
    obtain ⟨m, rfl⟩ : ∃ m, n = m + 1 := ⟨n - 1, by omega⟩
    rw [gcd_step, if_pos rfl, Nat.gcd_zero_right]
    rfl
  | k + 1, n, x, y, h, hn => by
    obtain ⟨m, rfl⟩ : ∃ m, n = m + 1 := ⟨n - 1, by omega⟩
    rw [gcd_step]
    by_cases h0 : y = 0
    · subst h0
      rw [if_pos rfl, Nat.gcd_zero_right]
      rfl
    · rw [if_neg h0]
      obtain ⟨m2, rfl⟩ : ∃ m2, m = m2 + 1 := ⟨m - 1, by omega⟩
      have gr : Nat.gcd x y = Nat.gcd y (x % y) := by rw [Nat.gcd_comm x y, Nat.gcd_rec y x, Nat.gcd_comm]
      rw [gcd_step]
      by_cases h1 : x % y = 0
      · rw [if_pos h1, gr, h1, Nat.gcd_zero_right]
        rfl
      · rw [if_neg h1]
        have hr : x % y < y := Nat.mod_lt _ (Nat.pos_of_ne_zero h0)
        have h2 : y % (x % y) < x % y := Nat.mod_lt _ (Nat.pos_of_ne_zero h1)
        have h3 : y % (x % y) + (x % y) ≤ y := by
          have d := Nat.div_add_mod y (x % y)
          have q : 1 ≤ y / (x % y) := Nat.div_pos (Nat.le_of_lt hr) (Nat.pos_of_ne_zero h1)
          have q2 : (x % y) * 1 ≤ (x % y) * (y / (x % y)) := Nat.mul_le_mul_left _ q
          omega
        have h4 : y % (x % y) < 2 ^ k := by
          have : 2 ^ (k + 1) = 2 * 2 ^ k := by rw [Nat.pow_succ, Nat.mul_comm]
          omega
        rw [gcd_loop b st k m2 (x % y) (y % (x % y)) h4 (by omega), gr]
        have gr2 : Nat.gcd y (x % y) = Nat.gcd (x % y) (y % (x % y)) := by rw [Nat.gcd_comm y, Nat.gcd_rec (x % y) y, Nat.gcd_comm]
        rw [gr2]
theorem fSeq_nxt {f g : FS} {e : Fr} {s : List (Option D)} {st st' : Sto} (h : f e st = .nxt s st') : fSeq f g e st = g ⟨e.b, s⟩ st' := by
  unfold fSeq
  rw [h]
end EV

set_option Elab.async false
set_option maxRecDepth 100000
set_option maxHeartbeats 2000000
/-! FQ: sums of words with fractions, plainly (sp..) and by a tree of letters (fast in the kernel). -/
namespace FQ
open EV
inductive L3 where
  | a | b | c
  deriving DecidableEq
abbrev W := List L3
abbrev Q := Int × Nat
def L3.code : L3 → Nat
  | .a => 97
  | .b => 98
  | .c => 99
theorem code_inj : ∀ {x y : L3}, x.code = y.code → x = y := by
  intro x y h; cases x <;> cases y <;> first | rfl | (exact absurd h (by decide))
def enW (w : W) : List Nat := w.map L3.code
theorem enW_inj : ∀ {u v : W}, enW u = enW v → u = v
  | [], [], _ => rfl
  | [], _ :: _, h => by simp [enW] at h
  | _ :: _, [], h => by simp [enW] at h
  | x :: u, y :: v, h => by
    simp only [enW, List.map_cons, List.cons.injEq] at h
    rw [code_inj h.1, enW_inj h.2]
/-! ### fractions -/
def red (x : Int) (d : Nat) : Q := (x / ((Nat.gcd x.natAbs d : Nat) : Int), d / Nat.gcd x.natAbs d)
def mulQ (p q : Q) : Q := red (p.1 * q.1) (p.2 * q.2)
def addQ (p q : Q) : Q := if p.2 = q.2 then red (p.1 + q.1) p.2 else red (p.1 * q.2 + q.1 * p.2) (p.2 * q.2)
def okQ (q : Q) : Prop := q.1.natAbs < 2 ^ 3000 ∧ q.2 < 2 ^ 3000 ∧ q.2 ≠ 0
instance (q : Q) : Decidable (okQ q) := by unfold okQ; infer_instance
noncomputable def ngF (n : Nat) : Int := Nat.rec (motive := fun _ => Int) (Int.ofNat 0) (fun k _ => Int.negSucc k) n
noncomputable def absF (x : Int) : Nat := Int.rec (motive := fun _ => Nat) (fun n => n) (fun n => Nat.succ n) x
noncomputable def mulI (x y : Int) : Int := Int.rec (motive := fun _ => Int)
  (fun m => Int.rec (motive := fun _ => Int) (fun n => Int.ofNat (Nat.mul m n)) (fun n => ngF (Nat.mul m (Nat.succ n))) y)
  (fun m => Int.rec (motive := fun _ => Int) (fun n => ngF (Nat.mul (Nat.succ m) n)) (fun n => Int.ofNat (Nat.mul (Nat.succ m) (Nat.succ n))) y) x
noncomputable def subF (m n : Nat) : Int := Bool.rec (motive := fun _ => Int) (ngF (Nat.sub n m)) (Int.ofNat (Nat.sub m n)) (Nat.ble n m)
noncomputable def addI (x y : Int) : Int := Int.rec (motive := fun _ => Int)
  (fun m => Int.rec (motive := fun _ => Int) (fun n => Int.ofNat (Nat.add m n)) (fun n => subF m (Nat.succ n)) y)
  (fun m => Int.rec (motive := fun _ => Int) (fun n => subF n (Nat.succ m)) (fun n => Int.negSucc (Nat.succ (Nat.add m n))) y) x
noncomputable def divI (x : Int) (g : Nat) : Int := Int.rec (motive := fun _ => Int) (fun m => Int.ofNat (Nat.div m g)) (fun m => Int.negSucc (Nat.div m g)) x
noncomputable def redF (x : Int) (d : Nat) : Q := (fun g : Nat => (divI x g, Nat.div d g)) (Nat.gcd (absF x) d)
noncomputable def mulF (p q : Q) : Q := Prod.rec (motive := fun _ => Q) (fun (x : Int) (d : Nat) => Prod.rec (motive := fun _ => Q) (fun (y : Int) (e : Nat) => redF (mulI x y) (Nat.mul d e)) q) p
noncomputable def addF (p q : Q) : Q := Prod.rec (motive := fun _ => Q) (fun (x : Int) (d : Nat) => Prod.rec (motive := fun _ => Q) (fun (y : Int) (e : Nat) => Bool.rec (motive := fun _ => Q) (redF (addI (mulI x (Int.ofNat e)) (mulI y (Int.ofNat d))) (Nat.mul d e)) (redF (addI x y) d) (Nat.beq d e)) q) p
noncomputable def smF (q : Q) : Bool := Prod.rec (motive := fun _ => Bool) (fun x d => Bool.rec (motive := fun _ => Bool) false (Bool.rec (motive := fun _ => Bool) false (Bool.rec (motive := fun _ => Bool) true false (Nat.beq d 0)) (Nat.beq (Nat.shiftRight d 3000) 0)) (Nat.beq (Nat.shiftRight (absF x) 3000) 0)) q
theorem ngF_eq (n : Nat) : ngF n = -(n : Int) := by cases n <;> rfl
theorem absF_eq (x : Int) : absF x = x.natAbs := by cases x <;> rfl
theorem mulI_eq (x y : Int) : mulI x y = x * y := by
  cases x with
  | ofNat m =>
    cases y with
    | ofNat n => rfl
    | negSucc n =>
      show ngF (m * (n + 1)) = _
      rw [ngF_eq, Int.negSucc_eq]
      show _ = (m : Int) * _
      rw [Int.natCast_mul, Int.mul_neg]
      rfl
  | negSucc m =>
    cases y with
    | ofNat n =>
      show ngF ((m + 1) * n) = _
      rw [ngF_eq, Int.negSucc_eq]
      show _ = _ * (n : Int)
      rw [Int.natCast_mul, Int.neg_mul]
      rfl
    | negSucc n =>
      show (((m + 1) * (n + 1) : Nat) : Int) = _
      rw [Int.negSucc_eq, Int.negSucc_eq, Int.neg_mul_neg, Int.natCast_mul]
      rfl
theorem subF_eq (m n : Nat) : subF m n = (m : Int) - n := by
  unfold subF
  cases h : Nat.ble n m with
  | true =>
    have := Nat.le_of_ble_eq_true h
    show ((m - n : Nat) : Int) = _
    omega
  | false =>
    have : ¬ n ≤ m := fun z => by rw [Nat.ble_eq_true_of_le z] at h; cases h
    show ngF (n - m) = _
    rw [ngF_eq]; omega
theorem addI_eq (x y : Int) : addI x y = x + y := by
  cases x with
  | ofNat m =>
    cases y with
    | ofNat n => rfl
    | negSucc n =>
      show subF m (n + 1) = _
      rw [subF_eq, Int.negSucc_eq]
      show _ = (m : Int) + _
      omega
  | negSucc m =>
    cases y with
    | ofNat n =>
      show subF n (m + 1) = _
      rw [subF_eq, Int.negSucc_eq]
      show _ = _ + (n : Int)
      omega
    | negSucc n =>
      show Int.negSucc (m + n + 1) = _
      rw [Int.negSucc_eq, Int.negSucc_eq, Int.negSucc_eq]
      omega
theorem divI_eq (x : Int) {g : Nat} (h : 0 < g) : divI x g = x / (g : Int) := by
  cases x with
  | ofNat m => rfl
  | negSucc m =>
    obtain ⟨k, rfl⟩ : ∃ k, g = k + 1 := ⟨g - 1, by omega⟩
    rfl
theorem redF_eq (x : Int) {d : Nat} (h : d ≠ 0) : redF x d = red x d := by
  unfold redF red
  rw [absF_eq]
  have g0 : 0 < Nat.gcd x.natAbs d := Nat.gcd_pos_of_pos_right _ (Nat.pos_of_ne_zero h)
  show (divI x (Nat.gcd x.natAbs d), d / Nat.gcd x.natAbs d) = _
  rw [divI_eq x g0]
theorem mulF_eq {p q : Q} (hp : p.2 ≠ 0) (hq : q.2 ≠ 0) : mulF p q = mulQ p q := by
  obtain ⟨x, d⟩ := p
  obtain ⟨y, e⟩ := q
  show redF (mulI x y) (d * e) = _
  rw [mulI_eq, redF_eq _ (Nat.mul_ne_zero hp hq)]
  rfl
theorem addF_eq {p q : Q} (hp : p.2 ≠ 0) (hq : q.2 ≠ 0) : addF p q = addQ p q := by
  obtain ⟨x, d⟩ := p
  obtain ⟨y, e⟩ := q
  show Bool.rec (motive := fun _ => Q) (redF (addI (mulI x (Int.ofNat e)) (mulI y (Int.ofNat d))) (d * e)) (redF (addI x y) d) (Nat.beq d e) = if d = e then _ else _
  cases h : Nat.beq d e with
  | true =>
    rw [if_pos (Nat.eq_of_beq_eq_true h)]
    show redF (addI x y) d = _
    rw [addI_eq, redF_eq _ hp]
  | false =>
    rw [if_neg (Nat.ne_of_beq_eq_false h)]
    show redF (addI (mulI x (Int.ofNat e)) (mulI y (Int.ofNat d))) (d * e) = _
    rw [mulI_eq, mulI_eq, addI_eq, redF_eq _ (Nat.mul_ne_zero hp hq)]
    rfl
theorem red_pos (x : Int) {d : Nat} (h : d ≠ 0) : (red x d).2 ≠ 0 := by
  have g0 : 0 < Nat.gcd x.natAbs d := Nat.gcd_pos_of_pos_right _ (Nat.pos_of_ne_zero h)
  have gl : Nat.gcd x.natAbs d ≤ d := Nat.gcd_le_right _ (Nat.pos_of_ne_zero h)
  exact Nat.ne_of_gt (Nat.div_pos gl g0)
theorem mulQ_pos {p q : Q} (hp : p.2 ≠ 0) (hq : q.2 ≠ 0) : (mulQ p q).2 ≠ 0 := red_pos _ (Nat.mul_ne_zero hp hq)
theorem shift0 (n k : Nat) : Nat.beq (Nat.shiftRight n k) 0 = true ↔ n < 2 ^ k := by
  rw [show Nat.shiftRight n k = n >>> k from rfl, Nat.shiftRight_eq_div_pow]
  constructor
  · intro h
    have := Nat.eq_of_beq_eq_true h
    exact (Nat.div_eq_zero_iff_lt (Nat.two_pow_pos k)).mp this
  · intro h
    rw [(Nat.div_eq_zero_iff_lt (Nat.two_pow_pos k)).mpr h]
    rfl
theorem smF_ok {q : Q} (h : smF q = true) : okQ q := by
  obtain ⟨x, d⟩ := q
  unfold smF at h
  simp only [] at h
  rw [absF_eq] at h
  cases h1 : Nat.beq (Nat.shiftRight x.natAbs 3000) 0 with
  | false => rw [h1] at h; cases h
  | true =>
    rw [h1] at h
    cases h2 : Nat.beq (Nat.shiftRight d 3000) 0 with
    | false => rw [h2] at h; cases h
    | true =>
      rw [h2] at h
      cases h3 : Nat.beq d 0 with
      | true => rw [h3] at h; cases h
      | false => exact ⟨(shift0 _ _).mp h1, (shift0 _ _).mp h2, Nat.ne_of_beq_eq_false h3⟩
/-! ### sums, plainly -/
def lkQ (acc : List (W × Q)) (w : W) : Option Q := match acc with
  | [] => none
  | (k, q) :: r => if k = w then some q else lkQ r w
def hasQ (acc : List (W × Q)) (w : W) : Bool := acc.any fun p => decide (p.1 = w)
def putQ (acc : List (W × Q)) (w : W) (q : Q) : List (W × Q) := if hasQ acc w = true then acc.map (fun p => if p.1 = w then (p.1, q) else p) else acc ++ [(w, q)]
abbrev zQ : Q := (0, 1)
def spIn (L : Nat) (k1 : W) (m : Q) : List (W × Q) → List (W × Q) → Option (List (W × Q))
  | [], acc => some acc
  | (k2, its) :: r, acc => if k1.length + k2.length ≤ L then
      (if okQ (mulQ m its) ∧ okQ ((lkQ acc (k1 ++ k2)).getD zQ) then spIn L k1 m r (putQ acc (k1 ++ k2) (addQ ((lkQ acc (k1 ++ k2)).getD zQ) (mulQ m its))) else none)
    else spIn L k1 m r acc
def spOut (L : Nat) (ys : List (W × Q)) : List (W × Q) → List (W × Q) → Option (List (W × Q))
  | [], acc => some acc
  | (k1, m) :: r, acc => match spIn L k1 m ys acc with
    | some acc' => spOut L ys r acc'
    | none => none
def isN (q : Q) : Bool := (q.1 == 0) && (q.2 == 1)
def spJoin (L : Nat) (xs ys : List (W × Q)) : Option (List (W × Q)) := (spOut L ys xs []).map fun acc => acc.filter fun p => !isN p.2
def spAdd (num : Q) : List (W × Q) → List (W × Q) → Option (List (W × Q))
  | [], acc => some acc
  | (w, q) :: r, acc => if okQ (mulQ num q) ∧ okQ ((lkQ acc w).getD zQ) then spAdd num r (putQ acc w (addQ ((lkQ acc w).getD zQ) (mulQ num q))) else none
/-! ### by a tree -/
inductive T where
  | lf | nd (v : Option Q) (a b c : T)
def child (x : L3) (a b c : T) : T := match x with
  | .a => a
  | .b => b
  | .c => c
noncomputable def find (w : W) : T → Option Q := List.rec (motive := fun _ => T → Option Q)
  (fun t => T.casesOn (motive := fun _ => Option Q) t none (fun v _ _ _ => v))
  (fun x _ ih t => T.casesOn (motive := fun _ => Option Q) t none (fun _ a b c => ih (L3.rec (motive := fun _ => T) a b c x))) w
noncomputable def upd (w : W) (q : Q) : T → T := List.rec (motive := fun _ => T → T)
  (fun t => T.casesOn (motive := fun _ => T) t (.nd (some q) .lf .lf .lf) (fun _ a b c => .nd (some q) a b c))
  (fun x _ ih t => T.casesOn (motive := fun _ => T) t (L3.rec (motive := fun _ => T) (.nd none (ih .lf) .lf .lf) (.nd none .lf (ih .lf) .lf) (.nd none .lf .lf (ih .lf)) x)
    (fun v a b c => L3.rec (motive := fun _ => T) (.nd v (ih a) b c) (.nd v a (ih b) c) (.nd v a b (ih c)) x)) w
theorem find_lf (w : W) : find w .lf = none := by cases w <;> rfl
theorem find_upd : ∀ (w u : W) (q : Q) (t : T), find u (upd w q t) = if w = u then some q else find u t
  | [], [], q, t => by cases t <;> rfl
  | [], y :: u, q, t => by
    rw [if_neg (by simp)]
    cases t with
    | lf => cases y <;> exact find_lf u
    | nd v a b c => rfl
  | x :: w, [], q, t => by
    rw [if_neg (by simp)]
    cases t <;> cases x <;> rfl
  | x :: w, y :: u, q, t => by
    have e : (x :: w = y :: u) ↔ (x = y ∧ w = u) := by simp
    cases t with
    | lf =>
      cases x <;> cases y <;>
        first
        | (show find u (upd w q .lf) = _; rw [find_upd w u q .lf]; by_cases h : w = u
           · rw [if_pos h, if_pos (by rw [h])]
           · rw [if_neg h, if_neg (by simp [h])]; rw [find_lf]; rfl)
        | (rw [if_neg (by simp)]; exact find_lf u)
    | nd v a b c =>
      cases x <;> cases y <;>
        first
        | (show find u (upd w q a) = _; rw [find_upd w u q a]; by_cases h : w = u
           · rw [if_pos h, if_pos (by rw [h])]
           · rw [if_neg h, if_neg (by simp [h])]; rfl)
        | (show find u (upd w q b) = _; rw [find_upd w u q b]; by_cases h : w = u
           · rw [if_pos h, if_pos (by rw [h])]
           · rw [if_neg h, if_neg (by simp [h])]; rfl)
        | (show find u (upd w q c) = _; rw [find_upd w u q c]; by_cases h : w = u
           · rw [if_pos h, if_pos (by rw [h])]
           · rw [if_neg h, if_neg (by simp [h])]; rfl)
        | (rw [if_neg (by simp)]; rfl)
theorem lkQ_put (w u : W) (q : Q) : ∀ acc, lkQ (putQ acc w q) u = if w = u then some q else lkQ acc u := by
  intro acc
  unfold putQ
  by_cases h : hasQ acc w = true
  · rw [if_pos h]
    induction acc with
    | nil => cases h
    | cons p r ih =>
      obtain ⟨k, v⟩ := p
      by_cases hk : k = w
      · subst hk
        rw [List.map_cons, if_pos rfl]
        by_cases hu : k = u
        · subst hu
          simp [lkQ]
        · rw [if_neg hu]
          show (if k = u then _ else lkQ _ u) = (if k = u then _ else lkQ r u)
          rw [if_neg hu, if_neg hu]
          by_cases hr : hasQ r k = true
          · rw [ih hr, if_neg hu]
          · have e : r.map (fun p => if p.1 = k then (p.1, q) else p) = r := by
              conv => rhs; rw [← List.map_id r]
              refine List.map_congr_left fun y hy => ?_
              rw [if_neg fun z => hr (List.any_eq_true.mpr ⟨y, hy, by simpa using z⟩)]
              rfl
            rw [e]
      · rw [List.map_cons, if_neg hk]
        have hr : hasQ r w = true := by
          have : (decide (k = w) || hasQ r w) = true := h
          rw [decide_eq_false hk] at this
          exact this
        show (if k = u then some v else lkQ _ u) = if w = u then some q else (if k = u then some v else lkQ r u)
        rw [ih hr]
        by_cases hu : k = u
        · subst hu
          rw [if_pos rfl, if_neg fun z => hk z.symm, if_pos rfl]
        · rw [if_neg hu, if_neg hu]
  · rw [if_neg h]
    induction acc with
    | nil => rfl
    | cons p r ih =>
      obtain ⟨k, v⟩ := p
      have h2 : ¬ (decide (k = w) || hasQ r w) = true := h
      rw [Bool.or_eq_true, decide_eq_true_iff, not_or] at h2
      show (if k = u then some v else lkQ (r ++ [(w, q)]) u) = if w = u then some q else (if k = u then some v else lkQ r u)
      rw [ih h2.2]
      by_cases hu : k = u
      · subst hu
        rw [if_pos rfl, if_neg fun z => h2.1 z.symm, if_pos rfl]
      · rw [if_neg hu, if_neg hu]
theorem has_lk : ∀ (acc : List (W × Q)) (w : W), hasQ acc w = (lkQ acc w).isSome
  | [], _ => rfl
  | (k, v) :: r, w => by
    show (decide (k = w) || hasQ r w) = (if k = w then some v else lkQ r w).isSome
    by_cases h : k = w
    · rw [if_pos h, decide_eq_true h]; rfl
    · rw [if_neg h, decide_eq_false h, has_lk r w]; rfl
theorem put_keys (acc : List (W × Q)) (w : W) (q : Q) : (putQ acc w q).map (·.1) = if hasQ acc w = true then acc.map (·.1) else acc.map (·.1) ++ [w] := by
  unfold putQ
  split
  · rw [List.map_map]
    refine List.map_congr_left fun p _ => ?_
    show (if p.1 = w then (p.1, q) else p).1 = p.1
    split <;> rfl
  · rw [List.map_append]; rfl
/-- the tree t with the keys ks (the last first) holds acc -/
structure Sim (acc : List (W × Q)) (t : T) (ks : List W) : Prop where
  keys : acc.map (·.1) = ks.reverse
  nd : ks.Nodup
  lk : ∀ w, lkQ acc w = find w t
theorem lkQ_mem : ∀ {acc : List (W × Q)} {w : W} {q : Q}, lkQ acc w = some q → (w, q) ∈ acc
  | [], _, _, h => by cases h
  | (k, v) :: r, w, q, h => by
    unfold lkQ at h
    split at h
    · rename_i e; cases h; subst e; exact List.mem_cons_self
    · exact List.mem_cons_of_mem _ (lkQ_mem h)
theorem lkQ_none : ∀ {acc : List (W × Q)} {w : W}, lkQ acc w = none → w ∉ acc.map (·.1)
  | [], _, _ => by simp
  | (k, v) :: r, w, h => by
    unfold lkQ at h
    split at h
    · cases h
    · rename_i e
      rw [List.map_cons, List.mem_cons, not_or]
      exact ⟨fun z => e z.symm, lkQ_none h⟩
theorem lkQ_of : ∀ {acc : List (W × Q)} {w : W} {q : Q}, (acc.map (·.1)).Nodup → (w, q) ∈ acc → lkQ acc w = some q
  | [], _, _, _, h => by cases h
  | (k, v) :: r, w, q, n, h => by
    rw [List.map_cons, List.nodup_cons] at n
    rcases List.mem_cons.mp h with h | h
    · cases h; simp [lkQ]
    · unfold lkQ
      rw [if_neg fun z => n.1 (by rw [z]; exact List.mem_map.mpr ⟨_, h, rfl⟩)]
      exact lkQ_of n.2 h
theorem Sim.old {acc : List (W × Q)} {t : T} {ks : List W} (s : Sim acc t ks) {w : W} {v : Q} (q : Q) (h : find w t = some v) : Sim (putQ acc w q) (upd w q t) ks := by
  have hh : hasQ acc w = true := by rw [has_lk, s.lk, h]; rfl
  exact ⟨by rw [put_keys, if_pos hh]; exact s.keys, s.nd, fun u => by rw [lkQ_put, find_upd, s.lk]⟩
theorem Sim.new {acc : List (W × Q)} {t : T} {ks : List W} (s : Sim acc t ks) {w : W} (q : Q) (h : find w t = none) : Sim (putQ acc w q) (upd w q t) (w :: ks) := by
  have hn : lkQ acc w = none := by rw [s.lk]; exact h
  have hh : ¬ hasQ acc w = true := by rw [has_lk, hn]; simp
  refine ⟨by rw [put_keys, if_neg hh, List.reverse_cons, s.keys], List.nodup_cons.mpr ⟨fun m => ?_, s.nd⟩, fun u => by rw [lkQ_put, find_upd, s.lk]⟩
  have := lkQ_none hn
  rw [s.keys] at this
  exact this (List.mem_reverse.mpr m)
/-- one word more -/
noncomputable def stepF {α : Type} (w : W) (p : Q) (t : T) (ks : List W) (k : T → List W → Option α) : Option α :=
  Bool.rec (motive := fun _ => Option α) none
    (Option.rec (motive := fun _ => Option α) (k (upd w (addF zQ p) t) (w :: ks))
      (fun v => Bool.rec (motive := fun _ => Option α) none (k (upd w (addF v p) t) ks) (smF v)) (find w t)) (smF p)
noncomputable def inF {α : Type} (L : Nat) (k1 : W) (n1 : Nat) (m : Q) (ys : List (W × Nat × Q)) : T → List W → (T → List W → Option α) → Option α :=
  List.rec (motive := fun _ => T → List W → (T → List W → Option α) → Option α) (fun t ks k => k t ks)
    (fun y _ ih t ks k => Prod.rec (motive := fun _ => Option α) (fun k2 y2 => Prod.rec (motive := fun _ => Option α) (fun n2 its =>
      Bool.rec (motive := fun _ => Option α) (ih t ks k) (stepF (List.append k1 k2) (mulF m its) t ks fun t' ks' => ih t' ks' k) (Nat.ble (Nat.add n1 n2) L)) y2) y) ys
noncomputable def outF {α : Type} (L : Nat) (ys : List (W × Nat × Q)) (xs : List (W × Nat × Q)) : T → List W → (T → List W → Option α) → Option α :=
  List.rec (motive := fun _ => T → List W → (T → List W → Option α) → Option α) (fun t ks k => k t ks)
    (fun x _ ih t ks k => Prod.rec (motive := fun _ => Option α) (fun k1 x2 => Prod.rec (motive := fun _ => Option α) (fun n1 m => inF L k1 n1 m ys t ks fun t' ks' => ih t' ks' k) x2) x) xs
noncomputable def addS {α : Type} (num : Q) (ys : List (W × Nat × Q)) : T → List W → (T → List W → Option α) → Option α :=
  List.rec (motive := fun _ => T → List W → (T → List W → Option α) → Option α) (fun t ks k => k t ks)
    (fun y _ ih t ks k => Prod.rec (motive := fun _ => Option α) (fun w y2 => Prod.rec (motive := fun _ => Option α) (fun _ q => stepF w (mulF num q) t ks fun t' ks' => ih t' ks' k) y2) y) ys
def wl (xs : List (W × Q)) : List (W × Nat × Q) := xs.map fun p => (p.1, p.1.length, p.2)
theorem getD_pos {acc : List (W × Q)} {w : W} (h : okQ ((lkQ acc w).getD zQ)) : ((lkQ acc w).getD zQ).2 ≠ 0 := h.2.2
/-- a step keeps the tree -/
theorem step_ok {α : Type} {acc : List (W × Q)} {t : T} {ks : List W} {w : W} {p : Q} {k : T → List W → Option α} {r : α} (s : Sim acc t ks) (h : stepF w p t ks k = some r) :
    okQ p ∧ okQ ((lkQ acc w).getD zQ) ∧ ∃ t' ks', Sim (putQ acc w (addQ ((lkQ acc w).getD zQ) p)) t' ks' ∧ k t' ks' = some r := by
  unfold stepF at h
  cases hp : smF p with
  | false => rw [hp] at h; cases h
  | true =>
    rw [hp] at h
    have op := smF_ok hp
    cases hf : find w t with
    | none =>
      rw [hf] at h
      have e : lkQ acc w = none := by rw [s.lk]; exact hf
      rw [e]
      have e2 : addF zQ p = addQ zQ p := addF_eq (by decide) op.2.2
      exact ⟨op, by show okQ zQ; decide +kernel, _, _, s.new _ hf, by show k (upd w (addQ zQ p) t) (w :: ks) = _; rw [← e2]; exact h⟩
    | some v =>
      rw [hf] at h
      have e : lkQ acc w = some v := by rw [s.lk]; exact hf
      rw [e]
      simp only [] at h
      cases hv : smF v with
      | false => rw [hv] at h; cases h
      | true =>
        rw [hv] at h
        have ov := smF_ok hv
        have e2 : addF v p = addQ v p := addF_eq ov.2.2 op.2.2
        exact ⟨op, ov, _, _, s.old _ hf, by show k (upd w (addQ v p) t) ks = _; rw [← e2]; exact h⟩
theorem in_ok {α : Type} {L : Nat} {k1 : W} {m : Q} (hm : m.2 ≠ 0) : ∀ {ys : List (W × Q)} {acc : List (W × Q)} {t : T} {ks : List W} {k : T → List W → Option α} {r : α}, (∀ p ∈ ys, p.2.2 ≠ 0) → Sim acc t ks → inF L k1 k1.length m (wl ys) t ks k = some r →
    ∃ acc' t' ks', spIn L k1 m ys acc = some acc' ∧ Sim acc' t' ks' ∧ k t' ks' = some r
  | [], acc, t, ks, k, r, _, s, h => ⟨acc, t, ks, rfl, s, h⟩
  | (k2, its) :: ys, acc, t, ks, k, r, hy, s, h => by
    have h2 : Bool.rec (motive := fun _ => Option α) (inF L k1 k1.length m (wl ys) t ks k) (stepF (k1 ++ k2) (mulF m its) t ks fun t' ks' => inF L k1 k1.length m (wl ys) t' ks' k) (Nat.ble (k1.length + k2.length) L) = some r := h
    have hy2 : ∀ p ∈ ys, p.2.2 ≠ 0 := fun p m => hy p (List.mem_cons_of_mem _ m)
    unfold spIn
    cases hl : Nat.ble (k1.length + k2.length) L with
    | false =>
      rw [hl] at h2
      rw [if_neg fun z => by rw [Nat.ble_eq_true_of_le z] at hl; cases hl]
      exact in_ok hm hy2 s h2
    | true =>
      rw [hl] at h2
      rw [if_pos (Nat.le_of_ble_eq_true hl)]
      have hi : its.2 ≠ 0 := hy (k2, its) List.mem_cons_self
      obtain ⟨o1, o2, t', ks', s', q⟩ := step_ok s h2
      rw [mulF_eq hm hi] at o1 s'
      rw [if_pos ⟨o1, o2⟩]
      exact in_ok hm hy2 s' q
theorem out_ok {α : Type} {L : Nat} {ys : List (W × Q)} (hy : ∀ p ∈ ys, p.2.2 ≠ 0) : ∀ {xs : List (W × Q)} {acc : List (W × Q)} {t : T} {ks : List W} {k : T → List W → Option α} {r : α}, (∀ p ∈ xs, p.2.2 ≠ 0) → Sim acc t ks → outF L (wl ys) (wl xs) t ks k = some r →
    ∃ acc' t' ks', spOut L ys xs acc = some acc' ∧ Sim acc' t' ks' ∧ k t' ks' = some r
  | [], acc, t, ks, k, r, _, s, h => ⟨acc, t, ks, rfl, s, h⟩
  | (k1, m) :: xs, acc, t, ks, k, r, hx, s, h => by
    have h2 : inF L k1 k1.length m (wl ys) t ks (fun t' ks' => outF L (wl ys) (wl xs) t' ks' k) = some r := h
    obtain ⟨acc', t', ks', e, s', q⟩ := in_ok (hx (k1, m) List.mem_cons_self) hy s h2
    unfold spOut
    rw [e]
    exact out_ok hy (fun p m => hx p (List.mem_cons_of_mem _ m)) s' q
theorem add_ok {α : Type} {num : Q} (hm : num.2 ≠ 0) : ∀ {ys : List (W × Q)} {acc : List (W × Q)} {t : T} {ks : List W} {k : T → List W → Option α} {r : α}, (∀ p ∈ ys, p.2.2 ≠ 0) → Sim acc t ks → addS num (wl ys) t ks k = some r →
    ∃ acc' t' ks', spAdd num ys acc = some acc' ∧ Sim acc' t' ks' ∧ k t' ks' = some r
  | [], acc, t, ks, k, r, _, s, h => ⟨acc, t, ks, rfl, s, h⟩
  | (w, q) :: ys, acc, t, ks, k, r, hy, s, h => by
    have h2 : stepF w (mulF num q) t ks (fun t' ks' => addS num (wl ys) t' ks' k) = some r := h
    obtain ⟨o1, o2, t', ks', s', z⟩ := step_ok s h2
    rw [mulF_eq hm (hy (w, q) List.mem_cons_self)] at o1 s'
    unfold spAdd
    rw [if_pos ⟨o1, o2⟩]
    exact add_ok hm (fun p m => hy p (List.mem_cons_of_mem _ m)) s' z
/-- what the tree holds, in the keys' order; the keys come the last first -/
noncomputable def allF (t : T) (ks : List W) : List (W × Q) → List (W × Q) := List.rec (motive := fun _ => List (W × Q) → List (W × Q)) (fun acc => acc)
  (fun w _ ih acc => Option.rec (motive := fun _ => List (W × Q)) (ih acc) (fun q => ih ((w, q) :: acc)) (find w t)) ks
noncomputable def isNF (q : Q) : Bool := Prod.rec (motive := fun _ => Bool) (fun x d => Bool.rec (motive := fun _ => Bool) false (Nat.beq d 1) (Nat.beq (absF x) 0)) q
noncomputable def someF (t : T) (ks : List W) : List (W × Q) → List (W × Q) := List.rec (motive := fun _ => List (W × Q) → List (W × Q)) (fun acc => acc)
  (fun w _ ih acc => Option.rec (motive := fun _ => List (W × Q)) (ih acc) (fun q => Bool.rec (motive := fun _ => List (W × Q)) (ih ((w, q) :: acc)) (ih acc) (isNF q)) (find w t)) ks
theorem isNF_eq (q : Q) : isNF q = isN q := by
  obtain ⟨x, d⟩ := q
  unfold isNF isN
  simp only []
  rw [absF_eq]
  have e1 : Nat.beq x.natAbs 0 = (x == 0) := by
    rw [Bool.eq_iff_iff]
    constructor
    · intro h; simpa using Nat.eq_of_beq_eq_true h
    · intro h; have : x = 0 := by simpa using h
      subst this; rfl
  have e2 : Nat.beq d 1 = (d == 1) := by
    rw [Bool.eq_iff_iff]
    constructor
    · intro h; simpa using Nat.eq_of_beq_eq_true h
    · intro h; have : d = 1 := by simpa using h
      subst this; rfl
  rw [e1, e2]
  cases (x == 0) <;> rfl
theorem all_gen (t : T) : ∀ (ks : List W) (rest : List (W × Q)) (acc : List (W × Q)), acc.map (·.1) = ks.reverse → (∀ p ∈ acc, find p.1 t = some p.2) → allF t ks rest = acc ++ rest
  | [], rest, acc, h, _ => by
    have : acc = [] := List.map_eq_nil_iff.mp h
    subst this; rfl
  | w :: ks, rest, acc, h, hp => by
    rw [List.reverse_cons] at h
    obtain ⟨a1, a2, e, e1, e2⟩ := List.map_eq_append_iff.mp h
    subst e
    obtain ⟨p, a3, e3, e4, e5⟩ := List.map_eq_cons_iff.mp e2
    have e6 : a3 = [] := List.map_eq_nil_iff.mp e5
    subst e6 e3
    have hf : find w t = some p.2 := by rw [← e4]; exact hp p (by simp)
    show Option.rec (motive := fun _ => List (W × Q)) (allF t ks rest) (fun q => allF t ks ((w, q) :: rest)) (find w t) = _
    rw [hf]
    show allF t ks ((w, p.2) :: rest) = _
    rw [all_gen t ks _ a1 e1 (fun q m => hp q (by simp [m])), ← e4]
    simp
theorem some_gen (t : T) : ∀ (ks : List W) (rest : List (W × Q)) (acc : List (W × Q)), acc.map (·.1) = ks.reverse → (∀ p ∈ acc, find p.1 t = some p.2) → someF t ks rest = (acc.filter fun p => !isN p.2) ++ rest
  | [], rest, acc, h, _ => by
    have : acc = [] := List.map_eq_nil_iff.mp h
    subst this; rfl
  | w :: ks, rest, acc, h, hp => by
    rw [List.reverse_cons] at h
    obtain ⟨a1, a2, e, e1, e2⟩ := List.map_eq_append_iff.mp h
    subst e
    obtain ⟨p, a3, e3, e4, e5⟩ := List.map_eq_cons_iff.mp e2
    have e6 : a3 = [] := List.map_eq_nil_iff.mp e5
    subst e6 e3
    have hf : find w t = some p.2 := by rw [← e4]; exact hp p (by simp)
    show Option.rec (motive := fun _ => List (W × Q)) (someF t ks rest) (fun q => Bool.rec (motive := fun _ => List (W × Q)) (someF t ks ((w, q) :: rest)) (someF t ks rest) (isNF q)) (find w t) = _
    rw [hf]
    simp only []
    rw [isNF_eq, List.filter_append]
    cases hn : isN p.2 with
    | true =>
      show someF t ks rest = _
      rw [some_gen t ks _ a1 e1 (fun q m => hp q (by simp [m]))]
      simp [hn]
    | false =>
      show someF t ks ((w, p.2) :: rest) = _
      rw [some_gen t ks _ a1 e1 (fun q m => hp q (by simp [m])), ← e4]
      simp [hn]
theorem Sim.mem {acc : List (W × Q)} {t : T} {ks : List W} (s : Sim acc t ks) : ∀ p ∈ acc, find p.1 t = some p.2 := fun p m => by
  rw [← s.lk]
  exact lkQ_of (by rw [s.keys]; exact (List.reverse_perm ks).nodup_iff.mpr s.nd) m
/-- a tree of what stands already: its keys unlike -/
noncomputable def mkT {α : Type} (xs : List (W × Q)) : T → List W → (T → List W → Option α) → Option α := List.rec (motive := fun _ => T → List W → (T → List W → Option α) → Option α) (fun t ks k => k t ks)
  (fun x _ ih t ks k => Prod.rec (motive := fun _ => Option α) (fun w q => Option.rec (motive := fun _ => Option α) (ih (upd w q t) (w :: ks) k) (fun _ => none) (find w t)) x) xs
theorem mk_ok {α : Type} : ∀ {xs : List (W × Q)} {acc : List (W × Q)} {t : T} {ks : List W} {k : T → List W → Option α} {r : α}, Sim acc t ks → mkT xs t ks k = some r → ∃ t' ks', Sim (acc ++ xs) t' ks' ∧ k t' ks' = some r
  | [], acc, t, ks, k, r, s, h => ⟨t, ks, by rw [List.append_nil]; exact s, h⟩
  | (w, q) :: xs, acc, t, ks, k, r, s, h => by
    have h2 : Option.rec (motive := fun _ => Option α) (mkT xs (upd w q t) (w :: ks) k) (fun _ => none) (find w t) = some r := h
    cases hf : find w t with
    | some v => rw [hf] at h2; cases h2
    | none =>
      rw [hf] at h2
      have hh : ¬ hasQ acc w = true := by rw [has_lk, s.lk, hf]; simp
      have s2 := s.new q hf
      have e : putQ acc w q = acc ++ [(w, q)] := by unfold putQ; rw [if_neg hh]
      rw [e] at s2
      obtain ⟨t', ks', s3, z⟩ := mk_ok s2 h2
      exact ⟨t', ks', by rw [List.append_assoc] at s3; exact s3, z⟩
noncomputable def joinF (L : Nat) (xs ys : List (W × Q)) : Option (List (W × Q)) := outF L (wl ys) (wl xs) .lf [] fun t ks => some (someF t ks [])
noncomputable def plusF (num : Q) (xs ys : List (W × Q)) : Option (List (W × Q)) := mkT xs .lf [] fun t ks => addS num (wl ys) t ks fun t ks => some (allF t ks [])
theorem sim0 : Sim [] .lf [] := ⟨rfl, List.nodup_nil, fun w => (find_lf w).symm⟩
theorem joinF_ok {L : Nat} {xs ys r : List (W × Q)} (hx : ∀ p ∈ xs, p.2.2 ≠ 0) (hy : ∀ p ∈ ys, p.2.2 ≠ 0) (h : joinF L xs ys = some r) : ∃ acc, spOut L ys xs [] = some acc ∧ r = (acc.filter fun p => !isN p.2) ∧ (acc.map (·.1)).Nodup := by
  obtain ⟨acc, t, ks, e, s, q⟩ := out_ok hy hx sim0 h
  cases q
  exact ⟨acc, e, by rw [some_gen t ks [] acc s.keys s.mem, List.append_nil], by rw [s.keys]; exact (List.reverse_perm ks).nodup_iff.mpr s.nd⟩
theorem plusF_ok {num : Q} (hm : num.2 ≠ 0) {xs ys r : List (W × Q)} (hy : ∀ p ∈ ys, p.2.2 ≠ 0) (h : plusF num xs ys = some r) : spAdd num ys xs = some r := by
  obtain ⟨t, ks, s, q⟩ := mk_ok sim0 h
  rw [List.nil_append] at s
  obtain ⟨acc, t', ks', e, s', q'⟩ := add_ok hm hy s q
  cases q'
  rw [e, all_gen t' ks' [] acc s'.keys s'.mem, List.append_nil]
end FQ

set_option Elab.async false
set_option maxRecDepth 100000
set_option maxHeartbeats 2000000
namespace EV
open PySem PySem.Spec PyProof.Rows L2
/-! ### dicts whose keys are tuples of ints, whose values are True -/
abbrev TK (P : Program) (w : World) := tupleKind (intKind P w)
def trX (x : List Int × Addr) : List Int × Addr × Value := (x.1, x.2, .bool true)
def hasX (ks : List (List Int)) (k : List Int) : Bool := ks.any fun k' => decide (k' = k)
def putX (es : List (List Int × Addr)) (x : List Int × Addr) : List (List Int × Addr) := if hasX (es.map (·.1)) x.1 = true then es else es ++ [x]
def mergeX (es more : List (List Int × Addr)) : List (List Int × Addr) := more.foldl putX es
section
variable {P : Program} {w : World}
theorem entX_eq (x : List Int × Addr) : entryOfKey (TK P w) (trX x) = entX x := rfl
theorem entX_map (es : List (List Int × Addr)) : (es.map trX).map (entryOfKey (TK P w)) = es.map entX := by
  rw [List.map_map]; rfl
theorem fst_map (es : List (List Int × Addr)) : (es.map trX).map (·.1) = es.map (·.1) := by
  rw [List.map_map]; rfl
theorem ints_are : ∀ {k : List Int} {its : List Value}, Vals (k.map V.int) its → ItemsAre (intKind P w) k its
  | [], _, r => by rw [List.map_nil] at r; cases r; exact .nil
  | i :: k, _, r => by
    rw [List.map_cons] at r
    cases r with
    | cons h t =>
      obtain ⟨tk, rfl⟩ := h
      exact .cons (by show Value.isInt i (.int i tk) = true; simp [Value.isInt]) (ints_are t)
end
section
variable {X : Cx} {pins : List (Addr × Obj)} {σ : L2.St} {H : Hp} {s : Shared} {a : Addr} {es : List (List Int × Addr)}
theorem key_int {k : List Int} {q : Addr} (I : Inv X pins σ H s) (h : SqT X.K H q (k.map V.int)) : (TK X.prog X.w).is s.heap k q := by
  obtain ⟨its, r, p, hz⟩ := I.tuple h
  obtain ⟨o, h1, h2, n, h3⟩ := p
  exact ⟨o, its.toArray, n, h1, h2, h3, by simpa using ints_are r⟩
theorem td_rd (I : Inv X pins σ H s) (e : Rd H a (TDo a es)) : (a == sysModules) = false ∧ es.length ≤ sizeLine ∧ ∃ (o : Obj) (ea : Array DictEntry) (ep : Nat), s.heap.get? a = some o ∧ o.ExactDict ∧ o.data = .dict ea ep ∧ ea.toList = es.map entX ∧ (es.map (·.1)).Nodup := by
  have h := e.ok I.hok
  exact h.1
theorem td_of (I : Inv X pins σ H s) (e : Rd H a (TDo a es)) (hk : ∀ x ∈ es, SqT X.K H x.2 (x.1.map V.int)) : s.heap.DictOfH (TK X.prog X.w) a (es.map trX) := by
  obtain ⟨h1, h2, o, ea, ep, h3, h4, h5, h6, h7⟩ := td_rd I e
  refine ⟨o, ea, ep, h3, h4, h5, by rw [entX_map]; exact h6, fun x hx => ?_, by rw [fst_map]; exact h7⟩
  obtain ⟨y, hy, rfl⟩ := List.mem_map.mp hx
  exact key_int I (hk y hy)
theorem td_ok {P : Program} {w : World} {H' : Hp} {h' : Heap} (hd : (a == sysModules) = false) (hz : es.length ≤ sizeLine) (dd : h'.DictOfH (TK P w) a (es.map trX)) : ObjOk P w H' h' a (TDo a es) := by
  obtain ⟨o, ea, ep, h3, h4, h5, h6, _, h7⟩ := dd
  rw [entX_map] at h6
  rw [fst_map] at h7
  exact ⟨⟨hd, hz, o, ea, ep, h3, h4, h5, h6, h7⟩, ⟨o, h3⟩, fun h1 h2 ⟨z1, z2, o2, ea2, ep2, z3, z4⟩ k => ⟨z1, z2, o2, ea2, ep2, k _ z3, z4⟩⟩
theorem atKey_has (es : List (List Int × Addr)) (k : List Int) : (atKey (es.map trX) k).isSome = hasX (es.map (·.1)) k := by
  induction es with
  | nil => rfl
  | cons x es ih =>
    unfold hasX at ih ⊢
    by_cases h : x.1 = k
    · simp [atKey, trX, h]
    · have h2 : ¬ (trX x).1 = k := h
      rw [List.map_cons, List.map_cons, List.any_cons, ← ih]
      simp [atKey, h, h2]
theorem putX_stored (es : List (List Int × Addr)) (x : List Int × Addr) : storedH (es.map trX) x.1 x.2 (.bool true) = (putX es x).map trX := by
  unfold storedH putX
  rw [atKey_has]
  split
  · rw [List.map_map]
    refine List.map_congr_left fun y _ => ?_
    show putAt x.1 (.bool true) (trX y) = trX y
    unfold putAt
    split
    · rfl
    · rfl
  · rw [List.map_append]; rfl
theorem mergeX_stored : ∀ (more es : List (List Int × Addr)), storedAllH (es.map trX) (more.map trX) = (mergeX es more).map trX
  | [], _ => rfl
  | x :: more, es => by
    show storedAllH (storedH (es.map trX) x.1 x.2 (.bool true)) (more.map trX) = _
    rw [putX_stored]
    exact mergeX_stored more (putX es x)
theorem putX_len (es : List (List Int × Addr)) (x : List Int × Addr) : (putX es x).length ≤ es.length + 1 := by
  unfold putX; split
  · omega
  · rw [List.length_append]; exact Nat.le_refl _
theorem mergeX_len : ∀ (more es : List (List Int × Addr)), (mergeX es more).length ≤ es.length + more.length
  | [], es => Nat.le_refl _
  | x :: more, es => by
    have h1 := mergeX_len more (putX es x)
    have h2 := putX_len es x
    show (mergeX (putX es x) more).length ≤ _
    rw [List.length_cons]; omega
theorem putX_mem {es : List (List Int × Addr)} {x y : List Int × Addr} (h : y ∈ putX es x) : y ∈ es ∨ y = x := by
  unfold putX at h
  split at h
  · exact .inl h
  · rcases List.mem_append.mp h with h | h
    · exact .inl h
    · exact .inr (List.mem_singleton.mp h)
theorem mergeX_mem : ∀ {more es : List (List Int × Addr)} {y : List Int × Addr}, y ∈ mergeX es more → y ∈ es ∨ y ∈ more
  | [], _, _, h => .inl h
  | x :: more, es, y, h => by
    rcases mergeX_mem (more := more) (es := putX es x) h with h | h
    · rcases putX_mem h with h | h
      · exact .inl h
      · exact .inr (h ▸ List.mem_cons_self)
    · exact .inr (List.mem_cons_of_mem _ h)
theorem td_empty {P : Program} {w : World} {H : Hp} (h : Heap) (hb : sysModules < h.objs.size) : ObjOk P w H (h.push { cls := .type "dict", data := .dict #[] }) h.objs.size (TDo h.objs.size []) :=
  td_ok (beq_eq_false_iff_ne.mpr (Ne.symm (Nat.ne_of_lt hb))) (Nat.zero_le _) (Heap.DictOfH.new h)
theorem carriesX : ∀ {es : List (List Int × Addr)} {ws : List (Value × Value)}, (∀ x ∈ es, SqT X.K H x.2 (x.1.map V.int)) → Inv X pins σ H s → VV (es.map fun x => (V.ref x.2, V.bl true)) ws → CarriesH (TK X.prog X.w) s.heap ws (es.map trX)
  | [], _, _, _, r => by rw [List.map_nil] at r; cases r; exact True.intro
  | x :: es, _, hk, I, r => by
    rw [List.map_cons] at r
    cases r with
    | @cons a b as bs h t =>
      obtain ⟨b1, b2⟩ := b
      exact ⟨h.1, h.2, key_int I (hk x List.mem_cons_self), carriesX (fun y m => hk y (List.mem_cons_of_mem _ m)) I t⟩
end
def tDispX (K : PySem.W.Frag) (trs : List (TE × TE)) : TE := fun σ H Q => ∀ p, H p = none → tPairs trs σ (upd H p (TDo p [])) fun ps H2 => H2 p = some (TDo p []) ∧ ∃ es : List (List Int × Addr), ps = es.map (fun x => (V.ref x.2, V.bl true)) ∧ (∀ x ∈ es, SqT K H2 x.2 (x.1.map V.int)) ∧ es.length ≤ 15 ∧ Q (.ref p) (upd H2 p (TDo p (mergeX [] es)))
def tDNewX : TE := fun _ H Q => ∀ p, H p = none → Q (.ref p) (upd H p (TDo p []))
def rUpdX (K : PySem.W.Frag) : V → V → Hp → VK → Prop := fun x y H Q => ∃ (d o : Addr) (es more : List (List Int × Addr)), x = .ref d ∧ y = .ref o ∧ d ≠ o ∧ H d = some (TDo d es) ∧ Rd H o (TDo o more) ∧ (∀ x ∈ es, SqT K H x.2 (x.1.map V.int)) ∧ (∀ x ∈ more, SqT K H x.2 (x.1.map V.int)) ∧
  (es ≠ [] ∨ (more.map fun x => hashT x.1).Nodup) ∧ es.length + more.length ≤ 16000000 ∧ Q .non (upd H d (TDo d (mergeX es more)))
def tUpdX (K : PySem.W.Frag) (td tx : TE) : TE := fun σ H Q => td σ H fun x H1 => (∃ a es, x = .ref a ∧ H1 a = some (TDo a es)) ∧ tx σ H1 fun y H2 => rUpdX K x y H2 Q
section
variable {X : Cx} {pos apos cpos : Pos} {keys : List (Option Expr)} {values : List Expr} {trs : List (TE × TE)}
theorem pe_dnewX : PE X (.Dict [] [] pos) tDNewX := ⟨fun pins s σ H Q I h =>
  wpAny_Dict_empty ⟨.ref s.heap.objs.size, _, I.laid (a := s.heap.objs.size) (o := TDo s.heap.objs.size []) (t' := s.toks) (fun _ _ q => Heap.get?_push_of_some _ q) (Nat.le_refl _) (td_empty s.heap I.big), rfl, h _ (I.hok.fresh (Nat.le_refl _))⟩⟩
theorem pe_dispX (hu : X.A.units < cLine) (h : PPs X pos keys values trs) (hall : keys.all (·.isSome) = true) (hl : keys.length = values.length) (h0 : keys ≠ [])
    (h15 : keys.length ≤ 15) : PE X (.Dict keys values pos) (tDispX X.K trs) := by
  refine ⟨fun pins s σ H Q I q => ?_⟩
  have hn := I.hok.fresh (Nat.le_refl s.heap.objs.size)
  have I1 := I.laid (a := s.heap.objs.size) (o := TDo s.heap.objs.size []) (h' := s.heap.push { cls := .type "dict", data := .dict #[] }) (t' := s.toks) (fun _ _ q => Heap.get?_push_of_some _ q) (Nat.le_refl _) (td_empty s.heap I.big)
  have hnn := pairTrees_length keys values X.env pos hall hl
  have hne : pairTrees keys values X.env pos ≠ [] := fun he => by
    rw [he] at hnn
    exact h0 (List.length_eq_zero_iff.mp hnn.symm)
  rw [arm_eval_Dict, zip_pairTrees keys values X.env pos hall hl, dictDisplay_pairs (pairTrees keys values X.env pos) hne (by omega)]
  refine wpAny_bind (wpAny_standAt (wpAny_bind (wpAny_subDictH (knd := TK X.prog X.w) (Q := fun d s' => wpAny (model X.prog X.w) X.A (pure (Value.ref d)) (EP X pins σ Q) X.xe s') hu (by rw [hnn]; exact h15) ?_)))
  refine thn (h.run pins _ σ _ _ I1 (q _ hn)) fun ws s2 ⟨ps, H2, I2, rel, e, es, ep, hk, lk, q2⟩ => ?_
  subst ep
  have c := carriesX hk I2 rel
  have dd := td_of I2 (.inl e) (fun _ z => nomatch z)
  obtain ⟨hd, _⟩ := td_rd I2 (.inl e)
  refine ⟨es.map trX, c, dd, fun h' tk dx hs => wpAny_pure ⟨.ref s.heap.objs.size, _, ?_, rfl, q2⟩⟩
  have hz : (mergeX [] es).length ≤ sizeLine := by
    have h1 := mergeX_len es []
    rw [List.length_nil] at h1
    rw [sizeLine_eq]; omega
  have he : ∃ q, h'.get? s.heap.objs.size = some q := let ⟨q, _, _, hq, _⟩ := dx; ⟨q, hq⟩
  have e3 := mergeX_stored es []
  rw [List.map_nil] at e3
  rw [e3] at dx
  exact d_write I2 (by rw [e]; exact True.intro) hs he (td_ok hd hz dx)
theorem pe_updX {o x : Expr} {td tx : TE} (hu : X.A.units + 1 < cLine) (ho : PE X o td) (he : PE X x tx) (m : M1 X o "update" apos x cpos) : PE X (.Call (.Attribute o "update" apos) [x] [] cpos) (tUpdX X.K td tx) := by
  refine ⟨fun pins s σ H Q I h => ?_⟩
  refine wpAny_Call_method m.base m.few m.line PySem.F.plainAttrs_dict PySem.F.slot_dict_update PySem.F.type_dict_update (thn (ho.run pins s σ H _ I h) fun u s1 ⟨x, H1, I1, rx, ⟨a, es, ex, ea⟩, q1⟩ => ?_)
  subst ex
  obtain rfl : u = Value.ref a := rx
  obtain ⟨_, _, ob, _, _, t1, t2, _⟩ := td_rd I1 (.inl ea)
  refine ⟨⟨ob, t1, t2.1⟩, fun b q => by cases q; exact ⟨ob, t1, t2.2.1⟩, ?_⟩
  rw [m.trees]
  refine Calls.callWith_builtin rfl (Calls.evalArgs_plain (Calls.spliced_cons (thn (he.run pins s1 σ H1 _ I1 q1) fun iv s2 ⟨y, H2, I2, ry, d, o, es2, more, e1, e2, ne, hd, hm, hk1, hk2, hap, hz, q2⟩ => Calls.spliced_nil ?_)))
  cases e1
  subst e2
  obtain rfl : iv = Value.ref o := ry
  have dd := td_of I2 (.inl hd) hk1
  have dm := td_of I2 hm hk2
  obtain ⟨b1, z1, _⟩ := td_rd I2 (.inl hd)
  obtain ⟨b2, z2, _⟩ := td_rd I2 hm
  refine call_update_dictH (A := X.A) (knd := TK X.prog X.w) (by exact hu) ne b2 dd dm ?_ (by rw [List.length_map, List.length_map, sizeLine_eq]; omega) fun h' dx do' hs => ⟨.non, _, ?_, rfl, q2⟩
  · rcases hap with hap | hap
    · exact .inl fun z => hap (List.map_eq_nil_iff.mp z)
    · refine .inr ⟨fun y hy => ?_, by rw [List.map_map]; exact hap⟩
      obtain ⟨z, hz, rfl⟩ := List.mem_map.mp hy
      exact tupleKind_stays.tuple (key_int I2 (hk2 z hz))
  · rw [mergeX_stored] at dx
    have he : ∃ q, h'.get? a = some q := let ⟨q, _, _, hq, _⟩ := dx; ⟨q, hq⟩
    exact d_write I2 (by rw [hd]; exact True.intro) hs he (td_ok b1 (by have := mergeX_len more es2; rw [sizeLine_eq]; omega) dx)
/-- the keys of the locked dict -/
def ItX (d : Addr) (o : Obj) (es : List (List Int × Addr)) : It :=
  ⟨fun i H => H d = some (.frz o (TDo d es)) ∧ i < es.length, fun i H x H' => H' = H ∧ ∃ p, es[i]? = some p ∧ x = .ref p.2, fun i H => H d = some (.frz o (TDo d es)) ∧ es.length ≤ i⟩
theorem Inv.frzX {pins : List (Addr × Obj)} {σ : L2.St} {H : Hp} {s : Shared} {d : Addr} {o : Obj} {es : List (List Int × Addr)} (I : Inv X pins σ H s) (h : H d = some (.frz o (TDo d es))) :
    (d == sysModules) = false ∧ s.heap.get? d = some o ∧ o.ExactDict ∧ ∃ (ea : Array DictEntry) (ep : Nat), o.data = .dict ea ep ∧ ea.size = es.length ∧ ea.toList = es.map entX := by
  obtain ⟨hd, ⟨hs, z, o', ea, ep, ho, hx, hdt, he, _⟩, _⟩ := I.hok d _ h
  rw [hd] at ho
  cases ho
  exact ⟨hs, hd, hx, ea, ep, hdt, by rw [← Array.length_toList, he, List.length_map], he⟩
theorem turn_keysX {P : Program} {w : World} {K : PySem.W.Frag} {tg : Expr} {d : Addr} {o : Obj} {ea : Array DictEntry} {ep : Nat} {es : List (List Int × Addr)} (it : Addr) (hod : o.data = .dict ea ep) : Turn P w K tg (ItX d o es) [it] it (fun i h => h.IsKeyIter it d i es.length ep) where
  mem := by simp
  obj := fun i h st b hb => by
    have e : b = it := by simpa using hb
    subst e
    obtain ⟨oi, e, c, dd⟩ := st
    exact ⟨oi, e, fun v z => by rw [dd] at z; cases z⟩
  keep := fun i h h' st k => st.at fun oi e => k it (by simp) oi e
  item := by
    intro X hP hw hK hc i pins s σ H E I hf st hg
    subst hP hw hK
    obtain ⟨hd, hi⟩ := hg
    obtain ⟨f0, f1, f2, f3, f4, f5⟩ := hf it (by simp)
    obtain ⟨hs, hgd, hx, ea', ep', hdt, hsz, ent⟩ := Inv.frzX I hd
    obtain ⟨rfl, rfl⟩ := dict_ep hod hdt
    have hp : es[i]? = some es[i] := List.getElem?_eq_getElem hi
    have hen : ea'[i]? = some (entX es[i]) := by rw [← Array.getElem?_toList, ent, List.getElem?_map, hp]; rfl
    refine next_key_item st hgd hdt hsz hen fun h' st' sb => ?_
    have I1 : Inv X pins σ H { s with heap := h' } := I.turned (t' := s.toks) (fun b ob hb e => (sb.2 b hb).trans e) f0 f1 f3 f4 f5
    obtain ⟨oi, e, c, dd⟩ := id st'
    exact ⟨_, rfl, go_of (s := { s with heap := h' }) e c dd (by decide) ⟨.ref es[i].2, H, I1, rfl, ⟨rfl, es[i], hp, rfl⟩, st', fun b hb => (hf b hb).1⟩⟩
  done := by
    intro X hP hw hK hc i pins s σ H E I hf st hg
    subst hP hw hK
    obtain ⟨hd, hi⟩ := hg
    obtain ⟨f0, f1, f2, f3, f4, f5⟩ := hf it (by simp)
    obtain ⟨hs, hgd, hx, ea', ep', hdt, hsz, ent⟩ := Inv.frzX I hd
    obtain ⟨rfl, rfl⟩ := dict_ep hod hdt
    exact next_key_end (I.ok.hd hc) st hgd hdt hsz hi fun h' eb => ⟨rfl, I.turned (t' := s.toks) (fun b ob hb e => eb b ob hb e) f0 f1 f3 f4 f5⟩
  self := fun A i s Q E st h => by
    refine wpAny_pyIter_slot st.typeIs F.slot_dict_keyiterator_iter (wpAny_call_entry F.slot_dict_keyiterator_iter st.typeIs F.entry_dict_keyiterator_iter ?_ (F.args_dict_keyiterator_iter_1 _))
    show wpAny _ _ (ret (.ref it)) _ _ s
    exact wpAny_pure ⟨_, rfl, "dict_keyiterator", _, st.typeIs, F.slot_dict_keyiterator_next.lookup, h⟩
def iKeysX (td : TE) : TI := fun σ H R => td σ H fun x H1 => ∃ d o es, x = .ref d ∧ H1 d = some (.frz o (TDo d es)) ∧ R (ItX d o es) H1
theorem pi_keysX {tg e : Expr} {td : TE} (he : PE X e td) : PI X tg e (iKeysX td) := by
  refine ⟨fun pins s σ H R I h => ?_⟩
  refine thn (he.run pins s σ H _ I h) fun u s1 ⟨x, H1, I1, rx, d, o, es, ex, hd, q⟩ => ?_
  subst ex
  obtain rfl : u = Value.ref d := rx
  obtain ⟨hs, hgd, hx, ea, ep, hdt, hsz, ent⟩ := Inv.frzX I1 hd
  refine L2.iter_keys hs hgd hx hdt (pi_one (tk := s1.toks) I1 _ (turn_keysX _ hdt) ⟨_, Heap.get?_push_size _ rfl, rfl, ?_⟩ q)
  rw [hsz] <;> rfl
end
end EV

set_option Elab.async false
set_option maxRecDepth 100000
set_option maxHeartbeats 2000000
namespace EV
open PySem PySem.Spec PyProof.Rows L2
def putT (ks : List (List Int)) (k : List Int) : List (List Int) := if hasX ks k = true then ks else ks ++ [k]
def mergeT (ks more : List (List Int)) : List (List Int) := more.foldl putT ks
theorem mergeT_ok : ∀ (more es : List (List Int × Addr)), (mergeX es more).map (·.1) = mergeT (es.map (·.1)) (more.map (·.1))
  | [], _ => rfl
  | x :: more, es => by
    show (mergeX (putX es x) more).map (·.1) = mergeT (putT (es.map (·.1)) x.1) (more.map (·.1))
    have e : (putX es x).map (·.1) = putT (es.map (·.1)) x.1 := by
      unfold putX putT
      split
      · rfl
      · rw [List.map_append]; rfl
    rw [← e]
    exact mergeT_ok more (putX es x)
section
variable {K : PySem.W.Frag} {φ φ' : List Addr} {H H' : Hp} {st : Sto} {a p : Addr} {es : List (List Int × Addr)} {ks : List (List Int)} {od : Obj}
theorem dit_co (h : H a = some (TDo a es)) (r : RTs K H ks es) : COat K φ H a (.dit false ks) := ⟨es, by rw [if_neg Bool.false_ne_true]; exact h, r⟩
theorem dit_at {i : Nat} (g : Good K φ H st) (h : st[i]? = some (.dit false ks)) (ha : φ[i]? = some a) : ∃ es, H a = some (TDo a es) ∧ RTs K H ks es := by
  obtain ⟨kus, h1, h2⟩ := g.at_ i _ a h ha
  rw [if_neg Bool.false_ne_true] at h1
  exact ⟨kus, h1, h2⟩
theorem RTs.merge {es more : List (List Int × Addr)} {ks ms : List (List Int)} (r : RTs K H ks es) (q : RTs K H ms more) : RTs K H (mergeT ks ms) (mergeX es more) :=
  ⟨by rw [mergeT_ok, r.1, q.1], fun x m => (mergeX_mem m).elim (r.2 x) (q.2 x)⟩
theorem Frs.newdit (g : Good K φ H st) (hp : H p = none) (r : RTs K H ks es) : Ext φ φ H (upd H p (TDo p es)) ∧ Good K φ (upd H p (TDo p es)) st ∧ RD K φ (upd H p (TDo p es)) (.dit ks) (.ref p) ∧ Frs K H φ (upd H p (TDo p es)) st (.dit ks) (.ref p) := by
  have x := ext_new (φ := φ) (o := TDo p es) hp
  have r' := r.keep x g.notup
  have np := g.notin hp
  have x0 : Ext φ (φ ++ [p]) H (upd H p (TDo p es)) := ⟨⟨List.prefix_append _ _, fun b m nm => by
      rcases List.mem_append.mp m with m | m
      · exact absurd m nm
      · rw [List.mem_singleton.mp m]; exact hp, x.keep, x.keepL, x.dom⟩, x.keepK, x.keepT, x.keepF⟩
  exact ⟨x, g.new hp, .dit (.inl upd_same) np r', p, _, rfl, hp, rfl, g.push hp x0 (dit_co upd_same (r.keep x0 g.notup)) fun a m => upd_ne fun w => np (w ▸ m)⟩
theorem new_dit (gd : Good K φ H st) (hD : H p = none) : Ext φ (φ ++ [p]) H (upd H p (TDo p [])) ∧ Good K (φ ++ [p]) (upd H p (TDo p [])) (st ++ [.dit false []]) := by
  have x := ext_new (φ := φ) (o := TDo p []) hD
  have np := gd.notin hD
  have x0 : Ext φ (φ ++ [p]) H (upd H p (TDo p [])) := ⟨⟨List.prefix_append _ _, fun b m nm => by
      rcases List.mem_append.mp m with m | m
      · exact absurd m nm
      · rw [List.mem_singleton.mp m]; exact hD, x.keep, x.keepL, x.dom⟩, x.keepK, x.keepT, x.keepF⟩
  exact ⟨x0, gd.push hD x0 (dit_co upd_same ⟨rfl, fun _ z => nomatch z⟩) fun a m => upd_ne fun w => np (w ▸ m)⟩
end
/-- {}, to hold tuples -/
def fDisp0X : FE := fun _ st => .ok (.dit []) true st
def intOf : D → Option Int
  | .int i => some i
  | _ => none
def intKey : List D → Option (List Int)
  | [] => some []
  | .int i :: r => (match intKey r with
    | some k => some (i :: k)
    | none => none)
  | _ => none
def runX : List FE → Fr → Sto → Option (List (List Int) × Sto)
  | [], _, st => some ([], st)
  | fk :: r, e, st => match fk e st with
    | .ok (.tup ds) _ st1 => (match intKey ds, runX r e st1 with
      | some k, some (ks, st3) => some (k :: ks, st3)
      | _, _ => none)
    | _ => none
def fDispX (ps : List FE) : FE := fun e st => match runX ps e (st ++ [.dit false []]) with
  | some (ks, st2) => (match st2[st.length]? with
    | some (.dit false []) => if st2.length = st.length + 1 ∧ ks.length ≤ 15 then .ok (.dit (mergeT [] ks)) true (st2.take st.length) else .stuck
    | _ => .stuck)
  | none => .stuck
section
variable {X : Cx} {XA : XAT} {E : L2.St → XK}
theorem e_disp0X {pos : Pos} : PE X (.Dict [] [] pos) (lift X.K XA E fDisp0X) := by
  refine PE.weak pe_dnewX ?_
  rintro σ H Q ⟨e, st, φ, n, q⟩
  intro p hp
  obtain ⟨x, g, r, f⟩ := Frs.newdit (K := X.K) (ks := []) (es := []) n.good hp ⟨rfl, fun _ z => nomatch z⟩
  exact q _ _ _ x g r fun _ => f
theorem intKey_ok {K : PySem.W.Frag} {φ : List Addr} {H : Hp} : ∀ {ds : List D} {vs : List V} {k : List Int}, RDs K φ H ds vs → intKey ds = some k → vs = k.map V.int
  | [], _, _, .nil, h => by cases h; rfl
  | .int i :: r, _, k, .cons h1 h2, h => by
    unfold intKey at h
    cases hr : intKey r with
    | none => rw [hr] at h; cases h
    | some k2 =>
      rw [hr] at h
      cases h
      cases h1
      rw [intKey_ok h2 hr]; rfl
  | .non :: _, _, _, _, h => by cases h
  | .bl _ :: _, _, _, _, h => by cases h
  | .str _ :: _, _, _, _, h => by cases h
  | .tup _ :: _, _, _, _, h => by cases h
  | .lst _ :: _, _, _, _, h => by cases h
  | .dic _ :: _, _, _, _, h => by cases h
  | .dit _ :: _, _, _, _, h => by cases h
  | .cell _ :: _, _, _, _, h => by cases h
  | .scr _ :: _, _, _, _, h => by cases h
theorem run_pairsX {K : PySem.W.Frag} {σ : L2.St} {e : Fr} : ∀ (ps : List FE) {φ : List Addr} {H : Hp} {st st2 : Sto} {ks : List (List Int)} {Q : List (V × V) → Hp → Prop}, Now K φ H σ e st → runX ps e st = some (ks, st2) →
    (∀ φ' H' es, Ext φ φ' H H' → Good K φ' H' st2 → RTs K H' ks es → Q (es.map fun x => (V.ref x.2, V.bl true)) H') → tPairs (liftP K XA E (ps.map fun f => (f, fC (.bl true)))) σ H Q
  | [], φ, H, st, st2, kvs, Q, n, h, q => by
    cases h
    exact q φ H [] (Ext.refl _ _) n.good ⟨rfl, fun _ z => nomatch z⟩
  | fk :: r, φ, H, st, st2, ks, Q, n, h, q => by
    unfold runX at h
    refine ⟨e, st, φ, n, ?_⟩
    show RQ K XA φ H (E σ) _ (fk e st)
    cases hk : fk e st with
    | stuck => rw [hk] at h; cases h
    | exc c d s => rw [hk] at h; cases h
    | ok y fy st1 =>
      rw [hk] at h
      intro φ1 H1 v1 x1 g1 r1 _
      have n1 := n.keep x1 g1
      refine ⟨e, st1, φ1, n1, ?_⟩
      show RQ K XA φ1 H1 (E σ) _ (R.ok (.bl true) false st1)
      intro φ2 H2 v2 x2 g2 r2 _
      have n2 := n1.keep x2 g2
      cases r2
      cases y with
      | tup ds =>
        simp only [] at h
        split at h
        · rename_i k ks2 st4 e1 e3
          cases h
          refine run_pairsX r n2 e3 fun φ3 H3 es x3 g3 r3 => ?_
          have r1' := (r1.keep x2 g1.notup).keep x3 g2.notup
          cases r1' with
          | @tup _ a vs hs rs _ =>
            have ev := intKey_ok rs e1
            subst ev
            exact q φ3 H3 ((k, a) :: es) (x1.trans (x2.trans x3)) g3 ⟨by rw [List.map_cons, r3.1], fun y m => (List.mem_cons.mp m).elim (fun z => by subst z; exact hs) (r3.2 y)⟩
        · cases h
      | _ => cases h
theorem e_dispX {pos : Pos} {keys : List (Option Expr)} {values : List Expr} {ps : List FE} (hu : X.A.units < cLine) (h : PPs X pos keys values (liftP X.K XA E (ps.map fun f => (f, fC (.bl true))))) (hall : keys.all (·.isSome) = true) (hl : keys.length = values.length) (h0 : keys ≠ []) (h15 : keys.length ≤ 15) : PE X (.Dict keys values pos) (lift X.K XA E (fDispX ps)) := by
  refine PE.weak (pe_dispX hu h hall hl h0 h15) ?_
  rintro σ H Q ⟨e, st, φ, n, q⟩
  intro p hp
  unfold fDispX at q
  obtain ⟨x0, g0⟩ := new_dit n.good hp
  have hn : (φ ++ [p])[st.length]? = some p := by rw [← n.good.len, List.getElem?_concat_length]
  cases hr : runX ps e (st ++ [.dit false []]) with
  | none => rw [hr] at q; exact q.elim
  | some pr =>
    obtain ⟨ks, st2⟩ := pr
    rw [hr] at q
    simp only [] at q
    split at q
    · rename_i hc
      split at q
      · rename_i hh
        have n0 : Now X.K (φ ++ [p]) (upd H p (TDo p [])) σ e (st ++ [.dit false []]) := ⟨n.rel.keep x0 n.good.notup, g0, by rw [List.length_append]; exact Nat.le_trans n.base (Nat.le_add_right _ _)⟩
        refine run_pairsX ps n0 hr fun φ' H' es x g r => ?_
        have e1 : φ' = φ ++ [p] := len1 x.pre (by rw [g.len, hh.1, List.length_append, n.good.len]; rfl)
        subst e1
        obtain ⟨es0, w1, w2⟩ := dit_at g hc hn
        have e0 : es0 = [] := List.map_eq_nil_iff.mp w2.1
        subst e0
        have le : es.length ≤ 15 := by rw [← r.1, List.length_map] at hh; exact hh.2
        refine ⟨w1, es, rfl, r.2, le, ?_⟩
        have m : p ∈ φ ++ [p] := List.mem_append_right _ (List.mem_singleton.mpr rfl)
        have x5 : Ext (φ ++ [p]) (φ ++ [p]) H' (upd H' p (TDo p (mergeX [] es))) := ext_upd m w1 fun _ _ z => by cases z
        have rr : RTs X.K H' (mergeT [] ks) (mergeX [] es) := RTs.merge (es := []) (ks := []) ⟨rfl, fun _ z => nomatch z⟩ r
        have rr5 := rr.keep x5 g.notup
        have g5 := g.setc (c := .dit false (mergeT [] ks)) hn x5 (fun b _ nb => upd_ne nb) (dit_co upd_same rr5)
        have xx := (x0.trans x).trans x5
        have xf : Ext φ φ H (upd H' p (TDo p (mergeX [] es))) := ⟨⟨List.prefix_refl _, fun b m nm => absurd m nm, xx.keep, xx.keepL, xx.dom⟩, xx.keepK, xx.keepT, xx.keepF⟩
        have gf : Good X.K φ (upd H' p (TDo p (mergeX [] es))) (st2.take st.length) := by
          have z := g5.first
          rw [n.good.len, List.take_set_of_le (Nat.le_refl _)] at z
          exact z
        have dn : p ∉ φ := n.good.notin hp
        refine q φ _ (.ref p) xf gf (.dit (.inl upd_same) dn rr5) fun _ => ⟨p, _, rfl, hp, rfl, ?_⟩
        have es2 : st2.set st.length (.dit false (mergeT [] ks)) = st2.take st.length ++ [.dit false (mergeT [] ks)] := by
          have l2 : st2.length = st.length + 1 := hh.1
          rw [List.set_eq_take_append_cons_drop, if_pos (by omega), List.drop_of_length_le (by omega)]
        rw [← es2]
        exact g5
      · exact q.elim
    · exact q.elim
/-- o.update({..}): o a cell -/
def fUpdX (fo fx : FE) : FE := fBind fo fun d => fun e st => match d with
  | .cell i => (match st[i]? with
    | some (.dit false _) => (match fx e st with
      | .ok (.dit ms) _ st2 => (match st2[i]? with
        | some (.dit false ks) => if (ks ≠ [] ∨ (ms.map hashT).Nodup) ∧ ks.length + ms.length ≤ 16000000 then .ok .non false (st2.set i (.dit false (mergeT ks ms))) else .stuck
        | _ => .stuck)
      | .exc c d st2 => .exc c d st2
      | _ => .stuck)
    | _ => .stuck)
  | _ => .stuck
theorem e_updX {o x : Expr} {apos cpos : Pos} {fo fx : FE} (hu : X.A.units + 1 < cLine) (ho : PE X o (lift X.K XA E fo)) (he : PE X x (lift X.K XA E fx)) (m : M1 X o "update" apos x cpos) : PE X (.Call (.Attribute o "update" apos) [x] [] cpos) (lift X.K XA E (fUpdX fo fx)) := by
  refine PE.weak (pe_updX hu ho he m) ?_
  rintro σ H Q ⟨e, st, φ, n, q⟩
  refine RQ.bind n q fun d fx1 φ1 H1 st1 v1 ef x1 n1 r1 q1 => ?_
  cases d with
  | cell i =>
    cases r1 with
    | @cell _ a ha =>
      simp only [] at q1
      split at q1
      · rename_i ks0 hs
        obtain ⟨es0, w1, w2⟩ := dit_at n1.good hs ha
        refine ⟨⟨a, es0, rfl, w1⟩, e, st1, φ1, n1, ?_⟩
        cases hf : fx e st1 with
        | stuck => rw [hf] at q1; exact q1.elim
        | exc c d st2 => rw [hf] at q1; exact q1
        | ok y fy st2 =>
          rw [hf] at q1
          intro φ2 H2 v2 x2 g2 r2 _
          cases y with
          | dit ms =>
            simp only [] at q1
            split at q1
            · rename_i ks hs2
              split at q1
              · rename_i hc
                cases r2 with
                | @dit _ o more hr no rt =>
                  have ha2 : φ2[i]? = some a := by
                    obtain ⟨t, rfl⟩ := x2.pre
                    rw [List.getElem?_append_left (List.getElem?_eq_some_iff.mp ha).1]
                    exact ha
                  have ma : a ∈ φ2 := List.mem_of_getElem? ha2
                  obtain ⟨es, v1, v2⟩ := dit_at g2 hs2 ha2
                  have ne : a ≠ o := fun z => no (z ▸ ma)
                  have x5 : Ext φ2 φ2 H2 (upd H2 a (TDo a (mergeX es more))) := ext_upd ma v1 fun _ _ z => by cases z
                  have g5 := g2.setc (c := .dit false (mergeT ks ms)) ha2 x5 (fun b _ nb => upd_ne nb) (dit_co upd_same ((v2.merge rt).keep x5 g2.notup))
                  refine ⟨a, o, es, more, rfl, rfl, ne, v1, hr, v2.2, rt.2, ?_, ?_, q1 φ2 _ _ (x2.trans x5) g5 .non fun z => by cases z⟩
                  · rcases hc.1 with h | h
                    · exact .inl fun z => h (by rw [← v2.1, z]; rfl)
                    · refine .inr ?_
                      rw [← rt.1, List.map_map] at h
                      exact h
                  · have h := hc.2
                    rw [← v2.1, ← rt.1, List.length_map, List.length_map] at h
                    exact h
              · exact q1.elim
            · exact q1.elim
          | _ => exact q1.elim
      · exact q1.elim
  | _ => exact q1.elim
end
end EV

set_option Elab.async false
set_option maxRecDepth 100000
set_option maxHeartbeats 2000000
namespace EV
open PySem PySem.Spec PyProof.Rows L2
section
variable {K : PySem.W.Frag} {φ φ' : List Addr} {H H' : Hp} {st : Sto} {a : Addr} {es : List (List Int × Addr)} {od : Obj}
theorem ext0_lockX (h : H a = some (TDo a es)) : Ext0 φ φ H (upd H a (.frz od (TDo a es))) := by
  refine ⟨List.prefix_refl _, fun b m n => absurd m n, fun b w z r n => ?_, fun b w r n => ?_, fun b r => ?_⟩
  · by_cases e : b = a
    · subst e
      rcases r with r | ⟨o, r⟩
      · rw [h] at r; cases r; exact .inr ⟨od, upd_same⟩
      · rw [h] at r; cases r
    · exact rd_same (upd_ne e) r
  · have e : b ≠ a := fun e => by rw [e, h] at r; cases r
    rw [upd_ne e]; exact r
  · by_cases e : b = a
    · subst e; rw [upd_same] at r; cases r
    · rw [upd_ne e] at r; exact r
theorem ext0_unlockX (h : H a = some (.frz od (TDo a es))) : Ext0 φ φ H (upd H a (TDo a es)) := by
  refine ⟨List.prefix_refl _, fun b m n => absurd m n, fun b w z r n => ?_, fun b w r n => ?_, fun b r => ?_⟩
  · by_cases e : b = a
    · subst e
      rcases r with r | ⟨o, r⟩
      · rw [h] at r; cases r; exact z.elim
      · rw [h] at r; cases r; exact .inl upd_same
    · exact rd_same (upd_ne e) r
  · have e : b ≠ a := fun e => by rw [e, h] at r; cases r
    rw [upd_ne e]; exact r
  · by_cases e : b = a
    · subst e; rw [upd_same] at r; cases r
    · rw [upd_ne e] at r; exact r
theorem ext_lockedX (h : H a = some (TDo a es)) (x : Ext φ φ' (upd H a (.frz od (TDo a es))) H') : Ext φ φ' H (upd H' a (TDo a es)) := by
  have hl : H' a = some (.frz od (TDo a es)) := x.keepF a od _ upd_same
  have ne : ∀ b, b ≠ a → upd H a (.frz od (TDo a es)) b = H b := fun b e => upd_ne e
  refine ⟨⟨x.pre, fun b m n => ?_, fun b w z r n => ?_, fun b w r n => ?_, fun b r => ?_⟩, fun b w r n => ?_, fun b w r n => ?_, fun b o w r => ?_⟩
  · have := x.new b m n
    by_cases e : b = a
    · subst e; rw [upd_same] at this; cases this
    · rw [ne b e] at this; exact this
  · by_cases e : b = a
    · subst e
      rcases r with r | ⟨o, r⟩
      · rw [h] at r; cases r; exact .inl upd_same
      · rw [h] at r; cases r
    · exact rd_same (upd_ne e) (x.keep b w z (rd_same (ne b e) r) n)
  · have e : b ≠ a := fun e => by rw [e, h] at r; cases r
    rw [upd_ne e]
    exact x.keepL b w (by rw [ne b e]; exact r) n
  · by_cases e : b = a
    · subst e; rw [upd_same] at r; cases r
    · rw [upd_ne e] at r
      have := x.dom b r
      rw [ne b e] at this; exact this
  · have e : b ≠ a := fun e => by rw [e, h] at r; cases r
    rw [upd_ne e]
    exact x.keepK b w (by rw [ne b e]; exact r) n
  · have e : b ≠ a := fun e => by rw [e, h] at r; cases r
    rw [upd_ne e]
    exact x.keepT b w (by rw [ne b e]; exact r) n
  · have e : b ≠ a := fun e => by rw [e, h] at r; cases r
    rw [upd_ne e]
    exact x.keepF b o w (by rw [ne b e]; exact r)
def tupOf (k : List Int) : D := .tup (k.map D.int)
theorem rds_intsX : ∀ (k : List Int), RDs K φ H (k.map D.int) (k.map V.int)
  | [] => .nil
  | i :: k => .cons (.int i) (rds_intsX k)
theorem ints_isP : ∀ (k : List Int), (k.map D.int).all isP = true
  | [] => rfl
  | i :: k => by rw [List.map_cons, List.all_cons, ints_isP k]; rfl
theorem iter_keysX {ks : List (List Int)} (h : H a = some (.frz od (TDo a es))) (r : RTs K H ks es) (nt : NoTup φ H) : IterP K (ItX a od es) (ks.map tupOf) φ H := by
  intro φ' H' st' x g
  have h' := x.keepF a od _ h
  have r' := r.keep x nt
  have l : ks.length = es.length := by rw [← r.1, List.length_map]
  refine ⟨fun i d hd => ?_, h', by rw [List.length_map, l]; exact Nat.le_refl _⟩
  rw [List.getElem?_map] at hd
  cases hp : ks[i]? with
  | none => rw [hp] at hd; cases hd
  | some k =>
    rw [hp] at hd
    cases hd
    have hi : i < es.length := by rw [← l]; exact (List.getElem?_eq_some_iff.mp hp).1
    have he : es[i]? = some es[i] := List.getElem?_eq_getElem hi
    have hk : es[i].1 = k := by
      rw [← r.1, List.getElem?_map, he] at hp
      exact Option.some.inj hp
    refine ⟨⟨h', hi⟩, fun y H'' z => ?_⟩
    obtain ⟨rfl, p, e2, rfl⟩ := z
    rw [he] at e2
    cases e2
    refine ⟨Ext.refl _ _, g, ?_⟩
    have q := r'.2 es[i] (List.getElem_mem hi)
    rw [hk] at q
    exact .tup q (rds_intsX k) (ints_isP k)
end
def lkOutX (i : Nat) (st : Sto) : Option Sto := match st[i]? with
  | some (.dit true ks) => some (st.set i (.dit false ks))
  | _ => none
def lkSX (i : Nat) : RS → RS
  | .nxt s st => (match lkOutX i st with
    | some st' => .nxt s st'
    | none => .stuck)
  | _ => .stuck
def fForX (j : Nat) (g : FG) (f : FS) : FS := fun e st => match e.s[j]? with
  | some (some (.cell i)) => (match st[i]? with
    | some (.dit false ks) => lkSX i (forL g f (ks.map tupOf) e (st.set i (.dit true ks)))
    | _ => .stuck)
  | _ => .stuck
section
variable {X : Cx} {XA : XAT} {E : L2.St → XK} {j : Nat} {tg e0 : Expr}
theorem s_forX {body : List Stmt} {g : FG} {f : FS} {sl : List Nat} {pos : Pos} (hp : PassesOwn (model X.prog X.w) X.A X.env X.xe) (hc : X.calm = true) (he : PE X e0 (tVar j)) (hg : GL X tg g sl) (hb : PSs X body (liftS X.K XA E f))
    (hs : ∀ x, foldedSetIterable e0 X.env x = pure x := by intro _; rfl) : PS X (.For tg e0 body [] pos) (liftS X.K XA E (fForX j g f)) := by
  obtain ⟨t, p, z⟩ := hg.ex
  refine PS.weak (ps_lock (ps_for (pos := pos) hp hc (pi_keysX he) p hb hs)) ?_
  rintro D σ H ⟨e, st, φ, n, q⟩
  unfold fForX at q
  split at q
  · rename_i i hd
    obtain ⟨v, hv, rv⟩ := n.rel.at_ j _ hd
    cases rv with
    | @cell _ a ha =>
      split at q
      · rename_i ks hk
        obtain ⟨es, h1, h2⟩ := dit_at n.good hk ha
        have hi : i < st.length := (List.getElem?_eq_some_iff.mp hk).1
        refine ⟨a, TDo a es, h1, trivial, fun od => ?_⟩
        have x0 : Ext0 φ φ H (upd H a (.frz od (TDo a es))) := ext0_lockX h1
        have g1 : Good X.K φ (upd H a (.frz od (TDo a es))) (st.set i (.dit true ks)) := by
          refine n.good.set0 (a := a) x0 (fun b m e => upd_ne e) (by rw [List.length_set]) (fun j b hj e => ?_) fun j c hj hc => ?_
          · rw [List.getElem?_set_ne fun z => e ?_]
            subst z
            rw [ha] at hj; cases hj; rfl
          · have ej : j = i := (List.getElem?_inj (List.getElem?_eq_some_iff.mp hj).1 n.good.nd).mp (hj.trans ha.symm)
            subst ej
            rw [List.getElem?_set_self hi] at hc
            cases hc
            exact ⟨es, by rw [if_pos rfl]; exact ⟨od, upd_same⟩, h2.keep0 x0 n.good.notup⟩
        have n1 : Now X.K φ (upd H a (.frz od (TDo a es))) σ e (st.set i (.dit true ks)) := ⟨n.rel.keep0 x0 n.good.notup, g1, by rw [List.length_set]; exact n.base⟩
        have q1 : RQS X.K XA φ (upd H a (.frz od (TDo a es))) E ⟨fun σ' H' => H' a = some (.frz od (TDo a es)) ∧ D.nx σ' (upd H' a (TDo a es)), fun v H' => H' a = some (.frz od (TDo a es)) ∧ D.rt v (upd H' a (TDo a es)), fun σ' H' => H' a = some (.frz od (TDo a es)) ∧ D.bk σ' (upd H' a (TDo a es)), fun σ' H' => H' a = some (.frz od (TDo a es)) ∧ D.ct σ' (upd H' a (TDo a es))⟩ (forL g f (ks.map tupOf) e (st.set i (.dit true ks))) := by
          generalize forL g f (ks.map tupOf) e (st.set i (.dit true ks)) = r at q
          cases r with
          | nxt s st2 =>
            intro φ' H' σ' x2 g2 r2
            have hl : H' a = some (.frz od (TDo a es)) := x2.keepF a od _ upd_same
            have ha' : φ'[i]? = some a := by
              obtain ⟨t, rfl⟩ := x2.pre
              rw [List.getElem?_append_left (List.getElem?_eq_some_iff.mp ha).1]
              exact ha
            unfold lkSX lkOutX at q
            simp only [] at q
            split at q
            · rename_i _ st3 e1
              split at e1
              · rename_i ks2 e2
                cases e1
                obtain ⟨es2, h3, h4⟩ := g2.at_ i _ a e2 ha'
                rw [if_pos rfl] at h3
                obtain ⟨od2, h3⟩ := h3
                have hi2 : i < st2.length := (List.getElem?_eq_some_iff.mp e2).1
                have et : TDo a es = TDo a es2 := by
                  rw [hl] at h3
                  injection h3 with h3
                  injection h3
                have x5 : Ext0 φ' φ' H' (upd H' a (TDo a es)) := ext0_unlockX hl
                have g3 : Good X.K φ' (upd H' a (TDo a es)) (st2.set i (.dit false ks2)) := by
                  refine g2.set0 (a := a) x5 (fun b m e => upd_ne e) (by rw [List.length_set]) (fun j b hj e => ?_) fun j c hj hc => ?_
                  · rw [List.getElem?_set_ne fun z => e ?_]
                    subst z
                    rw [ha'] at hj; cases hj; rfl
                  · have ej : j = i := (List.getElem?_inj (List.getElem?_eq_some_iff.mp hj).1 g2.nd).mp (hj.trans ha'.symm)
                    subst ej
                    rw [List.getElem?_set_self hi2] at hc
                    cases hc
                    exact ⟨es2, by rw [if_neg Bool.false_ne_true, upd_same, et], h4.keep0 x5 g2.notup⟩
                exact ⟨hl, q φ' _ σ' (ext_lockedX h1 x2) g3 (r2.keep0 x5 g2.notup)⟩
              · cases e1
            · exact q.elim
          | _ => exact q.elim
        exact ⟨_, hv, a, od, es, rfl, upd_same, for_core z n1 (iter_keysX upd_same (h2.keep0 x0 n.good.notup) g1.notup) q1⟩
      · exact q.elim
  · exact q.elim
end
end EV

set_option Elab.async false
set_option maxRecDepth 100000
set_option maxHeartbeats 2000000
namespace EV
open PySem PySem.Spec PyProof.Rows L2
/-! ### a tuple that surely has no dict of its own; dict(t) -/
def ExT (K : PySem.W.Frag) (φ : List Addr) (H : Hp) (d : D) (v : V) : Prop := ∃ (a : Addr) (o : Obj) (vs : List V) (ds : List D), d = .tup ds ∧ v = .ref a ∧ H a = some (.frz o (.tup vs)) ∧ o.dict = none ∧ RDs K φ H ds vs ∧ ds.all isP = true
def PairV (K : PySem.W.Frag) (H : Hp) (y : Addr) (p : Key × V) : Prop := SqT K H y [kV p.1, p.2]
def rTupEx (K : PySem.W.Frag) : List V → Hp → VK → Prop := fun xs H Q => ∃ p ys, xs = [.ref p] ∧ SqL K H p ys ∧ ∀ (l : Addr) (o : Obj), H l = none → o.dict = none → Q (.ref l) (upd H l (.frz o (.tup ys)))
def rDictEx (K : PySem.W.Frag) : List V → Hp → VK → Prop := fun xs H Q => ∃ (a : Addr) (o : Obj) (ys : List Addr) (kvs : List (Key × V)), xs = [.ref a] ∧ H a = some (.frz o (.tup (ys.map V.ref))) ∧ o.dict = none ∧ Paired (PairV K H) ys kvs ∧ ∀ p, H p = none → Q (.ref p) (upd H p (.dK (mergeK [] kvs)))
section
variable {X : Cx}
theorem call_tuple_ex : CallR X (.type "tuple") (rTupEx X.K) := by
  intro pins s σ H xs us Q I r h
  obtain ⟨p, ys, rfl, hq, q⟩ := h
  obtain ⟨u, rfl, rx⟩ := vals1 r
  cases rx
  obtain ⟨its, r', pl, hz⟩ := I.list hq
  have hlen := r'.length
  refine call_tuple_list pl.isList (fun h' kp => ?_) (by simp only [List.size_toArray] <;> omega)
  have I1 : Inv X pins σ H { s with heap := h' } := I.kept (t' := s.toks) kp
  have I2 : Inv X pins σ (upd H h'.objs.size (.frz { cls := .type "tuple", data := .seq its.toArray } (.tup ys))) { s with heap := h'.push { cls := .type "tuple", data := .seq its.toArray } } :=
    I1.laid (t' := s.toks) (fun b o e => Heap.get?_push_of_some _ e) (Nat.le_refl _) (show ObjOk X.prog X.w _ _ _ (.frz _ (.tup ys)) from ⟨Heap.get?_push_size _ rfl, hz, its, r', IsTup.new _ _⟩)
  exact ⟨.ref h'.objs.size, _, I2, rfl, q _ _ (I1.hok.fresh (Nat.le_refl _)) rfl⟩
theorem pairsV_of {pins : List (Addr × Obj)} {σ : L2.St} {H : Hp} {s : Shared} (I : Inv X pins σ H s) : ∀ {ys : List Addr} {kvs : List (Key × V)}, Paired (PairV X.K H) ys kvs →
    ∃ (ps : List (Value × Value)) (rs : List (Key × Value)), ps.length = ys.length ∧ rs.length = ys.length ∧ KV kvs rs ∧
      (∀ (j : Nat) (k v : Value), ps[j]? = some (k, v) → ∃ (y : Addr) (kk : Key), ys[j]? = some y ∧ PairAt s.heap y k v ∧ rs[j]? = some (kk, v) ∧ (mixKind X.prog X.w).is kk k = true)
  | _, _, .nil => ⟨[], [], rfl, rfl, .nil, fun j k v e => by simp at e⟩
  | _, _, .cons (a := y) (b := p) h t => by
    obtain ⟨ps, rs, l1, l2, kv, q⟩ := pairsV_of I t
    obtain ⟨its, r, ⟨o, h1, h2, n, h3⟩, hz⟩ := I.tuple h
    obtain ⟨u, w, rfl, ru, rw'⟩ := vals2 r
    refine ⟨(u, w) :: ps, (p.1, w) :: rs, by rw [List.length_cons, List.length_cons, l1], by rw [List.length_cons, List.length_cons, l2], .cons ⟨rfl, rw'⟩ kv, fun j k v e => ?_⟩
    cases j with
    | zero =>
      cases e
      exact ⟨y, p.1, rfl, .inl ⟨o, h1, h2, n, h3⟩, rfl, kV_is ru⟩
    | succ j => exact q j k v e
theorem call_dict_ex (hc : X.calm = true) : CallR X (.type "dict") (rDictEx X.K) := by
  intro pins s σ H xs us Q I r h
  obtain ⟨a, o, ys, kvs, rfl, hq, ho, hp, q⟩ := h
  obtain ⟨u, rfl, rx⟩ := vals1 r
  cases rx
  obtain ⟨h1, hz, its, rv, ⟨o2, e2, hcl, n, hdat⟩⟩ := I.hok a _ hq
  rw [h1] at e2
  cases e2
  obtain ⟨ps, rs, l1, l2, kv, pq⟩ := pairsV_of I hp
  have li : its.length = ys.length := by rw [← rv.length, List.length_map]
  have hit : ∀ (j : Nat) (y : Addr), ys[j]? = some y → its[j]? = some (.ref y) := fun j y e => by
    obtain ⟨w, e3, r3⟩ := rv.get (i := j) (x := .ref y) (by rw [List.getElem?_map, e]; rfl)
    cases r3
    exact e3
  have lz : ys.length ≤ sizeLine := by rw [List.length_map] at hz; exact hz
  have lk : kvs.length = ys.length := (Paired.length hp).symm
  refine call_dict_pairs (knd := mixKind X.prog X.w) (kvs := rs) (PairArg.tuple a its.toArray (fun j => (ys[j]?).getD 0) ps) (I.ok.hd hc) ⟨⟨o, n, h1, hcl, ho, hdat⟩, by rw [List.size_toArray, li, l1], fun j k v e => ?_⟩ ⟨by rw [l2, l1], fun i key v e => ?_⟩ (by omega) fun h' tk dd hk => ?_
  · obtain ⟨y, kk, e1, e3, _⟩ := pq j k v e
    have e6 : (ys[j]?).getD 0 = y := by rw [e1]; rfl
    show its.toArray[j]? = some (Value.ref ((ys[j]?).getD 0)) ∧ PairAt s.heap ((ys[j]?).getD 0) k v
    rw [e6]
    exact ⟨by rw [List.getElem?_toArray]; exact hit j y e1, e3⟩
  · obtain ⟨y, kk, _, _, e4, e5⟩ := pq i key v e
    exact ⟨kk, e4, e5⟩
  · have hz2 : (mergeK [] kvs).length ≤ sizeLine := by
      have h3 := length_mergeK kvs []
      rw [List.length_nil] at h3
      omega
    exact ⟨.ref s.heap.objs.size, _, I.laid (t' := tk) (fun b ob e => hk b ob (by simp) e) (Nat.le_refl _) (dk_new hz2 (beq_eq_false_iff_ne.mpr (Ne.symm (Nat.ne_of_lt I.big))) (kv.merge .nil) dd), rfl, q _ (I.hok.fresh (Nat.le_refl _))⟩
end
/-! ### what ends in such a tuple -/
section
variable (K : PySem.W.Frag) (XA : XAT)
def RQX (φ : List Addr) (H : Hp) (E : XK) (Q : VK) : R → Prop
  | .ok d _ st' => ∀ φ' H' v, Ext φ φ' H H' → Good K φ' H' st' → RD K φ' H' d v → ExT K φ' H' d v → Q v H'
  | .exc c d st' => ∀ φ' H' cls dd, Ext φ φ' H H' → Good K φ' H' st' → XA c d cls dd φ' H' → E cls dd H'
  | .stuck => False
def RQSX (φ : List Addr) (H : Hp) (E : L2.St → XK) (Dn : Ends) : RS → Prop
  | .nxt s' st' => ∀ φ' H' σ', Ext φ φ' H H' → Good K φ' H' st' → Rel K φ' H' s' σ' → Dn.nx σ' H'
  | .ret d _ st' => ∀ φ' H' v, Ext φ φ' H H' → Good K φ' H' st' → RD K φ' H' d v → ExT K φ' H' d v → Dn.rt v H'
  | .exc c d s' st' => ∀ φ' H' σ' cls dd, Ext φ φ' H H' → Good K φ' H' st' → Rel K φ' H' s' σ' → XA c d cls dd φ' H' → E σ' cls dd H'
  | _ => False
def liftX (E : L2.St → XK) (f : FE) : TE := fun σ H Q => ∃ e st φ, Now K φ H σ e st ∧ RQX K XA φ H (E σ) Q (f e st)
def liftSX (E : L2.St → XK) (f : FS) : TS := fun Dn σ H => ∃ e st φ, Now K φ H σ e st ∧ RQSX K XA φ H E Dn (f e st)
def liftFX (fs : FF) : Sp := fun vs H Q E => ∃ φ st ds, Good K φ H st ∧ RDs K φ H ds vs ∧ RQX K XA φ H E Q (fs ds st)
end
def fTupX (f : FE) : FE := fBind f fun x => fun _ st => match res st x with
  | .lst ds => .ok (.tup ds) false st
  | _ => .stuck
def fSeqX (f g : FS) : FS := fun e st => match f e st with
  | .nxt s st' => g ⟨e.b, s⟩ st'
  | .exc c d s st' => .exc c d s st'
  | _ => .stuck
def fRetX (f : FE) : FS := fun e st => match f e st with
  | .ok d fr st' => .ret d fr st'
  | .exc c d st' => .exc c d e.s st'
  | .stuck => .stuck
def endBX (b : Nat) : RS → R
  | .ret (.tup ds) fr st' => .ok (.tup ds) fr (st'.take b)
  | .exc c d _ st' => if isP d = true then .exc c d (st'.take b) else .stuck
  | _ => .stuck
def mkFnX (np n : Nat) (body : FS) : FF := fun ds st => if ds.length = np then endBX st.length (body ⟨st.length, ds.map some ++ List.replicate (n - np) none⟩ st) else .stuck
section
variable {K : PySem.W.Frag} {XA : XAT} {φ φ' : List Addr} {H H' : Hp}
theorem RQX.mono {E : XK} {Q Q' : VK} (x : Ext φ φ' H H') : ∀ {r : R}, RQX K XA φ H E Q r → (∀ v H'', Q v H'' → Q' v H'') → RQX K XA φ' H' E Q' r
  | .ok _ _ _, h, m => fun φ2 H2 v x2 g r f => m _ _ (h φ2 H2 v (x.trans x2) g r f)
  | .exc _ _ _, h, _ => fun φ2 H2 c dd x2 g r => h φ2 H2 c dd (x.trans x2) g r
  | .stuck, h, _ => h
theorem RQSX.mono {E : L2.St → XK} {Dn : Ends} (x : Ext φ φ' H H') : ∀ {r : RS}, RQSX K XA φ H E Dn r → RQSX K XA φ' H' E Dn r
  | .nxt _ _, h => fun φ2 H2 v x2 g r => h φ2 H2 v (x.trans x2) g r
  | .brk _ _, h => h
  | .cnt _ _, h => h
  | .ret _ _ _, h => fun φ2 H2 v x2 g r f => h φ2 H2 v (x.trans x2) g r f
  | .exc _ _ _ _, h => fun φ2 H2 s c dd x2 g r q => h φ2 H2 s c dd (x.trans x2) g r q
  | .stuck, h => h
end
section
variable {X : Cx} {XA : XAT} {E : L2.St → XK}
theorem e_tupX {f : FE} {x : Str} {a : Expr} {p pos : Pos} (hg : Gl X x) (hm : X.mg x = none) (hv : bootBuiltins x = some (.type "tuple")) (ha : PE X a (lift X.K XA E f)) (hn : x ≠ "__name__" := by decide) (hdb : (x == ("__debug__" : Str)) = false := by decide)
    (hs : starEach [a] X.env = (false, eval a X.env) :: starEach [] X.env := by rfl) (hpl : (backTo pos (starEach [] X.env)).any (·.1) = false := by rfl) : PE X (.Call (.Name x p) [a] [] pos) (liftX X.K XA E (fTupX f)) := by
  refine PE.weak (pe_callTy call_tuple_ex hg hm hv (pa_cons ha pa_nil hs) hn hdb hs hpl) ?_
  rintro σ H Q ⟨e, st, φ, n, q⟩
  show lift X.K XA E f σ H _
  refine ⟨e, st, φ, n, ?_⟩
  unfold fTupX fBind at q
  cases hf : f e st with
  | stuck => rw [hf] at q; exact q
  | exc c d st1 => rw [hf] at q; exact q
  | ok d fr st1 =>
    rw [hf] at q
    intro φ1 H1 v x1 g1 r1 _
    simp only [] at q
    split at q
    · rename_i ds hr
      obtain ⟨l, vs, rfl, h1, rs, ps⟩ := res_lst g1 r1 hr
      refine ⟨l, vs, rfl, .inl (.inl h1), fun p o hp ho => ?_⟩
      have x2 := ext_new (φ := φ1) (o := .frz o (.tup vs)) hp
      have g2 : Good X.K φ1 (upd H1 p (.frz o (.tup vs))) st1 := g1.new hp
      exact q φ1 _ (.ref p) (x1.trans x2) g2 (.tup (.inl (.inr ⟨o, upd_same⟩)) (rs.keep x2 g1.notup) ps) ⟨p, o, vs, ds, rfl, rfl, upd_same, ho, rs.keep x2 g1.notup, ps⟩
    · exact q.elim
variable {f g : FS} {s : Stmt} {ss : List Stmt} {fa : FE} {a : Expr} {pos : Pos}
theorem b_consX (h : PS X s (liftS X.K XA E f)) (hs : PSs X ss (liftSX X.K XA E g)) : PSs X (s :: ss) (liftSX X.K XA E (fSeqX f g)) := by
  refine PSs.weak (pss_cons h hs) ?_
  rintro D σ H ⟨e, st, φ, n, q⟩
  refine ⟨e, st, φ, n, ?_⟩
  unfold fSeqX at q
  cases hf : f e st with
  | nxt s1 st1 =>
    rw [hf] at q
    exact fun φ1 H1 σ1 x1 g1 r1 => ⟨⟨e.b, s1⟩, st1, φ1, ⟨r1, g1, by rw [← g1.len]; exact Nat.le_trans n.base (by rw [← n.good.len]; exact x1.len)⟩, RQSX.mono x1 q⟩
  | exc c d s1 st1 => rw [hf] at q; exact q
  | ret d fr st1 => rw [hf] at q; exact q.elim
  | brk _ _ => rw [hf] at q; exact q.elim
  | cnt _ _ => rw [hf] at q; exact q.elim
  | stuck => rw [hf] at q; exact q.elim
theorem b_oneX (h : PS X s (liftSX X.K XA E f)) : PSs X [s] (liftSX X.K XA E f) := pss_one h
theorem s_retX (ha : PE X a (liftX X.K XA E fa)) : PS X (.Return (some a) pos) (liftSX X.K XA E (fRetX fa)) := by
  refine PS.weak (ps_ret ha) ?_
  rintro D σ H ⟨e, st, φ, n, q⟩
  refine ⟨e, st, φ, n, ?_⟩
  unfold fRetX at q
  cases hf : fa e st with
  | ok d fr st1 => rw [hf] at q; exact q
  | exc c d st1 => rw [hf] at q; exact fun φ1 H1 cls dd x g z => q φ1 H1 σ cls dd x g (n.rel.keep x n.good.notup) z
  | stuck => rw [hf] at q; exact q.elim
end
section
variable {P : Program} {w : World} {K : PySem.W.Frag} {mg : Str → Option Value} {base : Heap} {XA : XAT}
theorem fn_okX {CX : CXT} {N ps : List Str} {k : Nat} {x qual : Str} {params : Arguments} {body : List Stmt} {scope : Scope} {dvs : List V} {kws : List (Str × V)} {f : Addr} {fd : FuncData} {fb : FS} (hX : XAok XA) (F : FunD K x qual params body scope dvs kws f fd) (S : FnScope N ps scope)
    (hbody : ∀ (cdv : Value) (A : Around) (outer : List Env) (s : Shared) (H : Hp) (E : XK), Room k (A.deeper (envOfC qual scope s.heap.objs.size f cdv)) → PSs (cxOf CX P w K mg base N qual scope f cdv A outer s H E) body (liftSX K XA (fun _ => E) fb)) :
    FnOk P w K mg base CX (k + 1) f fd ps (liftFX K XA (mkFnX ps.length N.length fb)) := by
  refine F.ok S (fun vs H Q E h => ?_) fun cdv A outer s H vs Q E hr h => ⟨_, hbody cdv A outer s H E hr, ?_⟩
  · obtain ⟨φ, st, ds, g, r, q⟩ := h
    unfold mkFnX at q
    split at q
    · rename_i hl
      rw [← r.length]
      exact hl
    · exact q.elim
  · obtain ⟨φ, st, ds, g, r, q⟩ := h
    unfold mkFnX at q
    split at q
    · rename_i hl
      have hN : ps.length ≤ N.length := by
        have := congrArg List.length S.pre
        rw [List.length_take] at this
        omega
      rw [← hl] at q hN
      refine ⟨_, st, φ, init_now g r hN, ?_⟩
      cases hb : fb ⟨st.length, ds.map some ++ List.replicate (N.length - ds.length) none⟩ st with
      | ret d fr st' =>
        rw [hb] at q
        intro φ' H' v x g' rd ex
        cases d with
        | tup xs =>
          obtain ⟨φ2, rfl⟩ := x.pre
          have gf := g'.first
          rw [g.len] at gf
          obtain ⟨a, o, vs2, ds2, e1, rfl, e2, e3, e4, e5⟩ := ex
          cases e1
          cases rd with
          | tup t rs p => exact q φ H' _ x.base gf (.tup t (rs.anti (fun b m => List.mem_append_left _ m) p) p) ⟨a, o, vs2, xs, rfl, rfl, e2, e3, e4.anti (fun b m => List.mem_append_left _ m) e5, e5⟩
        | _ => exact q.elim
      | exc c d s' st' =>
        rw [hb] at q
        intro φ' H' σ' cls dd x g' _ z
        obtain ⟨φ2, rfl⟩ := x.pre
        have gf := g'.first
        rw [g.len] at gf
        unfold endBX at q
        simp only [] at q
        split at q
        · rename_i hp
          exact q φ H' cls dd x.base gf (hX c d cls dd _ _ H' hp (fun b m => List.mem_append_left _ m) z)
        · exact q.elim
      | nxt s' st' => rw [hb] at q; exact q.elim
      | brk s' st' => rw [hb] at q; exact q.elim
      | cnt s' st' => rw [hb] at q; exact q.elim
      | stuck => rw [hb] at q; exact q.elim
    · exact q.elim
structure FnX (P : Program) (w : World) (K : PySem.W.Frag) (mg : Str → Option Value) (base : Heap) (XA : XAT) (x : Str) (ps : List Str) (k : Nat) (fs : FF) : Prop where
  ex : ∃ fa fd, mg x = some (.ref fa) ∧ PySem.W.keepIn K (.ref fa) = true ∧ Binds K fd ps [] ∧ FnOk P w K mg base CX0 k fa fd ps (liftFX K XA fs)
end
section
variable {X : Cx} {XA : XAT} {E : L2.St → XK}
theorem e_fnX {k k' : Nat} {ps : List Str} {fs : FF} {f : FA} {x : Str} {a : Expr} {es : List Expr} {p pos : Pos} (G : FnX X.prog X.w X.K X.mg X.base XA x ps k fs) (hr : Room k' X.A) (hkk : k ≤ k') (hg : Gl X x)
    (ha : PA X (a :: es) (liftA X.K XA E f)) (hdb : (x == ("__debug__" : Str)) = false) (he : starEach (a :: es) X.env = (false, eval a X.env) :: starEach es X.env := by rfl) (hpl : (backTo pos (starEach es X.env)).any (·.1) = false := by rfl) :
    PE X (.Call (.Name x p) (a :: es) [] pos) (liftX X.K XA E (fCall fs f)) := by
  obtain ⟨fa, fd, hm, hk, hb, F⟩ := G.ex
  refine PE.weak (pe_call (E := L2.E0) F (hr.mono hkk) hg hm hk hb .nil pass0 ha hdb he hpl) ?_
  rintro σ H Q ⟨e, st, φ, n, q⟩
  refine ⟨e, st, φ, n, ?_⟩
  unfold fCall at q
  cases hf : f e st with
  | stuck => rw [hf] at q; exact q
  | exc c d st1 => rw [hf] at q; exact q
  | ok ds st1 =>
    rw [hf] at q
    intro φ1 H1 vs x1 g1 r1
    show liftFX X.K XA fs (vs ++ []) H1 Q L2.E0
    rw [List.append_nil]
    refine ⟨φ1, st1, ds, g1, r1, ?_⟩
    have q2 : RQX X.K XA φ1 H1 (E σ) Q (noX (fs ds st1)) := RQX.mono x1 q fun _ _ z => z
    cases hr2 : fs ds st1 with
    | ok d fr st2 => rw [hr2] at q2; exact q2
    | exc c d st2 => rw [hr2] at q2; exact q2.elim
    | stuck => rw [hr2] at q2; exact q2.elim
end
/-! ### dict(t) -/
def kvsOf : List D → Option (List (K1 × D))
  | [] => some []
  | .tup [x, y] :: r => (match toK x, isP y, kvsOf r with
    | some k, true, some kvs => some ((k, y) :: kvs)
    | _, _, _ => none)
  | _ => none
def fDictT (f : FE) : FE := fBind f fun x => fun _ st => match x with
  | .tup ds => (match kvsOf ds with
    | some kvs => .ok (.dic (mergeD [] kvs)) true st
    | none => .stuck)
  | _ => .stuck
section
variable {X : Cx} {XA : XAT} {E : L2.St → XK}
theorem kvsOf_ok {K : PySem.W.Frag} {φ : List Addr} {H : Hp} : ∀ {ds : List D} {vs : List V} {kvs : List (K1 × D)}, RDs K φ H ds vs → kvsOf ds = some kvs → ∃ (ys : List Addr) (kus : List (Key × V)), vs = ys.map V.ref ∧ Paired (PairV K H) ys kus ∧ RKs K φ H kvs kus
  | [], _, _, .nil, h => by cases h; exact ⟨[], [], rfl, .nil, .nil⟩
  | d :: ds, _, kvs, .cons h1 h2, h => by
    unfold kvsOf at h
    split at h
    · rename_i e; cases e
    · rename_i x y r e
      cases e
      split at h
      · rename_i k kvs2 e1 e2 e3
        cases h
        obtain ⟨ys, kus, rfl, hp, rk⟩ := kvsOf_ok h2 e3
        cases h1 with
        | @tup _ a vs ht rs pp =>
          cases rs with
          | cons rx rs =>
            cases rs with
            | cons ry rs =>
              cases rs
              have ev := toK_rd rx e1
              subst ev
              exact ⟨a :: ys, (k.key, _) :: kus, rfl, .cons ht hp, .cons ry e2 rk⟩
      · cases h
    · cases h
theorem e_dictT {f : FE} {x : Str} {a : Expr} {p pos : Pos} (hc : X.calm = true) (hg : Gl X x) (hm : X.mg x = none) (hv : bootBuiltins x = some (.type "dict")) (ha : PE X a (liftX X.K XA E f)) (hn : x ≠ "__name__" := by decide) (hdb : (x == ("__debug__" : Str)) = false := by decide)
    (hs : starEach [a] X.env = (false, eval a X.env) :: starEach [] X.env := by rfl) (hpl : (backTo pos (starEach [] X.env)).any (·.1) = false := by rfl) : PE X (.Call (.Name x p) [a] [] pos) (lift X.K XA E (fDictT f)) := by
  refine PE.weak (pe_callTy (call_dict_ex hc) hg hm hv (pa_cons ha pa_nil hs) hn hdb hs hpl) ?_
  rintro σ H Q ⟨e, st, φ, n, q⟩
  show liftX X.K XA E f σ H _
  refine ⟨e, st, φ, n, ?_⟩
  unfold fDictT fBind at q
  cases hf : f e st with
  | stuck => rw [hf] at q; exact q
  | exc c d st1 => rw [hf] at q; exact q
  | ok d fr st1 =>
    rw [hf] at q
    intro φ1 H1 v x1 g1 r1 ex
    simp only [] at q
    split at q
    · rename_i ds
      split at q
      · rename_i kvs hk
        obtain ⟨a, o, vs, ds2, e1, rfl, ha, ho, rs, pp⟩ := ex
        cases e1
        obtain ⟨ys, kus, rfl, hp, rk⟩ := kvsOf_ok rs hk
        refine ⟨a, o, ys, kus, rfl, ha, ho, hp, fun p hp2 => ?_⟩
        obtain ⟨y1, y2, y3, y4⟩ := Frs.newdic g1 hp2 (mergeD_ok rk .nil)
        exact q φ1 _ _ (x1.trans y1) y2 y3 fun _ => y4.back x1
      · exact q.elim
    · exact q.elim
end
end EV

set_option Elab.async false
set_option maxRecDepth 100000
set_option maxHeartbeats 2000000
namespace EV
open PySem PySem.Spec PyProof.Rows L2 He HK
section
variable {chk : PySem.W.Frag → Bool} {fn : List DefD} {K : PySem.W.Frag}
def cvD : HK.Cv → D
  | .int i => .int i
  | .str z => .str z
  | .tup is => .tup (is.map D.int)
theorem cv_gc {h : Heap} {mg : Str → Option Value} (X : K.In h) (G : h.Ns mainGlobals mg) {x : Str} : ∀ {c : Cv}, c.ok K x = true → GC K mg x (cvD c)
  | .int i, c => let ⟨t, e⟩ := int_ok X G c; ⟨_, .int i, e, ⟨t, rfl⟩, fun _ _ => .int i⟩
  | .str z, c => let ⟨t, e⟩ := str_ok X G c; ⟨_, .str ⟨z.toArray⟩, e, ⟨t, rfl⟩, fun _ _ => .str z⟩
  | .tup is, c => by
    obtain ⟨c1, c2⟩ := ba c
    refine ⟨_, .ref (ga K x), glo_ok X G c1, rfl, fun φ H => ?_⟩
    have s := tupB_ok c2 H
    have e : (is.map Dv.int).map (Dv.v K) = is.map V.int := by rw [List.map_map]; rfl
    rw [e] at s
    exact .tup s (rds_intsX is) (ints_isP is)
theorem gd_of {h : Heap} {mg : Str → Option Value} (X : K.In h) (G : h.Ns mainGlobals mg) {topS : Nat → Stmt} {tbl : List (Str × Nat)} (hfn : fn = tbl.map (defD topS)) (c : SaysC chk fn K) {x : Str} {i : Nat} (m : (x, i) ∈ tbl) (g : (Fa.glo x).ok K = true) : GD K mg x (topS i) := by
  have m2 : defD topS (x, i) ∈ fn := by rw [hfn]; exact List.mem_map.mpr ⟨_, m, rfl⟩
  obtain ⟨fd, F⟩ := c.def_ m2
  exact ⟨_, fd, F, glo_ok X G g⟩
end
end EV

set_option Elab.async false
set_option maxRecDepth 100000
set_option maxHeartbeats 2000000
set_option exponentiation.threshold 20000
namespace EV
open PySem PySem.Spec PyProof.Rows L2
/-! ### powers of larger numbers -/
def CPowW (i j : Int) : Prop := 0 ≤ j ∧ (Builtin.Int.intBits i : Int) * j ≤ 2 ^ 27
theorem op_powW {X : Cx} : OpR X (binaryOp .Pow) (rI CPowW fun i j => .int (i ^ j.toNat)) := opI fun _ _ _ _ _ _ _ hc q => pow_int hc.1 hc.2 q
def kPowW (i j : Int) : Option D := if decide (0 ≤ j) && decide (j ≤ 1000) && decide (i.natAbs < 2 ^ 10000) then some (.int (i ^ j.toNat)) else none
theorem g_powW {K : PySem.W.Frag} : Op2 K (rI CPowW fun i j => .int (i ^ j.toNat)) (gInt kPowW) := op2_gInt fun i j d h => by
  unfold kPowW at h
  split at h
  · rename_i c
    cases h
    simp only [Bool.and_eq_true, decide_eq_true_eq] at c
    refine ⟨⟨c.1.1, ?_⟩, fun φ H => .int _⟩
    have hb : Builtin.Int.intBits i ≤ 10000 := by
      unfold Builtin.Int.intBits
      split
      · omega
      · have := log_lt c.2 (by decide)
        omega
    have h1 : (Builtin.Int.intBits i : Int) * j ≤ 10000 * j := Int.mul_le_mul_of_nonneg_right (by omega) c.1.1
    omega
  · cases h
end EV

set_option Elab.async false
set_option maxRecDepth 100000
set_option maxHeartbeats 4000000
namespace M85
open PySem PySem.Spec PyProof.Rows L2 EV
def c_NOUGHT : D := .tup [.int 0, .int 1]
def c_ONE : D := .tup [.int 1, .int 1]
def c_MOST : D := .int 1000000000000
def c_LETTERS : D := .str [97, 98, 99]
def c_MOST_LONG : D := .int 8
def c_MOST_WIDE : D := .int 6
def c_MOST_PART : D := .int (10 ^ 60)
def c_MOST_COUNT : D := .int 60
def c_MOST_LETTERS : D := .int 100
def c_MOST_STEPS : D := .int 40
def c_ORDER : D := .str [111, 114, 100, 101, 114]
def c_LEAST : D := .str [97, 116, 32, 108, 101, 97, 115, 116]
def c_BACK : D := .str [98, 97, 99, 107]
def c_LOW : D := .str [108, 111, 119]
def c_THREE : D := .int 3
def c_MOST_DEGREE : D := .int 16
def c_MOST_NUMBERS : D := .int 20
def c_MOST_POWER : D := .int 13
def c_MOST_OUTER : D := .int 8
def c_MOST_ENDS : D := .int 1000000000
def c_MOST_HALVES : D := .int 60
def c_SO : D := .str [115, 111]
def c_NOT : D := .str [110, 111, 116]
def c_ROOTS : D := .str [114, 111, 111, 116, 115]
def c_NONE : D := .str [110, 111, 110, 101]
structure Tops (K : PySem.W.Frag) (mg : Str → Option Value) : Prop where
  fd : ∀ x i, (x, i) ∈ tbl → GD K mg x (topS i)
  fr : ∀ x, x ∈ frees → mg x = none
  c_NOUGHT : GC K mg "NOUGHT" c_NOUGHT
  c_ONE : GC K mg "ONE" c_ONE
  c_MOST : GC K mg "MOST" c_MOST
  c_LETTERS : GC K mg "LETTERS" c_LETTERS
  c_MOST_LONG : GC K mg "MOST_LONG" c_MOST_LONG
  c_MOST_WIDE : GC K mg "MOST_WIDE" c_MOST_WIDE
  c_MOST_PART : GC K mg "MOST_PART" c_MOST_PART
  c_MOST_COUNT : GC K mg "MOST_COUNT" c_MOST_COUNT
  c_MOST_LETTERS : GC K mg "MOST_LETTERS" c_MOST_LETTERS
  c_MOST_STEPS : GC K mg "MOST_STEPS" c_MOST_STEPS
  c_ORDER : GC K mg "ORDER" c_ORDER
  c_LEAST : GC K mg "LEAST" c_LEAST
  c_BACK : GC K mg "BACK" c_BACK
  c_LOW : GC K mg "LOW" c_LOW
  c_THREE : GC K mg "THREE" c_THREE
  c_MOST_DEGREE : GC K mg "MOST_DEGREE" c_MOST_DEGREE
  c_MOST_NUMBERS : GC K mg "MOST_NUMBERS" c_MOST_NUMBERS
  c_MOST_POWER : GC K mg "MOST_POWER" c_MOST_POWER
  c_MOST_OUTER : GC K mg "MOST_OUTER" c_MOST_OUTER
  c_MOST_ENDS : GC K mg "MOST_ENDS" c_MOST_ENDS
  c_MOST_HALVES : GC K mg "MOST_HALVES" c_MOST_HALVES
  c_SO : GC K mg "SO" c_SO
  c_NOT : GC K mg "NOT" c_NOT
  c_ROOTS : GC K mg "ROOTS" c_ROOTS
  c_NONE : GC K mg "NONE" c_NONE
section
variable {P : Program} {w : World} {K : PySem.W.Frag} {mg : Str → Option Value} {base : Heap} {XA : XAT}
/-! is_int -/
def b_is_int : FS := fSeq (fRet (fAnd (f1 (gIsi .int) (fV 0)) (fAnd (f1 gNot (f1 (gIsi .bl) (fV 0))) (fChain (gInt kLe) (gInt kLe) (fV 1) (fV 0) (fV 2))))) (fNxt)
def f_is_int : FF := mkFn 3 3 b_is_int
abbrev N_is_int : List Str := ["value", "least", "most"]
theorem sc_is_int : FnScope N_is_int ["value", "least", "most"] (defScope (topS 10)) := ⟨rfl, rfl, rfl, by decide +kernel, rfl, by decide +kernel, by decide +kernel⟩
theorem ok_is_int (hX : XAok XA) (G : Tops K mg) : Fn P w K mg base XA "is_int" ["value", "least", "most"] 1 f_is_int := by
  obtain ⟨f, fd, F, hm⟩ := (G.fd "is_int" 10 (by decide +kernel)).ex
  refine ⟨f, fd, hm, F.kp, F.bindsN (fun _ _ _ _ _ _ us hl => match us, hl with | [_, _, _], _ => rfl), fn_ok hX F sc_is_int fun cdv A outer s H E hr => PSs.nox ?_⟩
  exact b_cons (s_ret (e_and (e_isi (c := .int) rfl (G.fr _ (by decide +kernel)) rfl (G.fr _ (by decide +kernel)) boot_int (e_var (pv 0)) boot_isinstance (by decide) (by decide)) (e_and (e_not (e_isi (c := .bl) rfl (G.fr _ (by decide +kernel)) rfl (G.fr _ (by decide +kernel)) boot_bool (e_var (pv 0)) boot_isinstance (by decide) (by decide))) (pe_one (t_chain op_le op_le g_le g_le (e_var (pv 1)) (e_var (pv 0)) (e_var (pv 2)))))))
    (b_nil)
/-! told_divisor -/
def b_told_divisor : FS := fSeq (fPar 0 1 (fN gAbs (aCons (fV 0) (aNil))) (fN gAbs (aCons (fV 1) (aNil)))) (fSeq (fWhile 1000000 (f2 gNe (fV 1) (fC (.int 0))) (fSeq (fPar 0 1 (fV 1) (f2 (gInt kMod) (fV 0) (fV 1))) (fNxt))) (fSeq (fRet (fV 0)) (fNxt)))
def f_told_divisor : FF := mkFn 2 2 b_told_divisor
abbrev N_told_divisor : List Str := ["one", "other"]
theorem sc_told_divisor : FnScope N_told_divisor ["one", "other"] (defScope (topS 15)) := ⟨rfl, rfl, rfl, by decide +kernel, rfl, by decide +kernel, by decide +kernel⟩
theorem ok_told_divisor (hX : XAok XA) (G : Tops K mg) : Fn P w K mg base XA "told_divisor" ["one", "other"] 1 f_told_divisor := by
  obtain ⟨f, fd, F, hm⟩ := (G.fd "told_divisor" 15 (by decide +kernel)).ex
  refine ⟨f, fd, hm, F.kp, F.bindsN (fun _ _ _ _ _ _ us hl => match us, hl with | [_, _], _ => rfl), fn_ok hX F sc_told_divisor fun cdv A outer s H E hr => PSs.nox ?_⟩
  exact b_cons (s_par (i := 0) (j := 1) (fun ta h => ps_par rfl sc_told_divisor.nd rfl rfl (by decide) rfl rfl h rfl) (e_callB call_abs g_abs rfl (G.fr _ (by decide +kernel)) boot_abs (a_cons (e_var (pv 0)) (a_nil))) (e_callB call_abs g_abs rfl (G.fr _ (by decide +kernel)) boot_abs (a_cons (e_var (pv 1)) (a_nil))))
    (b_cons (s_while 1000000 PassesOwn.never (t_cmp (op_neD hr.units) g_ne (e_var (pv 1)) (e_const pe_int fun _ _ => .int _) (nomark _)) (b_cons (s_par (i := 0) (j := 1) (fun ta h => ps_par rfl sc_told_divisor.nd rfl rfl (by decide) rfl rfl h rfl) (e_var (pv 1)) (e_bin op_mod g_mod (e_var (pv 0)) (e_var (pv 1))))
    (b_nil)))
    (b_cons (s_ret (e_var (pv 0)))
    (b_nil)))
def q_told_divisor : FF := fun ds st => match ds with
  | [.int a, .int b] => if b.natAbs < 2 ^ 10000 then .ok (.int ((Nat.gcd a.natAbs b.natAbs : Nat) : Int)) false st else .stuck
  | _ => .stuck
theorem abs_nat (a : Int) : (if a < 0 then -a else a) = ((a.natAbs : Nat) : Int) := by split <;> omega
theorem r_told_divisor : Ref f_told_divisor q_told_divisor := by
  intro ds st
  unfold q_told_divisor
  split
  · rename_i a b
    split
    · rename_i h
      refine .inr ?_
      show endB st.length (b_told_divisor ⟨st.length, [some (.int a), some (.int b)]⟩ st) = _
      have e1 : fPar 0 1 (fN gAbs (aCons (fV 0) aNil)) (fN gAbs (aCons (fV 1) aNil)) ⟨st.length, [some (.int a), some (.int b)]⟩ st = .nxt [some (.int ((a.natAbs : Nat) : Int)), some (.int ((b.natAbs : Nat) : Int))] st := by
        rw [← abs_nat a, ← abs_nat b]
        rfl
      have e2 := gcd_loop st.length st 10000 1000000 a.natAbs b.natAbs h (by decide)
      have e3 : b_told_divisor ⟨st.length, [some (.int a), some (.int b)]⟩ st = .ret (.int ((Nat.gcd a.natAbs b.natAbs : Nat) : Int)) false st := by
        exact (fSeq_nxt e1).trans ((fSeq_nxt e2).trans rfl)
      rw [e3]
      show R.ok (.int ((Nat.gcd a.natAbs b.natAbs : Nat) : Int)) false (st.take st.length) = _
      rw [List.take_length]
    · exact .inl rfl
  · exact .inl rfl
theorem ok_q_told_divisor (hX : XAok XA) (G : Tops K mg) : Fn P w K mg base XA "told_divisor" ["one", "other"] 1 q_told_divisor := (ok_told_divisor hX G).ref r_told_divisor
/-! told_fraction -/
def b_told_fraction : FS := fSeq (fAsg (gN 2) (fCall q_told_divisor (aCons (fV 0) (aCons (fV 1) (aNil))))) (fSeq (fIfS (f2 (gInt kLt) (fV 1) (fC (.int 0))) (fSeq (fAsg (gN 2) (f1 gNeg (fV 2))) (fNxt)) (fNxt)) (fSeq (fRet (fN gTup (aCons (f2 (gInt kDiv) (fV 0) (fV 2)) (aCons (f2 (gInt kDiv) (fV 1) (fV 2)) (aNil))))) (fNxt)))
def f_told_fraction : FF := mkFn 2 3 b_told_fraction
abbrev N_told_fraction : List Str := ["top", "bottom", "shared"]
theorem sc_told_fraction : FnScope N_told_fraction ["top", "bottom"] (defScope (topS 16)) := ⟨rfl, rfl, rfl, by decide +kernel, rfl, by decide +kernel, by decide +kernel⟩
theorem ok_told_fraction (hX : XAok XA) (G : Tops K mg) : Fn P w K mg base XA "told_fraction" ["top", "bottom"] 2 f_told_fraction := by
  obtain ⟨f, fd, F, hm⟩ := (G.fd "told_fraction" 16 (by decide +kernel)).ex
  refine ⟨f, fd, hm, F.kp, F.bindsN (fun _ _ _ _ _ _ us hl => match us, hl with | [_, _], _ => rfl), fn_ok hX F sc_told_fraction fun cdv A outer s H E hr => PSs.nox ?_⟩
  exact b_cons (s_asg (e_fn (ok_q_told_divisor hX G) hr (by decide) rfl (a_cons (e_var (pv 0)) (a_cons (e_var (pv 1)) (a_nil))) (by decide)) (gl_name (pg_name sc_told_fraction.nd rfl (by first | exact .inl rfl | exact .inr rfl))))
    (b_cons (s_ifs (t_cmp op_lt g_lt (e_var (pv 1)) (e_const pe_int fun _ _ => .int _) (nomark _)) (b_cons (s_asg (e_neg (e_var (pv 2))) (gl_name (pg_name sc_told_fraction.nd rfl (by first | exact .inl rfl | exact .inr rfl))))
    (b_nil)) (b_nil))
    (b_cons (s_ret (e_tup (a_cons (e_bin op_fdivZ g_div (e_var (pv 0)) (e_var (pv 2))) (a_cons (e_bin op_fdivZ g_div (e_var (pv 1)) (e_var (pv 2))) (a_nil)))))
    (b_nil)))
def q_told_fraction : FF := fun ds st => match ds with
  | [.int a, .int b] => if b ≠ 0 ∧ b.natAbs < 2 ^ 8000 then
      (if b < 0 then .ok (.tup [.int ((-a) / ((Nat.gcd a.natAbs b.natAbs : Nat) : Int)), .int ((-b) / ((Nat.gcd a.natAbs b.natAbs : Nat) : Int))]) false st
       else .ok (.tup [.int (a / ((Nat.gcd a.natAbs b.natAbs : Nat) : Int)), .int (b / ((Nat.gcd a.natAbs b.natAbs : Nat) : Int))]) false st)
      else .stuck
  | _ => .stuck
theorem kdiv_pos {g : Nat} (h : 0 < g) (h2 : g < 2 ^ 8999) (i : Int) : kDiv i (g : Int) = some (.int (i / (g : Int))) := by
  unfold kDiv
  have e : okD (g : Int) = true := by
    unfold okD
    rw [Bool.and_eq_true, decide_eq_true_iff, decide_eq_true_iff]
    exact ⟨by omega, h2⟩
  rw [if_pos e]
theorem kdiv_neg {g : Nat} (h : 0 < g) (h2 : g < 2 ^ 8999) (i : Int) : kDiv i (-(g : Int)) = some (.int ((-i) / (g : Int))) := by
  unfold kDiv
  have e0 : okD (-(g : Int)) = false := by
    unfold okD
    have : ¬ (0 : Int) < -(g : Int) := by omega
    rw [decide_eq_false this]
    rfl
  have e : okD (- -(g : Int)) = true := by
    rw [Int.neg_neg]
    unfold okD
    rw [Bool.and_eq_true, decide_eq_true_iff, decide_eq_true_iff]
    exact ⟨by omega, h2⟩
  rw [if_neg (by rw [e0]; exact Bool.false_ne_true), if_pos e, Int.neg_neg]
theorem r_told_fraction : Ref f_told_fraction q_told_fraction := by
  intro ds st
  unfold q_told_fraction
  split
  · rename_i a b
    split
    · rename_i h
      refine .inr ?_
      generalize hg : Nat.gcd a.natAbs b.natAbs = g
      have hb : 0 < b.natAbs := Int.natAbs_pos.mpr h.1
      have g0 : 0 < g := by rw [← hg]; exact Nat.gcd_pos_of_pos_right _ hb
      have g1 : g ≤ b.natAbs := by rw [← hg]; exact Nat.gcd_le_right _ hb
      have g2 : g < 2 ^ 8999 := Nat.lt_of_le_of_lt g1 (Nat.lt_trans h.2 (Nat.pow_lt_pow_right (by decide) (by decide)))
      have g3 : b.natAbs < 2 ^ 10000 := Nat.lt_trans h.2 (Nat.pow_lt_pow_right (by decide) (by decide))
      have e1 : fAsg (gN 2) (fCall q_told_divisor (aCons (fV 0) (aCons (fV 1) aNil))) ⟨st.length, [some (.int a), some (.int b), none]⟩ st = .nxt [some (.int a), some (.int b), some (.int (g : Int))] st := by
        have e : fCall q_told_divisor (aCons (fV 0) (aCons (fV 1) aNil)) ⟨st.length, [some (.int a), some (.int b), none]⟩ st = .ok (.int (g : Int)) false st := by
          show noX (q_told_divisor [.int a, .int b] st) = _
          unfold q_told_divisor
          simp only []
          rw [if_pos g3, hg]
          rfl
        unfold fAsg fBindS
        rw [e]
        rfl
      by_cases hn : b < 0
      · rw [if_pos hn]
        have e2 : fIfS (f2 (gInt kLt) (fV 1) (fC (.int 0))) (fSeq (fAsg (gN 2) (f1 gNeg (fV 2))) fNxt) fNxt ⟨st.length, [some (.int a), some (.int b), some (.int (g : Int))]⟩ st = .nxt [some (.int a), some (.int b), some (.int (-(g : Int)))] st := by
          show kIfS (fSeq (fAsg (gN 2) (f1 gNeg (fV 2))) fNxt) fNxt (.bl (decide (b < 0))) false ⟨st.length, [some (.int a), some (.int b), some (.int (g : Int))]⟩ st = _
          rw [decide_eq_true hn]
          rfl
        have e3 : fN gTup (aCons (f2 (gInt kDiv) (fV 0) (fV 2)) (aCons (f2 (gInt kDiv) (fV 1) (fV 2)) aNil)) ⟨st.length, [some (.int a), some (.int b), some (.int (-(g : Int)))]⟩ st = .ok (.tup [.int ((-a) / (g : Int)), .int ((-b) / (g : Int))]) false st := by
          have d1 : f2 (gInt kDiv) (fV 0) (fV 2) ⟨st.length, [some (.int a), some (.int b), some (.int (-(g : Int)))]⟩ st = .ok (.int ((-a) / (g : Int))) false st := by
            show ofO st ((kDiv a (-(g : Int))).map fun d => (d, false)) = _
            rw [kdiv_neg g0 g2]; rfl
          have d2 : f2 (gInt kDiv) (fV 1) (fV 2) ⟨st.length, [some (.int a), some (.int b), some (.int (-(g : Int)))]⟩ st = .ok (.int ((-b) / (g : Int))) false st := by
            show ofO st ((kDiv b (-(g : Int))).map fun d => (d, false)) = _
            rw [kdiv_neg g0 g2]; rfl
          unfold fN aCons
          rw [d1]
          simp only []
          rw [d2]
          rfl
        have e4 : b_told_fraction ⟨st.length, [some (.int a), some (.int b), none]⟩ st = .ret (.tup [.int ((-a) / (g : Int)), .int ((-b) / (g : Int))]) false st := by
          refine (fSeq_nxt e1).trans ((fSeq_nxt e2).trans ?_)
          unfold fSeq fRet fBindS
          rw [e3]
        show endB st.length (b_told_fraction ⟨st.length, [some (.int a), some (.int b), none]⟩ st) = _
        rw [e4]
        show R.ok _ false (st.take st.length) = _
        rw [List.take_length]
      · rw [if_neg hn]
        have e2 : fIfS (f2 (gInt kLt) (fV 1) (fC (.int 0))) (fSeq (fAsg (gN 2) (f1 gNeg (fV 2))) fNxt) fNxt ⟨st.length, [some (.int a), some (.int b), some (.int (g : Int))]⟩ st = .nxt [some (.int a), some (.int b), some (.int (g : Int))] st := by
          show kIfS (fSeq (fAsg (gN 2) (f1 gNeg (fV 2))) fNxt) fNxt (.bl (decide (b < 0))) false ⟨st.length, [some (.int a), some (.int b), some (.int (g : Int))]⟩ st = _
          rw [decide_eq_false hn]
          rfl
        have e3 : fN gTup (aCons (f2 (gInt kDiv) (fV 0) (fV 2)) (aCons (f2 (gInt kDiv) (fV 1) (fV 2)) aNil)) ⟨st.length, [some (.int a), some (.int b), some (.int (g : Int))]⟩ st = .ok (.tup [.int (a / (g : Int)), .int (b / (g : Int))]) false st := by
          have d1 : f2 (gInt kDiv) (fV 0) (fV 2) ⟨st.length, [some (.int a), some (.int b), some (.int (g : Int))]⟩ st = .ok (.int (a / (g : Int))) false st := by
            show ofO st ((kDiv a (g : Int)).map fun d => (d, false)) = _
            rw [kdiv_pos g0 g2]; rfl
          have d2 : f2 (gInt kDiv) (fV 1) (fV 2) ⟨st.length, [some (.int a), some (.int b), some (.int (g : Int))]⟩ st = .ok (.int (b / (g : Int))) false st := by
            show ofO st ((kDiv b (g : Int)).map fun d => (d, false)) = _
            rw [kdiv_pos g0 g2]; rfl
          unfold fN aCons
          rw [d1]
          simp only []
          rw [d2]
          rfl
        have e4 : b_told_fraction ⟨st.length, [some (.int a), some (.int b), none]⟩ st = .ret (.tup [.int (a / (g : Int)), .int (b / (g : Int))]) false st := by
          refine (fSeq_nxt e1).trans ((fSeq_nxt e2).trans ?_)
          unfold fSeq fRet fBindS
          rw [e3]
        show endB st.length (b_told_fraction ⟨st.length, [some (.int a), some (.int b), none]⟩ st) = _
        rw [e4]
        show R.ok _ false (st.take st.length) = _
        rw [List.take_length]
    · exact .inl rfl
  · exact .inl rfl
theorem q_fr (ds : List D) (st : Sto) : q_told_fraction ds st = .stuck ∨ ∃ xs, q_told_fraction ds st = .ok (.tup xs) false st := by
  unfold q_told_fraction
  split
  · split
    · split
      · exact .inr ⟨_, rfl⟩
      · exact .inr ⟨_, rfl⟩
    · exact .inl rfl
  · exact .inl rfl
theorem ok_q_told_fraction (hX : XAok XA) (G : Tops K mg) : Fn P w K mg base XA "told_fraction" ["top", "bottom"] 2 q_told_fraction := (ok_told_fraction hX G).ref r_told_fraction
/-! is_exact -/
def b_is_exact : FS := fSeq (fIfS (fOr (f1 gNot (f1 (gIsi .tup) (fV 0))) (f2 gNe (fN gLen (aCons (fV 0) (aNil))) (fC (.int 2)))) (fSeq (fRet (fC (.bl false))) (fNxt)) (fNxt)) (fSeq (fIfS (f1 gNot (fN gAll (aCons (fComp (fIt (fV 0) kSeq) (gN 1) (fYes) (fAnd (f1 (gIsi .int) (fV 1)) (f1 gNot (f1 (gIsi .bl) (fV 1)))) [1]) (aNil)))) (fSeq (fRet (fC (.bl false))) (fNxt)) (fNxt)) (fSeq (fRet (fAnd (f2 (gInt kGt) (f2 gIx (fV 0) (fC (.int 1))) (fC (.int 0))) (f2 gEq (fCall q_told_divisor (aCons (f2 gIx (fV 0) (fC (.int 0))) (aCons (f2 gIx (fV 0) (fC (.int 1))) (aNil)))) (fC (.int 1))))) (fNxt)))
def f_is_exact : FF := mkFn 1 2 b_is_exact
abbrev N_is_exact : List Str := ["value", "part"]
theorem sc_is_exact : FnScope N_is_exact ["value"] (defScope (topS 17)) := ⟨rfl, rfl, rfl, by decide +kernel, rfl, by decide +kernel, by decide +kernel⟩
theorem ok_is_exact (hX : XAok XA) (G : Tops K mg) : Fn P w K mg base XA "is_exact" ["value"] 2 f_is_exact := by
  obtain ⟨f, fd, F, hm⟩ := (G.fd "is_exact" 17 (by decide +kernel)).ex
  refine ⟨f, fd, hm, F.kp, F.bindsN (fun _ _ _ _ _ _ us hl => match us, hl with | [_], _ => rfl), fn_ok hX F sc_is_exact fun cdv A outer s H E hr => PSs.nox ?_⟩
  exact b_cons (s_ifs (PW.pt (w_or (t_not (t_val (e_isi (c := .tup) rfl (G.fr _ (by decide +kernel)) rfl (G.fr _ (by decide +kernel)) boot_tuple (e_var (pv 0)) boot_isinstance (by decide) (by decide)))) (pw_or1 (t_cmp (op_neD hr.units) g_ne (e_callB call_len g_len rfl (G.fr _ (by decide +kernel)) boot_len (a_cons (e_var (pv 0)) (a_nil))) (e_const pe_int fun _ _ => .int _) (nomark _))))) (b_cons (s_ret (e_const pe_bl fun _ _ => .bl _))
    (b_nil)) (b_nil))
    (b_cons (s_ifs (t_not (t_val (e_callB (cr_all rfl) g_all rfl (G.fr _ (by decide +kernel)) boot_all (a_cons (e_comp (own := [("part", 1)]) rfl sc_is_exact.nd (i_seq (e_var (pv 0))) (show BlkOk N_is_exact (defScope (topS 17)) _ [("part", 1)] from ⟨rfl, by decide +kernel, by decide +kernel, by decide +kernel, by decide +kernel⟩) (gb_name fun _ _ _ _ _ => pg_name sc_is_exact.nd rfl (by first | exact .inl rfl | exact .inr rfl)).ex (by decide) (fun _ _ _ _ _ => ts_nil) (fun _ _ _ _ _ => e_and (e_isi (c := .int) rfl (G.fr _ (by decide +kernel)) rfl (G.fr _ (by decide +kernel)) boot_int (e_var (pv 1)) boot_isinstance (by decide) (by decide)) (pe_one (e_not (e_isi (c := .bl) rfl (G.fr _ (by decide +kernel)) rfl (G.fr _ (by decide +kernel)) boot_bool (e_var (pv 1)) boot_isinstance (by decide) (by decide)))))) (a_nil))))) (b_cons (s_ret (e_const pe_bl fun _ _ => .bl _))
    (b_nil)) (b_nil))
    (b_cons (s_ret (e_and (e_cmp op_gt g_gt (e_ix ix_seq g_ix (e_var (pv 0)) (e_const pe_int fun _ _ => .int _) (fun _ _ => rfl)) (e_const pe_int fun _ _ => .int _) (nomark _)) (pe_one (e_cmp (op_eqD hr.units) g_eq (e_fn (ok_q_told_divisor hX G) hr (by decide) rfl (a_cons (e_ix ix_seq g_ix (e_var (pv 0)) (e_const pe_int fun _ _ => .int _) (fun _ _ => rfl)) (a_cons (e_ix ix_seq g_ix (e_var (pv 0)) (e_const pe_int fun _ _ => .int _) (fun _ _ => rfl)) (a_nil))) (by decide)) (e_const pe_int fun _ _ => .int _) (nomark _)))))
    (b_nil)))
/-! is_fraction -/
def b_is_fraction : FS := fSeq (fRet (fAnd (fCall f_is_exact (aCons (fV 0) (aNil))) (fAnd (fCall f_is_int (aCons (f2 gIx (fV 0) (fC (.int 0))) (aCons (f1 gNeg (fC c_MOST)) (aCons (fC c_MOST) (aNil))))) (f2 (gInt kLe) (f2 gIx (fV 0) (fC (.int 1))) (fC c_MOST))))) (fNxt)
def f_is_fraction : FF := mkFn 1 1 b_is_fraction
abbrev N_is_fraction : List Str := ["value"]
theorem sc_is_fraction : FnScope N_is_fraction ["value"] (defScope (topS 18)) := ⟨rfl, rfl, rfl, by decide +kernel, rfl, by decide +kernel, by decide +kernel⟩
theorem ok_is_fraction (hX : XAok XA) (G : Tops K mg) : Fn P w K mg base XA "is_fraction" ["value"] 3 f_is_fraction := by
  obtain ⟨f, fd, F, hm⟩ := (G.fd "is_fraction" 18 (by decide +kernel)).ex
  refine ⟨f, fd, hm, F.kp, F.bindsN (fun _ _ _ _ _ _ us hl => match us, hl with | [_], _ => rfl), fn_ok hX F sc_is_fraction fun cdv A outer s H E hr => PSs.nox ?_⟩
  exact b_cons (s_ret (e_and (e_fn (ok_is_exact hX G) hr (by decide) rfl (a_cons (e_var (pv 0)) (a_nil)) (by decide)) (e_and (e_fn (ok_is_int hX G) hr (by decide) rfl (a_cons (e_ix ix_seq g_ix (e_var (pv 0)) (e_const pe_int fun _ _ => .int _) (fun _ _ => rfl)) (a_cons (e_neg (e_gc (G.c_MOST) rfl)) (a_cons (e_gc (G.c_MOST) rfl) (a_nil)))) (by decide)) (pe_one (e_cmp op_le g_le (e_ix ix_seq g_ix (e_var (pv 0)) (e_const pe_int fun _ _ => .int _) (fun _ _ => rfl)) (e_gc (G.c_MOST) rfl) (nomark _))))))
    (b_nil)
/-! plus -/
def b_plus : FS := fSeq (fIfS (f2 gEq (f2 gIx (fV 0) (fC (.int 1))) (f2 gIx (fV 1) (fC (.int 1)))) (fSeq (fRet (fCall q_told_fraction (aCons (f2 gAdd (f2 gIx (fV 0) (fC (.int 0))) (f2 gIx (fV 1) (fC (.int 0)))) (aCons (f2 gIx (fV 0) (fC (.int 1))) (aNil))))) (fNxt)) (fNxt)) (fSeq (fRet (fCall q_told_fraction (aCons (f2 gAdd (f2 gMul (f2 gIx (fV 0) (fC (.int 0))) (f2 gIx (fV 1) (fC (.int 1)))) (f2 gMul (f2 gIx (fV 1) (fC (.int 0))) (f2 gIx (fV 0) (fC (.int 1))))) (aCons (f2 gMul (f2 gIx (fV 0) (fC (.int 1))) (f2 gIx (fV 1) (fC (.int 1)))) (aNil))))) (fNxt))
def f_plus : FF := mkFn 2 2 b_plus
abbrev N_plus : List Str := ["one", "other"]
theorem sc_plus : FnScope N_plus ["one", "other"] (defScope (topS 19)) := ⟨rfl, rfl, rfl, by decide +kernel, rfl, by decide +kernel, by decide +kernel⟩
theorem ok_plus (hX : XAok XA) (G : Tops K mg) : Fn P w K mg base XA "plus" ["one", "other"] 3 f_plus := by
  obtain ⟨f, fd, F, hm⟩ := (G.fd "plus" 19 (by decide +kernel)).ex
  refine ⟨f, fd, hm, F.kp, F.bindsN (fun _ _ _ _ _ _ us hl => match us, hl with | [_, _], _ => rfl), fn_ok hX F sc_plus fun cdv A outer s H E hr => PSs.nox ?_⟩
  exact b_cons (s_ifs (t_cmp (op_eqD hr.units) g_eq (e_ix ix_seq g_ix (e_var (pv 0)) (e_const pe_int fun _ _ => .int _) (fun _ _ => rfl)) (e_ix ix_seq g_ix (e_var (pv 1)) (e_const pe_int fun _ _ => .int _) (fun _ _ => rfl)) (nomark _)) (b_cons (s_ret (e_fn (ok_q_told_fraction hX G) hr (by decide) rfl (a_cons (e_bin op_addA g_add (e_ix ix_seq g_ix (e_var (pv 0)) (e_const pe_int fun _ _ => .int _) (fun _ _ => rfl)) (e_ix ix_seq g_ix (e_var (pv 1)) (e_const pe_int fun _ _ => .int _) (fun _ _ => rfl))) (a_cons (e_ix ix_seq g_ix (e_var (pv 0)) (e_const pe_int fun _ _ => .int _) (fun _ _ => rfl)) (a_nil))) (by decide)))
    (b_nil)) (b_nil))
    (b_cons (s_ret (e_fn (ok_q_told_fraction hX G) hr (by decide) rfl (a_cons (e_bin op_addA g_add (e_bin op_mulA g_mul (e_ix ix_seq g_ix (e_var (pv 0)) (e_const pe_int fun _ _ => .int _) (fun _ _ => rfl)) (e_ix ix_seq g_ix (e_var (pv 1)) (e_const pe_int fun _ _ => .int _) (fun _ _ => rfl))) (e_bin op_mulA g_mul (e_ix ix_seq g_ix (e_var (pv 1)) (e_const pe_int fun _ _ => .int _) (fun _ _ => rfl)) (e_ix ix_seq g_ix (e_var (pv 0)) (e_const pe_int fun _ _ => .int _) (fun _ _ => rfl)))) (a_cons (e_bin op_mulA g_mul (e_ix ix_seq g_ix (e_var (pv 0)) (e_const pe_int fun _ _ => .int _) (fun _ _ => rfl)) (e_ix ix_seq g_ix (e_var (pv 1)) (e_const pe_int fun _ _ => .int _) (fun _ _ => rfl))) (a_nil))) (by decide)))
    (b_nil))
abbrev okq (a : Int) : Prop := a.natAbs < 2 ^ 3000
theorem okq_m {a : Int} (h : okq a) : okM a = true := by
  unfold okM
  exact decide_eq_true (Nat.lt_trans h (Nat.pow_lt_pow_right (by decide) (by decide)))
theorem mul_q {a b : Int} (st : Sto) (ha : okq a) (hb : okq b) : gMul st (.int a) (.int b) = some (.int (a * b), false) := by
  show (if (okM a && okM b) = true then some (D.int (a * b), false) else none) = _
  rw [okq_m ha, okq_m hb]
  rfl
theorem f2_ok {g : Sto → D → D → Option (D × Bool)} {fa fb : FE} {e : Fr} {st : Sto} {x y : D} {b c : Bool} (ha : fa e st = .ok x b st) (hb : fb e st = .ok y c st) : f2 g fa fb e st = ofO st (g st x y) := by
  unfold f2 fBind
  rw [ha]
  simp only []
  rw [hb]
theorem acons_ok {f : FE} {g : FA} {e : Fr} {st : Sto} {x : D} {xs : List D} {b : Bool} (h : f e st = .ok x b st) (h2 : g e st = .ok xs st) : aCons f g e st = .ok (x :: xs) st := by
  unfold aCons
  rw [h]
  simp only []
  rw [h2]
theorem mkFn2 (b : FS) (x y : D) (st : Sto) : mkFn 2 2 b [x, y] st = endB st.length (b ⟨st.length, [some x, some y]⟩ st) := rfl
theorem fSeq_ret {f g : FS} {e : Fr} {d : D} {fr : Bool} {st st' : Sto} (h : f e st = .ret d fr st') : fSeq f g e st = .ret d fr st' := by
  unfold fSeq
  rw [h]
theorem ret_q {f : FA} {ds : List D} {e : Fr} {st : Sto} (h : f e st = .ok ds st) : fSeq (fRet (fCall q_told_fraction f)) fNxt e st = match noX (q_told_fraction ds st) with | .ok d fr st' => .ret d fr st' | .exc c d st' => .exc c d e.s st' | .stuck => .stuck := by
  unfold fSeq fRet fBindS fCall
  rw [h]
  simp only []
  cases noX (q_told_fraction ds st) <;> rfl
section
variable (a b c d : Int) (st : Sto)
abbrev frQ : Fr := ⟨st.length, [some (.tup [.int a, .int b]), some (.tup [.int c, .int d])]⟩
theorem i00 : f2 gIx (fV 0) (fC (.int 0)) (frQ a b c d st) st = .ok (.int a) false st := rfl
theorem i01 : f2 gIx (fV 0) (fC (.int 1)) (frQ a b c d st) st = .ok (.int b) false st := rfl
theorem i10 : f2 gIx (fV 1) (fC (.int 0)) (frQ a b c d st) st = .ok (.int c) false st := rfl
theorem i11 : f2 gIx (fV 1) (fC (.int 1)) (frQ a b c d st) st = .ok (.int d) false st := rfl
end
theorem mul_f {fa fb : FE} {e : Fr} {st : Sto} {x y : Int} (ha : fa e st = .ok (.int x) false st) (hb : fb e st = .ok (.int y) false st) (hx : okq x) (hy : okq y) : f2 gMul fa fb e st = .ok (.int (x * y)) false st := by
  rw [f2_ok ha hb, mul_q st hx hy]
  rfl
theorem add_f {fa fb : FE} {e : Fr} {st : Sto} {x y : Int} (ha : fa e st = .ok (.int x) false st) (hb : fb e st = .ok (.int y) false st) : f2 gAdd fa fb e st = .ok (.int (x + y)) false st := by
  rw [f2_ok ha hb]
  rfl
theorem anil_ok (e : Fr) (st : Sto) : aNil e st = .ok [] st := rfl
def q_plus : FF := fun ds st => match ds with
  | [.tup [.int a, .int b], .tup [.int c, .int d]] => if (okq a ∧ okq b) ∧ okq c ∧ okq d then (if (b == d) = true then q_told_fraction [.int (a + c), .int b] st else q_told_fraction [.int (a * d + c * b), .int (b * d)] st) else .stuck
  | _ => .stuck
theorem r_plus : Ref f_plus q_plus := by
  intro ds st
  unfold q_plus
  split
  · rename_i a b c d
    split
    · rename_i h
      obtain ⟨⟨ha, hb⟩, hc, hd⟩ := h
      have ec : ∀ (F G : FS), fIfS (f2 gEq (f2 gIx (fV 0) (fC (.int 1))) (f2 gIx (fV 1) (fC (.int 1)))) F G (frQ a b c d st) st = (if (b == d) = true then F else G) (frQ a b c d st) st := fun F G => rfl
      by_cases hbd : (b == d) = true
      · rw [if_pos hbd]
        have e2 := ret_q (acons_ok (add_f (i00 a b c d st) (i10 a b c d st)) (acons_ok (i01 a b c d st) (anil_ok _ st)))
        rcases q_fr [.int (a + c), .int b] st with e | ⟨xs, e⟩
        · exact .inl e
        · refine .inr ?_
          rw [e] at e2 ⊢
          have e3 := (ec _ fNxt).trans ((congrFun (congrFun (if_pos hbd) _) _).trans e2)
          rw [show f_plus = mkFn 2 2 b_plus from rfl, mkFn2]
          unfold b_plus
          rw [fSeq_ret e3]
          show R.ok (.tup xs) false (st.take st.length) = _
          rw [List.take_length]
      · rw [if_neg hbd]
        have e2 := ret_q (acons_ok (add_f (mul_f (i00 a b c d st) (i11 a b c d st) ha hd) (mul_f (i10 a b c d st) (i01 a b c d st) hc hb)) (acons_ok (mul_f (i01 a b c d st) (i11 a b c d st) hb hd) (anil_ok _ st)))
        rcases q_fr [.int (a * d + c * b), .int (b * d)] st with e | ⟨xs, e⟩
        · exact .inl e
        · refine .inr ?_
          rw [e] at e2 ⊢
          have e0 : ∀ F : FS, fIfS (f2 gEq (f2 gIx (fV 0) (fC (.int 1))) (f2 gIx (fV 1) (fC (.int 1)))) F fNxt (frQ a b c d st) st = .nxt (frQ a b c d st).s st := fun F => by
            rw [ec, if_neg hbd]; rfl
          rw [show f_plus = mkFn 2 2 b_plus from rfl, mkFn2]
          unfold b_plus
          rw [fSeq_nxt (e0 _), e2]
          show R.ok (.tup xs) false (st.take st.length) = _
          rw [List.take_length]
    · exact .inl rfl
  · exact .inl rfl
theorem ok_q_plus (hX : XAok XA) (G : Tops K mg) : Fn P w K mg base XA "plus" ["one", "other"] 3 q_plus := (ok_plus hX G).ref r_plus
/-! opposite -/
def b_opposite : FS := fSeq (fRet (fN gTup (aCons (f1 gNeg (f2 gIx (fV 0) (fC (.int 0)))) (aCons (f2 gIx (fV 0) (fC (.int 1))) (aNil))))) (fNxt)
def f_opposite : FF := mkFn 1 1 b_opposite
abbrev N_opposite : List Str := ["one"]
theorem sc_opposite : FnScope N_opposite ["one"] (defScope (topS 20)) := ⟨rfl, rfl, rfl, by decide +kernel, rfl, by decide +kernel, by decide +kernel⟩
theorem ok_opposite (hX : XAok XA) (G : Tops K mg) : Fn P w K mg base XA "opposite" ["one"] 1 f_opposite := by
  obtain ⟨f, fd, F, hm⟩ := (G.fd "opposite" 20 (by decide +kernel)).ex
  refine ⟨f, fd, hm, F.kp, F.bindsN (fun _ _ _ _ _ _ us hl => match us, hl with | [_], _ => rfl), fn_ok hX F sc_opposite fun cdv A outer s H E hr => PSs.nox ?_⟩
  exact b_cons (s_ret (e_tup (a_cons (e_neg (e_ix ix_seq g_ix (e_var (pv 0)) (e_const pe_int fun _ _ => .int _) (fun _ _ => rfl))) (a_cons (e_ix ix_seq g_ix (e_var (pv 0)) (e_const pe_int fun _ _ => .int _) (fun _ _ => rfl)) (a_nil)))))
    (b_nil)
/-! minus -/
def b_minus : FS := fSeq (fRet (fCall q_plus (aCons (fV 0) (aCons (fCall f_opposite (aCons (fV 1) (aNil))) (aNil))))) (fNxt)
def f_minus : FF := mkFn 2 2 b_minus
abbrev N_minus : List Str := ["one", "other"]
theorem sc_minus : FnScope N_minus ["one", "other"] (defScope (topS 21)) := ⟨rfl, rfl, rfl, by decide +kernel, rfl, by decide +kernel, by decide +kernel⟩
theorem ok_minus (hX : XAok XA) (G : Tops K mg) : Fn P w K mg base XA "minus" ["one", "other"] 4 f_minus := by
  obtain ⟨f, fd, F, hm⟩ := (G.fd "minus" 21 (by decide +kernel)).ex
  refine ⟨f, fd, hm, F.kp, F.bindsN (fun _ _ _ _ _ _ us hl => match us, hl with | [_, _], _ => rfl), fn_ok hX F sc_minus fun cdv A outer s H E hr => PSs.nox ?_⟩
  exact b_cons (s_ret (e_fn (ok_q_plus hX G) hr (by decide) rfl (a_cons (e_var (pv 0)) (a_cons (e_fn (ok_opposite hX G) hr (by decide) rfl (a_cons (e_var (pv 1)) (a_nil)) (by decide)) (a_nil))) (by decide)))
    (b_nil)
/-! times -/
def b_times : FS := fSeq (fRet (fCall q_told_fraction (aCons (f2 gMul (f2 gIx (fV 0) (fC (.int 0))) (f2 gIx (fV 1) (fC (.int 0)))) (aCons (f2 gMul (f2 gIx (fV 0) (fC (.int 1))) (f2 gIx (fV 1) (fC (.int 1)))) (aNil))))) (fNxt)
def f_times : FF := mkFn 2 2 b_times
abbrev N_times : List Str := ["one", "other"]
theorem sc_times : FnScope N_times ["one", "other"] (defScope (topS 22)) := ⟨rfl, rfl, rfl, by decide +kernel, rfl, by decide +kernel, by decide +kernel⟩
theorem ok_times (hX : XAok XA) (G : Tops K mg) : Fn P w K mg base XA "times" ["one", "other"] 3 f_times := by
  obtain ⟨f, fd, F, hm⟩ := (G.fd "times" 22 (by decide +kernel)).ex
  refine ⟨f, fd, hm, F.kp, F.bindsN (fun _ _ _ _ _ _ us hl => match us, hl with | [_, _], _ => rfl), fn_ok hX F sc_times fun cdv A outer s H E hr => PSs.nox ?_⟩
  exact b_cons (s_ret (e_fn (ok_q_told_fraction hX G) hr (by decide) rfl (a_cons (e_bin op_mulA g_mul (e_ix ix_seq g_ix (e_var (pv 0)) (e_const pe_int fun _ _ => .int _) (fun _ _ => rfl)) (e_ix ix_seq g_ix (e_var (pv 1)) (e_const pe_int fun _ _ => .int _) (fun _ _ => rfl))) (a_cons (e_bin op_mulA g_mul (e_ix ix_seq g_ix (e_var (pv 0)) (e_const pe_int fun _ _ => .int _) (fun _ _ => rfl)) (e_ix ix_seq g_ix (e_var (pv 1)) (e_const pe_int fun _ _ => .int _) (fun _ _ => rfl))) (a_nil))) (by decide)))
    (b_nil)
def q_times : FF := fun ds st => match ds with
  | [.tup [.int a, .int b], .tup [.int c, .int d]] => if (okq a ∧ okq b) ∧ okq c ∧ okq d then q_told_fraction [.int (a * c), .int (b * d)] st else .stuck
  | _ => .stuck
theorem r_times : Ref f_times q_times := by
  intro ds st
  unfold q_times
  split
  · rename_i a b c d
    split
    · rename_i h
      obtain ⟨⟨ha, hb⟩, hc, hd⟩ := h
      have e2 := ret_q (acons_ok (mul_f (i00 a b c d st) (i10 a b c d st) ha hc) (acons_ok (mul_f (i01 a b c d st) (i11 a b c d st) hb hd) (anil_ok _ st)))
      rcases q_fr [.int (a * c), .int (b * d)] st with e | ⟨xs, e⟩
      · exact .inl e
      · refine .inr ?_
        rw [e] at e2 ⊢
        rw [show f_times = mkFn 2 2 b_times from rfl, mkFn2]
        unfold b_times
        rw [e2]
        show R.ok (.tup xs) false (st.take st.length) = _
        rw [List.take_length]
    · exact .inl rfl
  · exact .inl rfl
theorem ok_q_times (hX : XAok XA) (G : Tops K mg) : Fn P w K mg base XA "times" ["one", "other"] 3 q_times := (ok_times hX G).ref r_times
/-! over -/
def b_over : FS := fSeq (fRet (fCall q_told_fraction (aCons (f2 gMul (f2 gIx (fV 0) (fC (.int 0))) (f2 gIx (fV 1) (fC (.int 1)))) (aCons (f2 gMul (f2 gIx (fV 0) (fC (.int 1))) (f2 gIx (fV 1) (fC (.int 0)))) (aNil))))) (fNxt)
def f_over : FF := mkFn 2 2 b_over
abbrev N_over : List Str := ["one", "other"]
theorem sc_over : FnScope N_over ["one", "other"] (defScope (topS 23)) := ⟨rfl, rfl, rfl, by decide +kernel, rfl, by decide +kernel, by decide +kernel⟩
theorem ok_over (hX : XAok XA) (G : Tops K mg) : Fn P w K mg base XA "over" ["one", "other"] 3 f_over := by
  obtain ⟨f, fd, F, hm⟩ := (G.fd "over" 23 (by decide +kernel)).ex
  refine ⟨f, fd, hm, F.kp, F.bindsN (fun _ _ _ _ _ _ us hl => match us, hl with | [_, _], _ => rfl), fn_ok hX F sc_over fun cdv A outer s H E hr => PSs.nox ?_⟩
  exact b_cons (s_ret (e_fn (ok_q_told_fraction hX G) hr (by decide) rfl (a_cons (e_bin op_mulA g_mul (e_ix ix_seq g_ix (e_var (pv 0)) (e_const pe_int fun _ _ => .int _) (fun _ _ => rfl)) (e_ix ix_seq g_ix (e_var (pv 1)) (e_const pe_int fun _ _ => .int _) (fun _ _ => rfl))) (a_cons (e_bin op_mulA g_mul (e_ix ix_seq g_ix (e_var (pv 0)) (e_const pe_int fun _ _ => .int _) (fun _ _ => rfl)) (e_ix ix_seq g_ix (e_var (pv 1)) (e_const pe_int fun _ _ => .int _) (fun _ _ => rfl))) (a_nil))) (by decide)))
    (b_nil)
/-! power -/
def b_power : FS := fSeq (fAsg (gN 2) (fC c_ONE)) (fSeq (fFor (fItA (aCons (fV 1) (aNil)) kR1) (gN 3) (fSeq (fAsg (gN 2) (fCall q_times (aCons (fV 2) (aCons (fV 0) (aNil))))) (fNxt))) (fSeq (fRet (fV 2)) (fNxt)))
def f_power : FF := mkFn 2 4 b_power
abbrev N_power : List Str := ["one", "many", "found", "lap"]
theorem sc_power : FnScope N_power ["one", "many"] (defScope (topS 24)) := ⟨rfl, rfl, rfl, by decide +kernel, rfl, by decide +kernel, by decide +kernel⟩
theorem ok_power (hX : XAok XA) (G : Tops K mg) : Fn P w K mg base XA "power" ["one", "many"] 4 f_power := by
  obtain ⟨f, fd, F, hm⟩ := (G.fd "power" 24 (by decide +kernel)).ex
  refine ⟨f, fd, hm, F.kp, F.bindsN (fun _ _ _ _ _ _ us hl => match us, hl with | [_, _], _ => rfl), fn_ok hX F sc_power fun cdv A outer s H E hr => PSs.nox ?_⟩
  exact b_cons (s_asg (e_gc (G.c_ONE) rfl) (gl_name (pg_name sc_power.nd rfl (by first | exact .inl rfl | exact .inr rfl))))
    (b_cons (s_for PassesOwn.never rfl (i_rng1 rfl (G.fr _ (by decide +kernel)) (a_cons (e_var (pv 1)) (a_nil))) (gl_name (pg_name sc_power.nd rfl (by first | exact .inl rfl | exact .inr rfl))) (b_cons (s_asg (e_fn (ok_q_times hX G) hr (by decide) rfl (a_cons (e_var (pv 2)) (a_cons (e_var (pv 0)) (a_nil))) (by decide)) (gl_name (pg_name sc_power.nd rfl (by first | exact .inl rfl | exact .inr rfl))))
    (b_nil)))
    (b_cons (s_ret (e_var (pv 2)))
    (b_nil)))
/-! told_sign -/
def b_told_sign : FS := fSeq (fRet (f2 (gInt kSub) (fN gIntOf (aCons (f2 (gInt kGt) (f2 gIx (fV 0) (fC (.int 0))) (fC (.int 0))) (aNil))) (fN gIntOf (aCons (f2 (gInt kLt) (f2 gIx (fV 0) (fC (.int 0))) (fC (.int 0))) (aNil))))) (fNxt)
def f_told_sign : FF := mkFn 1 1 b_told_sign
abbrev N_told_sign : List Str := ["one"]
theorem sc_told_sign : FnScope N_told_sign ["one"] (defScope (topS 25)) := ⟨rfl, rfl, rfl, by decide +kernel, rfl, by decide +kernel, by decide +kernel⟩
theorem ok_told_sign (hX : XAok XA) (G : Tops K mg) : Fn P w K mg base XA "told_sign" ["one"] 1 f_told_sign := by
  obtain ⟨f, fd, F, hm⟩ := (G.fd "told_sign" 25 (by decide +kernel)).ex
  refine ⟨f, fd, hm, F.kp, F.bindsN (fun _ _ _ _ _ _ us hl => match us, hl with | [_], _ => rfl), fn_ok hX F sc_told_sign fun cdv A outer s H E hr => PSs.nox ?_⟩
  exact b_cons (s_ret (e_bin op_sub g_sub (e_callTy call_int1 g_intOf rfl (G.fr _ (by decide +kernel)) boot_int (a_cons (e_cmp op_gt g_gt (e_ix ix_seq g_ix (e_var (pv 0)) (e_const pe_int fun _ _ => .int _) (fun _ _ => rfl)) (e_const pe_int fun _ _ => .int _) (nomark _)) (a_nil))) (e_callTy call_int1 g_intOf rfl (G.fr _ (by decide +kernel)) boot_int (a_cons (e_cmp op_lt g_lt (e_ix ix_seq g_ix (e_var (pv 0)) (e_const pe_int fun _ _ => .int _) (fun _ _ => rfl)) (e_const pe_int fun _ _ => .int _) (nomark _)) (a_nil)))))
    (b_nil)
/-! added -/
def b_added : FS := fSeq (fAsg (gN 1) (fC c_NOUGHT)) (fSeq (fFor (fIt (fV 0) kSeq) (gN 2) (fSeq (fAsg (gN 1) (fCall q_plus (aCons (fV 1) (aCons (fV 2) (aNil))))) (fNxt))) (fSeq (fRet (fV 1)) (fNxt)))
def f_added : FF := mkFn 1 3 b_added
abbrev N_added : List Str := ["some", "found", "one"]
theorem sc_added : FnScope N_added ["some"] (defScope (topS 26)) := ⟨rfl, rfl, rfl, by decide +kernel, rfl, by decide +kernel, by decide +kernel⟩
theorem ok_added (hX : XAok XA) (G : Tops K mg) : Fn P w K mg base XA "added" ["some"] 4 f_added := by
  obtain ⟨f, fd, F, hm⟩ := (G.fd "added" 26 (by decide +kernel)).ex
  refine ⟨f, fd, hm, F.kp, F.bindsN (fun _ _ _ _ _ _ us hl => match us, hl with | [_], _ => rfl), fn_ok hX F sc_added fun cdv A outer s H E hr => PSs.nox ?_⟩
  exact b_cons (s_asg (e_gc (G.c_NOUGHT) rfl) (gl_name (pg_name sc_added.nd rfl (by first | exact .inl rfl | exact .inr rfl))))
    (b_cons (s_for PassesOwn.never rfl (i_seq (e_var (pv 0))) (gl_name (pg_name sc_added.nd rfl (by first | exact .inl rfl | exact .inr rfl))) (b_cons (s_asg (e_fn (ok_q_plus hX G) hr (by decide) rfl (a_cons (e_var (pv 1)) (a_cons (e_var (pv 2)) (a_nil))) (by decide)) (gl_name (pg_name sc_added.nd rfl (by first | exact .inl rfl | exact .inr rfl))))
    (b_nil)))
    (b_cons (s_ret (e_var (pv 1)))
    (b_nil)))
/-! is_row -/
def b_is_row : FS := fSeq (fRet (fAnd (f1 (gIsi .tup) (fV 0)) (fAnd (f2 (gInt kLe) (fN gLen (aCons (fV 0) (aNil))) (fV 1)) (fN gAll (aCons (fComp (fIt (fV 0) kSeq) (gN 2) (fYes) (fCall f_is_fraction (aCons (fV 2) (aNil))) [2]) (aNil)))))) (fNxt)
def f_is_row : FF := mkFn 2 3 b_is_row
abbrev N_is_row : List Str := ["value", "most", "one"]
theorem sc_is_row : FnScope N_is_row ["value", "most"] (defScope (topS 27)) := ⟨rfl, rfl, rfl, by decide +kernel, rfl, by decide +kernel, by decide +kernel⟩
theorem ok_is_row (hX : XAok XA) (G : Tops K mg) : Fn P w K mg base XA "is_row" ["value", "most"] 4 f_is_row := by
  obtain ⟨f, fd, F, hm⟩ := (G.fd "is_row" 27 (by decide +kernel)).ex
  refine ⟨f, fd, hm, F.kp, F.bindsN (fun _ _ _ _ _ _ us hl => match us, hl with | [_, _], _ => rfl), fn_ok hX F sc_is_row fun cdv A outer s H E hr => PSs.nox ?_⟩
  exact b_cons (s_ret (e_and (e_isi (c := .tup) rfl (G.fr _ (by decide +kernel)) rfl (G.fr _ (by decide +kernel)) boot_tuple (e_var (pv 0)) boot_isinstance (by decide) (by decide)) (e_and (e_cmp op_le g_le (e_callB call_len g_len rfl (G.fr _ (by decide +kernel)) boot_len (a_cons (e_var (pv 0)) (a_nil))) (e_var (pv 1)) (nomark _)) (pe_one (e_callB (cr_all rfl) g_all rfl (G.fr _ (by decide +kernel)) boot_all (a_cons (e_comp (own := [("one", 2)]) rfl sc_is_row.nd (i_seq (e_var (pv 0))) (show BlkOk N_is_row (defScope (topS 27)) _ [("one", 2)] from ⟨rfl, by decide +kernel, by decide +kernel, by decide +kernel, by decide +kernel⟩) (gb_name fun _ _ _ _ _ => pg_name sc_is_row.nd rfl (by first | exact .inl rfl | exact .inr rfl)).ex (by decide) (fun _ _ _ _ _ => ts_nil) (fun _ _ _ _ _ => e_fn (ok_is_fraction hX G) hr (by decide) rfl (a_cons (e_var (pv 2)) (a_nil)) (by decide))) (a_nil)))))))
    (b_nil)
/-! is_word -/
def b_is_word : FS := fSeq (fIfS (fOr (f1 gNot (f1 (gIsi .str) (fV 0))) (f1 gNot (fN gAll (aCons (fComp (fIt (fV 0) kSeq) (gN 1) (fYes) (f2 (gIn false) (fV 1) (fC c_LETTERS)) [1]) (aNil))))) (fSeq (fRet (fC (.bl false))) (fNxt)) (fNxt)) (fSeq (fRet (f2 (gInt kLe) (fN gLen (aCons (fV 0) (aNil))) (fIf (f2 (gIn false) (fC (.str [99])) (fV 0)) (fC c_MOST_WIDE) (fC c_MOST_LONG)))) (fNxt))
def f_is_word : FF := mkFn 1 2 b_is_word
abbrev N_is_word : List Str := ["value", "letter"]
theorem sc_is_word : FnScope N_is_word ["value"] (defScope (topS 33)) := ⟨rfl, rfl, rfl, by decide +kernel, rfl, by decide +kernel, by decide +kernel⟩
theorem ok_is_word (hX : XAok XA) (G : Tops K mg) : Fn P w K mg base XA "is_word" ["value"] 1 f_is_word := by
  obtain ⟨f, fd, F, hm⟩ := (G.fd "is_word" 33 (by decide +kernel)).ex
  refine ⟨f, fd, hm, F.kp, F.bindsN (fun _ _ _ _ _ _ us hl => match us, hl with | [_], _ => rfl), fn_ok hX F sc_is_word fun cdv A outer s H E hr => PSs.nox ?_⟩
  exact b_cons (s_ifs (PW.pt (w_or (t_not (t_val (e_isi (c := .str) rfl (G.fr _ (by decide +kernel)) rfl (G.fr _ (by decide +kernel)) boot_str (e_var (pv 0)) boot_isinstance (by decide) (by decide)))) (pw_or1 (t_not (t_val (e_callB (cr_all rfl) g_all rfl (G.fr _ (by decide +kernel)) boot_all (a_cons (e_comp (own := [("letter", 1)]) rfl sc_is_word.nd (i_seq (e_var (pv 0))) (show BlkOk N_is_word (defScope (topS 33)) _ [("letter", 1)] from ⟨rfl, by decide +kernel, by decide +kernel, by decide +kernel, by decide +kernel⟩) (gb_name fun _ _ _ _ _ => pg_name sc_is_word.nd rfl (by first | exact .inl rfl | exact .inr rfl)).ex (by decide) (fun _ _ _ _ _ => ts_nil) (fun _ _ _ _ _ => e_cmp (op_in2 (hu65 hr)) g_in (e_var (pv 1)) (e_gc (G.c_LETTERS) rfl) (by rfl))) (a_nil)))))))) (b_cons (s_ret (e_const pe_bl fun _ _ => .bl _))
    (b_nil)) (b_nil))
    (b_cons (s_ret (e_cmp op_le g_le (e_callB call_len g_len rfl (G.fr _ (by decide +kernel)) boot_len (a_cons (e_var (pv 0)) (a_nil))) (e_if (t_cmp (op_in2 (hu65 hr)) g_in (e_const pe_str fun _ _ => .str _) (e_var (pv 0)) (by rfl)) (e_gc (G.c_MOST_WIDE) rfl) (e_gc (G.c_MOST_LONG) rfl)) (nomark _)))
    (b_nil))
/-! is_wide -/
def b_is_wide : FS := fSeq (fRet (fAnd (fCall f_is_exact (aCons (fV 0) (aNil))) (fAnd (fCall f_is_int (aCons (f2 gIx (fV 0) (fC (.int 0))) (aCons (f1 gNeg (fC c_MOST_PART)) (aCons (fC c_MOST_PART) (aNil))))) (f2 (gInt kLe) (f2 gIx (fV 0) (fC (.int 1))) (fC c_MOST_PART))))) (fNxt)
def f_is_wide : FF := mkFn 1 1 b_is_wide
abbrev N_is_wide : List Str := ["value"]
theorem sc_is_wide : FnScope N_is_wide ["value"] (defScope (topS 34)) := ⟨rfl, rfl, rfl, by decide +kernel, rfl, by decide +kernel, by decide +kernel⟩
theorem ok_is_wide (hX : XAok XA) (G : Tops K mg) : Fn P w K mg base XA "is_wide" ["value"] 3 f_is_wide := by
  obtain ⟨f, fd, F, hm⟩ := (G.fd "is_wide" 34 (by decide +kernel)).ex
  refine ⟨f, fd, hm, F.kp, F.bindsN (fun _ _ _ _ _ _ us hl => match us, hl with | [_], _ => rfl), fn_ok hX F sc_is_wide fun cdv A outer s H E hr => PSs.nox ?_⟩
  exact b_cons (s_ret (e_and (e_fn (ok_is_exact hX G) hr (by decide) rfl (a_cons (e_var (pv 0)) (a_nil)) (by decide)) (e_and (e_fn (ok_is_int hX G) hr (by decide) rfl (a_cons (e_ix ix_seq g_ix (e_var (pv 0)) (e_const pe_int fun _ _ => .int _) (fun _ _ => rfl)) (a_cons (e_neg (e_gc (G.c_MOST_PART) rfl)) (a_cons (e_gc (G.c_MOST_PART) rfl) (a_nil)))) (by decide)) (pe_one (e_cmp op_le g_le (e_ix ix_seq g_ix (e_var (pv 0)) (e_const pe_int fun _ _ => .int _) (fun _ _ => rfl)) (e_gc (G.c_MOST_PART) rfl) (nomark _))))))
    (b_nil)
end
end M85

set_option Elab.async false
set_option maxRecDepth 100000
set_option maxHeartbeats 4000000
namespace M85
open PySem PySem.Spec PyProof.Rows L2 EV
section
variable {P : Program} {w : World} {K : PySem.W.Frag} {mg : Str → Option Value} {base : Heap} {XA : XAT}
/-! told_keys -/
def b_told_keys : FS := fSeq (fRet (fComp (fIt (fN gSorted (aCons (fComp (fIt (fV 0) kSeq) (gN 2) (fYes) (fN gTup (aCons (fN gLen (aCons (fV 2) (aNil))) (aCons (fV 2) (aNil)))) [2]) (aNil))) kSeq) (gT 2 (gsC (gN 1) (gsC (gN 2) (gsN)))) (fYes) (fV 2) [1, 2])) (fNxt)
def f_told_keys : FF := mkFn 1 3 b_told_keys
abbrev N_told_keys : List Str := ["some", "long", "word"]
theorem sc_told_keys : FnScope N_told_keys ["some"] (defScope (topS 35)) := ⟨rfl, rfl, rfl, by decide +kernel, rfl, by decide +kernel, by decide +kernel⟩
theorem ok_told_keys (hX : XAok XA) (G : Tops K mg) : Fn P w K mg base XA "told_keys" ["some"] 1 f_told_keys := by
  obtain ⟨f, fd, F, hm⟩ := (G.fd "told_keys" 35 (by decide +kernel)).ex
  refine ⟨f, fd, hm, F.kp, F.bindsN (fun _ _ _ _ _ _ us hl => match us, hl with | [_], _ => rfl), fn_ok hX F sc_told_keys fun cdv A outer s H E hr => PSs.nox ?_⟩
  exact b_cons (s_ret (e_comp (own := [("long", 1), ("word", 2)]) rfl sc_told_keys.nd (i_seq (e_callB (cr_sortD hr.units) g_sorted rfl (G.fr _ (by decide +kernel)) boot_sorted (a_cons (e_comp (own := [("word", 2)]) rfl sc_told_keys.nd (i_seq (e_var (pv 0))) (show BlkOk N_told_keys (defScope (topS 35)) _ [("word", 2)] from ⟨rfl, by decide +kernel, by decide +kernel, by decide +kernel, by decide +kernel⟩) (gb_name fun _ _ _ _ _ => pg_name sc_told_keys.nd rfl (by first | exact .inl rfl | exact .inr rfl)).ex (by decide) (fun _ _ _ _ _ => ts_nil) (fun _ _ _ _ _ => e_tup (a_cons (e_callB call_len g_len rfl (G.fr _ (by decide +kernel)) boot_len (a_cons (e_var (pv 2)) (a_nil))) (a_cons (e_var (pv 2)) (a_nil))))) (a_nil)))) (show BlkOk N_told_keys (defScope (topS 35)) _ [("long", 1), ("word", 2)] from ⟨rfl, by decide +kernel, by decide +kernel, by decide +kernel, by decide +kernel⟩) (gb_tup rfl (gbs_cons (gb_name fun _ _ _ _ _ => pg_name sc_told_keys.nd rfl (by first | exact .inl rfl | exact .inr rfl)) (gbs_cons (gb_name fun _ _ _ _ _ => pg_name sc_told_keys.nd rfl (by first | exact .inl rfl | exact .inr rfl)) (gbs_nil)))).ex (by decide) (fun _ _ _ _ _ => ts_nil) (fun _ _ _ _ _ => e_var (pv 2))))
    (b_nil)
/-! told_keys -/
def b_told_keys_d : FS := fSeq (fRet (fComp (fIt (fN gSorted (aCons (fCompD 0 itKeys (gN 2) (fYes) (fN gTup (aCons (fN gLen (aCons (fV 2) (aNil))) (aCons (fV 2) (aNil)))) [2]) (aNil))) kSeq) (gT 2 (gsC (gN 1) (gsC (gN 2) (gsN)))) (fYes) (fV 2) [1, 2])) (fNxt)
def f_told_keys_d : FF := mkFn 1 3 b_told_keys_d
abbrev N_told_keys_d : List Str := ["some", "long", "word"]
theorem sc_told_keys_d : FnScope N_told_keys_d ["some"] (defScope (topS 35)) := ⟨rfl, rfl, rfl, by decide +kernel, rfl, by decide +kernel, by decide +kernel⟩
theorem ok_told_keys_d (hX : XAok XA) (G : Tops K mg) : Fn P w K mg base XA "told_keys" ["some"] 1 f_told_keys_d := by
  obtain ⟨f, fd, F, hm⟩ := (G.fd "told_keys" 35 (by decide +kernel)).ex
  refine ⟨f, fd, hm, F.kp, F.bindsN (fun _ _ _ _ _ _ us hl => match us, hl with | [_], _ => rfl), fn_ok hX F sc_told_keys_d fun cdv A outer s H E hr => PSs.nox ?_⟩
  exact b_cons (s_ret (e_comp (own := [("long", 1), ("word", 2)]) rfl sc_told_keys_d.nd (i_seq (e_callB (cr_sortD hr.units) g_sorted rfl (G.fr _ (by decide +kernel)) boot_sorted (a_cons (e_compD (own := [("word", 2)]) rfl sc_told_keys_d.nd (id_keys (pv 0)) (show BlkOk N_told_keys_d (defScope (topS 35)) _ [("word", 2)] from ⟨rfl, by decide +kernel, by decide +kernel, by decide +kernel, by decide +kernel⟩) (gb_name fun _ _ _ _ _ => pg_name sc_told_keys_d.nd rfl (by first | exact .inl rfl | exact .inr rfl)).ex (by decide) (fun _ _ _ _ _ => ts_nil) (fun _ _ _ _ _ => e_tup (a_cons (e_callB call_len g_len rfl (G.fr _ (by decide +kernel)) boot_len (a_cons (e_var (pv 2)) (a_nil))) (a_cons (e_var (pv 2)) (a_nil))))) (a_nil)))) (show BlkOk N_told_keys_d (defScope (topS 35)) _ [("long", 1), ("word", 2)] from ⟨rfl, by decide +kernel, by decide +kernel, by decide +kernel, by decide +kernel⟩) (gb_tup rfl (gbs_cons (gb_name fun _ _ _ _ _ => pg_name sc_told_keys_d.nd rfl (by first | exact .inl rfl | exact .inr rfl)) (gbs_cons (gb_name fun _ _ _ _ _ => pg_name sc_told_keys_d.nd rfl (by first | exact .inl rfl | exact .inr rfl)) (gbs_nil)))).ex (by decide) (fun _ _ _ _ _ => ts_nil) (fun _ _ _ _ _ => e_var (pv 2))))
    (b_nil)
/-! look_at_long -/
def b_look_at_long : FS := fSeq (fIfS (f1 gNot (fCall f_is_int (aCons (fV 0) (aCons (fC (.int 0)) (aCons (fC c_MOST_LONG) (aNil)))))) (fSeq (fNever) (fNxt)) (fNxt)) (fNxt)
def f_look_at_long : FF := mkFn 1 1 b_look_at_long
abbrev N_look_at_long : List Str := ["long"]
theorem sc_look_at_long : FnScope N_look_at_long ["long"] (defScope (topS 36)) := ⟨rfl, rfl, rfl, by decide +kernel, rfl, by decide +kernel, by decide +kernel⟩
theorem ok_look_at_long (hX : XAok XA) (G : Tops K mg) : Fn P w K mg base XA "look_at_long" ["long"] 2 f_look_at_long := by
  obtain ⟨f, fd, F, hm⟩ := (G.fd "look_at_long" 36 (by decide +kernel)).ex
  refine ⟨f, fd, hm, F.kp, F.bindsN (fun _ _ _ _ _ _ us hl => match us, hl with | [_], _ => rfl), fn_ok hX F sc_look_at_long fun cdv A outer s H E hr => PSs.nox ?_⟩
  exact b_cons (s_ifs (t_not (t_val (e_fn (ok_is_int hX G) hr (by decide) rfl (a_cons (e_var (pv 0)) (a_cons (e_const pe_int fun _ _ => .int _) (a_cons (e_gc (G.c_MOST_LONG) rfl) (a_nil)))) (by decide)))) (b_cons (s_never)
    (b_nil)) (b_nil))
    (b_nil)
/-! look_at_letters -/
def b_look_at_letters : FS := fSeq (fIfS (fAnd (f2 (gInt kGt) (fV 1) (fC c_MOST_WIDE)) fBad) (fSeq (fNever) (fNxt)) (fNxt)) (fNxt)
def f_look_at_letters : FF := mkFn 2 5 b_look_at_letters
abbrev N_look_at_letters : List Str := ["sums", "long", "words", "word", "number"]
theorem sc_look_at_letters : FnScope N_look_at_letters ["sums", "long"] (defScope (topS 37)) := ⟨rfl, rfl, rfl, by decide +kernel, rfl, by decide +kernel, by decide +kernel⟩
theorem ok_look_at_letters (hX : XAok XA) (G : Tops K mg) : Fn P w K mg base XA "look_at_letters" ["sums", "long"] 1 f_look_at_letters := by
  obtain ⟨f, fd, F, hm⟩ := (G.fd "look_at_letters" 37 (by decide +kernel)).ex
  refine ⟨f, fd, hm, F.kp, F.bindsN (fun _ _ _ _ _ _ us hl => match us, hl with | [_, _], _ => rfl), fn_ok hX F sc_look_at_letters fun cdv A outer s H E hr => PSs.nox ?_⟩
  exact b_cons (s_ifs (PW.pt (w_and (t_cmp op_gt g_gt (e_var (pv 1)) (e_gc (G.c_MOST_WIDE) rfl) (nomark _)) w_bad)) (b_cons (s_never)
    (b_nil)) (b_nil))
    (b_nil)
/-! told_sum -/
def b_told_sum : FS := fSeq (fRet (fN gTupOf (aCons (fComp (fIt (fCall f_told_keys_d (aCons (fV 0) (aNil))) kSeq) (gN 1) (f2 gNe (f2 gDGet (fV 0) (fV 1)) (fC c_NOUGHT)) (fN gTup (aCons (fV 1) (aCons (f2 gDGet (fV 0) (fV 1)) (aNil)))) [1]) (aNil)))) (fNxt)
def f_told_sum : FF := mkFn 1 2 b_told_sum
abbrev N_told_sum : List Str := ["found", "word"]
theorem sc_told_sum : FnScope N_told_sum ["found"] (defScope (topS 38)) := ⟨rfl, rfl, rfl, by decide +kernel, rfl, by decide +kernel, by decide +kernel⟩
theorem ok_told_sum (hX : XAok XA) (G : Tops K mg) : Fn P w K mg base XA "told_sum" ["found"] 2 f_told_sum := by
  obtain ⟨f, fd, F, hm⟩ := (G.fd "told_sum" 38 (by decide +kernel)).ex
  refine ⟨f, fd, hm, F.kp, F.bindsN (fun _ _ _ _ _ _ us hl => match us, hl with | [_], _ => rfl), fn_ok hX F sc_told_sum fun cdv A outer s H E hr => PSs.nox ?_⟩
  exact b_cons (s_ret (e_callTy call_tuple_of g_tupOf rfl (G.fr _ (by decide +kernel)) boot_tuple (a_cons (e_comp (own := [("word", 1)]) rfl sc_told_sum.nd (i_seq (e_fn (ok_told_keys_d hX G) hr (by decide) rfl (a_cons (e_var (pv 0)) (a_nil)) (by decide))) (show BlkOk N_told_sum (defScope (topS 38)) _ [("word", 1)] from ⟨rfl, by decide +kernel, by decide +kernel, by decide +kernel, by decide +kernel⟩) (gb_name fun _ _ _ _ _ => pg_name sc_told_sum.nd rfl (by first | exact .inl rfl | exact .inr rfl)).ex (by decide) (fun _ _ _ _ _ => ts_one (t_cmp (op_neD hr.units) g_ne (e_dget (hu_of hr) (e_var (pv 0)) (e_var (pv 1)) (fun _ _ => rfl)) (e_gc (G.c_NOUGHT) rfl) (nomark _))) (fun _ _ _ _ _ => e_tup (a_cons (e_var (pv 1)) (a_cons (e_dget (hu_of hr) (e_var (pv 0)) (e_var (pv 1)) (fun _ _ => rfl)) (a_nil))))) (a_nil))))
    (b_nil)
/-! told_added -/
def b_told_added : FS := fSeq (fAsg (gN 3) (fCell (fN gDict (aCons (fV 0) (aNil))))) (fSeq (fForD 1 itItems (gT 2 (gsC (gN 4) (gsC (gN 5) (gsN)))) (fSeq (fPut setD (fV 3) (fV 4) (fCall q_plus (aCons (fRecv isDic (fV 3) fun x => fBind (fV 4) fun y => fBind (fC c_NOUGHT) fun z _ st => ofO st (gDGet2 st x y z)) (aCons (fCall q_times (aCons (fV 2) (aCons (fV 5) (aNil)))) (aNil))))) (fNxt))) (fSeq (fRet (fV 3)) (fNxt)))
def f_told_added : FF := mkFn 3 6 b_told_added
abbrev N_told_added : List Str := ["one", "other", "number", "found", "word", "part"]
theorem sc_told_added : FnScope N_told_added ["one", "other", "number"] (defScope (topS 39)) := ⟨rfl, rfl, rfl, by decide +kernel, rfl, by decide +kernel, by decide +kernel⟩
theorem ok_told_added (hX : XAok XA) (G : Tops K mg) : Fn P w K mg base XA "told_added" ["one", "other", "number"] 4 f_told_added := by
  obtain ⟨f, fd, F, hm⟩ := (G.fd "told_added" 39 (by decide +kernel)).ex
  refine ⟨f, fd, hm, F.kp, F.bindsN (fun _ _ _ _ _ _ us hl => match us, hl with | [_, _, _], _ => rfl), fn_ok hX F sc_told_added fun cdv A outer s H E hr => PSs.nox ?_⟩
  exact b_cons (s_asg (e_cell (e_callTy call_dictD g_dict rfl (G.fr _ (by decide +kernel)) boot_dict (a_cons (e_var (pv 0)) (a_nil)))) (gl_name (pg_name sc_told_added.nd rfl (by first | exact .inl rfl | exact .inr rfl))))
    (b_cons (s_forD PassesOwn.never rfl (id_items (pv 1)) (gl_tup rfl (gls_cons (gl_name (pg_name sc_told_added.nd rfl (by first | exact .inl rfl | exact .inr rfl))) (gls_cons (gl_name (pg_name sc_told_added.nd rfl (by first | exact .inl rfl | exact .inr rfl))) (gls_nil)))) (b_cons (s_setD (hu_of hr) (e_var (pv 3)) (e_var (pv 4)) (e_fn (ok_q_plus hX G) hr (by decide) rfl (a_cons (e_dget2 (hu_of hr) (e_var (pv 3)) (e_var (pv 4)) (e_gc (G.c_NOUGHT) rfl) ⟨rfl, rfl, rfl, rfl⟩) (a_cons (e_fn (ok_q_times hX G) hr (by decide) rfl (a_cons (e_var (pv 2)) (a_cons (e_var (pv 5)) (a_nil))) (by decide)) (a_nil))) (by decide)))
    (b_nil)))
    (b_cons (s_ret (e_var (pv 3)))
    (b_nil)))
/-! told_joined -/
def b_told_joined : FS := fSeq (fAsg (gN 3) (fCell (fDisp0))) (fSeq (fForD 0 itItems (gT 2 (gsC (gN 4) (gsC (gN 5) (gsN)))) (fSeq (fForD 1 itItems (gT 2 (gsC (gN 6) (gsC (gN 7) (gsN)))) (fSeq (fIfS (f2 (gInt kLe) (f2 gAdd (fN gLen (aCons (fV 4) (aNil))) (fN gLen (aCons (fV 6) (aNil)))) (fV 2)) (fSeq (fAsg (gN 8) (f2 gAdd (fV 4) (fV 6))) (fSeq (fPut setD (fV 3) (fV 8) (fCall q_plus (aCons (fRecv isDic (fV 3) fun x => fBind (fV 8) fun y => fBind (fC c_NOUGHT) fun z _ st => ofO st (gDGet2 st x y z)) (aCons (fCall q_times (aCons (fV 5) (aCons (fV 7) (aNil)))) (aNil))))) (fNxt))) (fNxt)) (fNxt))) (fNxt))) (fSeq (fRet (fDCompD 3 itItems (gT 2 (gsC (gN 8) (gsC (gN 9) (gsN)))) (f2 gNe (fV 9) (fC c_NOUGHT)) (fV 8) (fV 9) [8, 9])) (fNxt)))
def f_told_joined : FF := mkFn 3 10 b_told_joined
abbrev N_told_joined : List Str := ["one", "other", "long", "found", "first", "mine", "last", "its", "word", "part"]
theorem sc_told_joined : FnScope N_told_joined ["one", "other", "long"] (defScope (topS 40)) := ⟨rfl, rfl, rfl, by decide +kernel, rfl, by decide +kernel, by decide +kernel⟩
theorem ok_told_joined (hX : XAok XA) (G : Tops K mg) : Fn P w K mg base XA "told_joined" ["one", "other", "long"] 4 f_told_joined := by
  obtain ⟨f, fd, F, hm⟩ := (G.fd "told_joined" 40 (by decide +kernel)).ex
  refine ⟨f, fd, hm, F.kp, F.bindsN (fun _ _ _ _ _ _ us hl => match us, hl with | [_, _, _], _ => rfl), fn_ok hX F sc_told_joined fun cdv A outer s H E hr => PSs.nox ?_⟩
  exact b_cons (s_asg (e_cell (e_disp0)) (gl_name (pg_name sc_told_joined.nd rfl (by first | exact .inl rfl | exact .inr rfl))))
    (b_cons (s_forD PassesOwn.never rfl (id_items (pv 0)) (gl_tup rfl (gls_cons (gl_name (pg_name sc_told_joined.nd rfl (by first | exact .inl rfl | exact .inr rfl))) (gls_cons (gl_name (pg_name sc_told_joined.nd rfl (by first | exact .inl rfl | exact .inr rfl))) (gls_nil)))) (b_cons (s_forD PassesOwn.never rfl (id_items (pv 1)) (gl_tup rfl (gls_cons (gl_name (pg_name sc_told_joined.nd rfl (by first | exact .inl rfl | exact .inr rfl))) (gls_cons (gl_name (pg_name sc_told_joined.nd rfl (by first | exact .inl rfl | exact .inr rfl))) (gls_nil)))) (b_cons (s_ifs (t_cmp op_le g_le (e_bin op_addA g_add (e_callB call_len g_len rfl (G.fr _ (by decide +kernel)) boot_len (a_cons (e_var (pv 4)) (a_nil))) (e_callB call_len g_len rfl (G.fr _ (by decide +kernel)) boot_len (a_cons (e_var (pv 6)) (a_nil)))) (e_var (pv 2)) (nomark _)) (b_cons (s_asg (e_bin op_addA g_add (e_var (pv 4)) (e_var (pv 6))) (gl_name (pg_name sc_told_joined.nd rfl (by first | exact .inl rfl | exact .inr rfl))))
    (b_cons (s_setD (hu_of hr) (e_var (pv 3)) (e_var (pv 8)) (e_fn (ok_q_plus hX G) hr (by decide) rfl (a_cons (e_dget2 (hu_of hr) (e_var (pv 3)) (e_var (pv 8)) (e_gc (G.c_NOUGHT) rfl) ⟨rfl, rfl, rfl, rfl⟩) (a_cons (e_fn (ok_q_times hX G) hr (by decide) rfl (a_cons (e_var (pv 5)) (a_cons (e_var (pv 7)) (a_nil))) (by decide)) (a_nil))) (by decide)))
    (b_nil))) (b_nil))
    (b_nil)))
    (b_nil)))
    (b_cons (s_ret (e_dcompD (own := [("word", 8), ("part", 9)]) rfl sc_told_joined.nd (id_items (pv 3)) (show BlkOk N_told_joined (defScope (topS 40)) _ [("word", 8), ("part", 9)] from ⟨rfl, by decide +kernel, by decide +kernel, by decide +kernel, by decide +kernel⟩) (gb_tup rfl (gbs_cons (gb_name fun _ _ _ _ _ => pg_name sc_told_joined.nd rfl (by first | exact .inl rfl | exact .inr rfl)) (gbs_cons (gb_name fun _ _ _ _ _ => pg_name sc_told_joined.nd rfl (by first | exact .inl rfl | exact .inr rfl)) (gbs_nil)))).ex (by decide) (fun _ _ _ _ _ => ts_one (t_cmp (op_neD hr.units) g_ne (e_var (pv 9)) (e_gc (G.c_NOUGHT) rfl) (nomark _))) (fun _ _ _ _ _ => e_var (pv 8)) (fun _ _ _ _ _ => e_var (pv 9))))
    (b_nil)))
end
end M85

set_option Elab.async false
set_option maxRecDepth 100000
set_option maxHeartbeats 2000000
set_option exponentiation.threshold 20000
namespace M85
open EV FQ
def encQ (q : Q) : D := .tup [.int q.1, .int (q.2 : Int)]
def encP (p : W × Q) : K1 × D := (.inr (enW p.1), encQ p.2)
def encL (xs : List (W × Q)) : List (K1 × D) := xs.map encP
theorem frac_ok {x : Int} {d : Nat} (h : d ≠ 0) (h2 : d < 2 ^ 8000) (st : Sto) : q_told_fraction [.int x, .int (d : Int)] st = .ok (encQ (red x d)) false st := by
  unfold q_told_fraction
  simp only []
  have h3 : (d : Int) ≠ 0 ∧ (d : Int).natAbs < 2 ^ 8000 := ⟨by omega, by rw [Int.natAbs_natCast]; exact h2⟩
  rw [if_pos h3, if_neg (by omega), Int.natAbs_natCast]
  unfold encQ red
  simp only []
  rw [Int.natCast_ediv]
theorem times_ok {p q : Q} (hp : okQ p) (hq : okQ q) (st : Sto) : q_times [encQ p, encQ q] st = .ok (encQ (mulQ p q)) false st := by
  unfold q_times encQ
  simp only []
  rw [if_pos ⟨⟨hp.1, by rw [okq, Int.natAbs_natCast]; exact hp.2.1⟩, hq.1, by rw [okq, Int.natAbs_natCast]; exact hq.2.1⟩, ← Int.natCast_mul, frac_ok (Nat.mul_ne_zero hp.2.2 hq.2.2)]
  · rfl
  · exact Nat.lt_of_lt_of_le (Nat.mul_lt_mul'' hp.2.1 hq.2.1) (by rw [← Nat.pow_add]; exact Nat.pow_le_pow_right (by decide) (by decide))
theorem plus_ok {p q : Q} (hp : okQ p) (hq : okQ q) (st : Sto) : q_plus [encQ p, encQ q] st = .ok (encQ (addQ p q)) false st := by
  unfold q_plus encQ
  simp only []
  rw [if_pos ⟨⟨hp.1, by rw [okq, Int.natAbs_natCast]; exact hp.2.1⟩, hq.1, by rw [okq, Int.natAbs_natCast]; exact hq.2.1⟩]
  unfold addQ
  by_cases h : p.2 = q.2
  · rw [if_pos (by rw [h]; simp), if_pos h, frac_ok hp.2.2 (Nat.lt_trans hp.2.1 (Nat.pow_lt_pow_right (by decide) (by decide)))]
    rfl
  · rw [if_neg (fun z => h (by have := beq_iff_eq.mp z; omega)), if_neg h, ← Int.natCast_mul, frac_ok (Nat.mul_ne_zero hp.2.2 hq.2.2)]
    · rfl
    · exact Nat.lt_of_lt_of_le (Nat.mul_lt_mul'' hp.2.1 hq.2.1) (by rw [← Nat.pow_add]; exact Nat.pow_le_pow_right (by decide) (by decide))
theorem keq_enc (u v : W) : keqb (.inr (enW u)) (.inr (enW v)) = decide (u = v) := by
  rw [Bool.eq_iff_iff, decide_eq_true_iff]
  show lbeq (enW u) (enW v) = true ↔ _
  rw [lbeq_iff]
  exact ⟨enW_inj, fun h => by rw [h]⟩
theorem lk_enc (w : W) : ∀ acc : List (W × Q), lkD (encL acc) (.inr (enW w)) = (lkQ acc w).map encQ
  | [] => rfl
  | (k, q) :: r => by
    show (if keqb (.inr (enW k)) (.inr (enW w)) = true then some (encQ q) else lkD (encL r) (.inr (enW w))) = (if k = w then some q else lkQ r w).map encQ
    rw [keq_enc, lk_enc w r]
    by_cases h : k = w
    · rw [if_pos h, if_pos (by rw [decide_eq_true h])]; rfl
    · rw [if_neg h, if_neg (by rw [decide_eq_false h]; simp)]
theorem put_enc (w : W) (q : Q) (acc : List (W × Q)) : putD (encL acc) (.inr (enW w)) (encQ q) = encL (putQ acc w q) := by
  unfold putD putQ
  have e : ((encL acc).any fun kv => keqb kv.1 (.inr (enW w))) = hasQ acc w := by
    unfold encL hasQ
    rw [List.any_map]
    congr 1
    funext p
    exact keq_enc p.1 w
  rw [e]
  split
  · unfold encL
    rw [List.map_map, List.map_map]
    refine List.map_congr_left fun p _ => ?_
    show (if keqb (.inr (enW p.1)) (.inr (enW w)) = true then ((Sum.inr (enW p.1) : K1), encQ q) else ((Sum.inr (enW p.1) : K1), encQ p.2)) = encP (if p.1 = w then (p.1, q) else p)
    rw [keq_enc]
    by_cases h : p.1 = w
    · rw [if_pos h, if_pos (by rw [decide_eq_true h])]; rfl
    · rw [if_neg h, if_neg (by rw [decide_eq_false h]; simp)]; rfl
  · unfold encL
    rw [List.map_append]; rfl
theorem getD_enc (acc : List (W × Q)) (w : W) : (lkD (encL acc) (.inr (enW w))).getD c_NOUGHT = encQ ((lkQ acc w).getD zQ) := by
  rw [lk_enc]
  cases lkQ acc w <;> rfl
theorem fCall_ok {fs : FF} {f : FA} {e : Fr} {st st1 : Sto} {ds : List D} (h : f e st = .ok ds st1) : fCall fs f e st = noX (fs ds st1) := by
  unfold fCall
  rw [h]
theorem dicOf_cell {st : Sto} {i : Nat} {k : Bool} {kvs : List (K1 × D)} (h : st[i]? = some (.dic k kvs)) : dicOf st (.cell i) = some kvs := by
  have e : res st (.cell i) = .dic kvs := by
    show resC i st[i]? = _
    rw [h]; rfl
  unfold dicOf
  rw [e]
abbrev jC : FE := f2 (gInt kLe) (f2 gAdd (fN gLen (aCons (fV 4) (aNil))) (fN gLen (aCons (fV 6) (aNil)))) (fV 2)
abbrev jP : FS := fPut setD (fV 3) (fV 8) (fCall q_plus (aCons (fRecv isDic (fV 3) fun x => fBind (fV 8) fun y => fBind (fC c_NOUGHT) fun z _ st => ofO st (gDGet2 st x y z)) (aCons (fCall q_times (aCons (fV 5) (aCons (fV 7) (aNil)))) (aNil))))
abbrev jI : FS := fSeq (fIfS jC (fSeq (fAsg (gN 8) (f2 gAdd (fV 4) (fV 6))) (fSeq jP fNxt)) fNxt) fNxt
abbrev jG : FG := gT 2 (gsC (gN 6) (gsC (gN 7) (gsN)))
abbrev jO : FS := fSeq (fForD 1 itItems jG jI) fNxt
abbrev jH : FG := gT 2 (gsC (gN 4) (gsC (gN 5) (gsN)))
abbrev jR : FE := fDCompD 3 itItems (gT 2 (gsC (gN 8) (gsC (gN 9) (gsN)))) (f2 gNe (fV 9) (fC c_NOUGHT)) (fV 8) (fV 9) [8, 9]
theorem b_joined_eq : b_told_joined = fSeq (fAsg (gN 3) (fCell fDisp0)) (fSeq (fForD 0 itItems jH jO) (fSeq (fRet jR) fNxt)) := rfl
section
variable (b : Nat) (X Y : Option D) (L : Nat) (st : Sto) (k1 k2 : W) (m its : Q) (w p : Option D) (acc : List (W × Q))
abbrev jS (l i w : Option D) : List (Option D) := [X, Y, some (.int (L : Int)), some (.cell st.length), some (.str (enW k1)), some (encQ m), l, i, w, p]
abbrev jT : Sto := st ++ [.dic false (encL acc)]
theorem cell_at : (jT st acc)[st.length]? = some (.dic false (encL acc)) := List.getElem?_concat_length
theorem cond_ok (h1 : k1.length ≤ 1000) (h2 : k2.length ≤ 1000) : jC ⟨b, jS X Y L st k1 m p (some (.str (enW k2))) (some (encQ its)) w⟩ (jT st acc) = .ok (.bl (decide (k1.length + k2.length ≤ L))) false (jT st acc) := by
  have l1 : (enW k1).length = k1.length := List.length_map _
  have l2 : (enW k2).length = k2.length := List.length_map _
  have e1 : fN gLen (aCons (fV 4) aNil) ⟨b, jS X Y L st k1 m p (some (.str (enW k2))) (some (encQ its)) w⟩ (jT st acc) = .ok (.int (k1.length : Nat)) false (jT st acc) := by
    show ofO (jT st acc) ((lenOf (.str (enW k1))).map fun (n : Nat) => (D.int (n : Int), false)) = _
    unfold lenOf
    simp only []
    rw [if_pos (by rw [l1]; show k1.length ≤ 16777216; omega), l1]; rfl
  have e2 : fN gLen (aCons (fV 6) aNil) ⟨b, jS X Y L st k1 m p (some (.str (enW k2))) (some (encQ its)) w⟩ (jT st acc) = .ok (.int (k2.length : Nat)) false (jT st acc) := by
    show ofO (jT st acc) ((lenOf (.str (enW k2))).map fun (n : Nat) => (D.int (n : Int), false)) = _
    unfold lenOf
    simp only []
    rw [if_pos (by rw [l2]; show k2.length ≤ 16777216; omega), l2]; rfl
  refine (f2_ok (x := .int (((k1.length : Nat) : Int) + ((k2.length : Nat) : Int))) (b := false) ((f2_ok e1 e2).trans rfl) (show fV 2 _ _ = .ok (.int (L : Int)) false _ from rfl)).trans ?_
  show R.ok (.bl (decide (((k1.length : Nat) : Int) + ((k2.length : Nat) : Int) ≤ (L : Int)))) false (jT st acc) = _
  congr 2
  rw [Bool.eq_iff_iff, decide_eq_true_iff, decide_eq_true_iff]
  omega
theorem put_ok (hl : acc.length < 16000000) (hm : okQ m) (hi : okQ its) (u : W) (h1 : okQ (mulQ m its)) (h2 : okQ ((lkQ acc u).getD zQ)) (l : Option D) :
    jP ⟨b, jS X Y L st k1 m p l (some (encQ its)) (some (.str (enW u)))⟩ (jT st acc) = .nxt (jS X Y L st k1 m p l (some (encQ its)) (some (.str (enW u)))) (jT st (putQ acc u (addQ ((lkQ acc u).getD zQ) (mulQ m its)))) := by
  have e1 : (fRecv isDic (fV 3) fun x => fBind (fV 8) fun y => fBind (fC c_NOUGHT) fun z _ st => ofO st (gDGet2 st x y z)) ⟨b, jS X Y L st k1 m p l (some (encQ its)) (some (.str (enW u)))⟩ (jT st acc) = .ok (encQ ((lkQ acc u).getD zQ)) false (jT st acc) := by
    have d1 : dicOf (jT st acc) (.cell st.length) = some (encL acc) := dicOf_cell (cell_at st acc)
    show (if isDic (jT st acc) (.cell st.length) = true then ofO (jT st acc) (gDGet2 (jT st acc) (.cell st.length) (.str (enW u)) c_NOUGHT) else .stuck) = _
    have d2 : isDic (jT st acc) (.cell st.length) = true := by unfold isDic; rw [d1]; rfl
    rw [if_pos d2]
    unfold gDGet2
    rw [d1]
    show ofO (jT st acc) (some ((lkD (encL acc) (.inr (enW u))).getD c_NOUGHT, false)) = _
    rw [getD_enc]; rfl
  have e2 : fCall q_times (aCons (fV 5) (aCons (fV 7) aNil)) ⟨b, jS X Y L st k1 m p l (some (encQ its)) (some (.str (enW u)))⟩ (jT st acc) = .ok (encQ (mulQ m its)) false (jT st acc) := by
    show noX (q_times [encQ m, encQ its] (jT st acc)) = _
    rw [times_ok hm hi]; rfl
  have e3 : fCall q_plus (aCons (fRecv isDic (fV 3) fun x => fBind (fV 8) fun y => fBind (fC c_NOUGHT) fun z _ st => ofO st (gDGet2 st x y z)) (aCons (fCall q_times (aCons (fV 5) (aCons (fV 7) (aNil)))) (aNil))) ⟨b, jS X Y L st k1 m p l (some (encQ its)) (some (.str (enW u)))⟩ (jT st acc) = .ok (encQ (addQ ((lkQ acc u).getD zQ) (mulQ m its))) false (jT st acc) := by
    refine (fCall_ok (acons_ok e1 (acons_ok e2 (anil_ok _ _)))).trans ?_
    rw [plus_ok h2 h1]; rfl
  unfold jP fPut fBindS
  rw [e3]
  show ofS (setD st.length (.str (enW u)) (encQ _) (jT st acc)) _ = _
  unfold setD
  rw [cell_at st acc]
  show ofS (if (true && decide ((encL acc).length < SZ)) = true then some ((jT st acc).set st.length (.dic false (putD (encL acc) (.inr (enW u)) (encQ _)))) else none) _ = _
  rw [if_pos (by
    have : (encL acc).length = acc.length := List.length_map _
    rw [this, Bool.true_and, decide_eq_true_iff]
    show acc.length < 16777216
    omega), put_enc]
  show RS.nxt _ _ = _
  congr 1
  show (st ++ [_]).set st.length _ = _
  rw [List.set_append_right _ _ (Nat.le_refl _), Nat.sub_self]
  rfl
theorem in_ev (hk : k1.length ≤ 1000) (hm : okQ m) : ∀ (ys : List (W × Q)) (acc acc' : List (W × Q)) (l i w : Option D), (∀ p ∈ ys, okQ p.2 ∧ p.1.length ≤ 1000) → acc.length + ys.length < 16000000 → spIn L k1 m ys acc = some acc' →
    ∃ l' i' w', forL jG jI (itItems (encL ys)) ⟨b, jS X Y L st k1 m p l i w⟩ (jT st acc) = .nxt (jS X Y L st k1 m p l' i' w') (jT st acc') ∧ acc'.length ≤ acc.length + ys.length
  | [], acc, acc', l, i, w, _, _, h => by
    cases h
    exact ⟨l, i, w, rfl, Nat.le_refl _⟩
  | (k2, its) :: ys, acc, acc', l, i, w, hy, hl, h => by
    have hy2 : ∀ p ∈ ys, okQ p.2 ∧ p.1.length ≤ 1000 := fun p m => hy p (List.mem_cons_of_mem _ m)
    obtain ⟨hi, hk2⟩ := hy (k2, its) List.mem_cons_self
    have hk2 : k2.length ≤ 1000 := hk2
    rw [List.length_cons] at hl
    have hg : jG (.tup [.str (enW k2), encQ its]) (jS X Y L st k1 m p l i w) = some (jS X Y L st k1 m p (some (.str (enW k2))) (some (encQ its)) w) := rfl
    show ∃ l' i' w', (match jG (.tup [.str (enW k2), encQ its]) (jS X Y L st k1 m p l i w) with
      | none => RS.stuck
      | some s => (match jI ⟨b, s⟩ (jT st acc) with
        | .nxt s' st' => forL jG jI (itItems (encL ys)) ⟨b, s'⟩ st'
        | .cnt s' st' => forL jG jI (itItems (encL ys)) ⟨b, s'⟩ st'
        | .brk s' st' => .nxt s' st'
        | z => z)) = _ ∧ _
    rw [hg]
    simp only []
    unfold spIn at h
    by_cases hc : k1.length + k2.length ≤ L
    · rw [if_pos hc] at h
      split at h
      · rename_i ho
        have e : jI ⟨b, jS X Y L st k1 m p (some (.str (enW k2))) (some (encQ its)) w⟩ (jT st acc) = .nxt (jS X Y L st k1 m p (some (.str (enW k2))) (some (encQ its)) (some (.str (enW (k1 ++ k2))))) (jT st (putQ acc (k1 ++ k2) (addQ ((lkQ acc (k1 ++ k2)).getD zQ) (mulQ m its)))) := by
          have e1 : fAsg (gN 8) (f2 gAdd (fV 4) (fV 6)) ⟨b, jS X Y L st k1 m p (some (.str (enW k2))) (some (encQ its)) w⟩ (jT st acc) = .nxt (jS X Y L st k1 m p (some (.str (enW k2))) (some (encQ its)) (some (.str (enW (k1 ++ k2))))) (jT st acc) := by
            have e0 : f2 gAdd (fV 4) (fV 6) ⟨b, jS X Y L st k1 m p (some (.str (enW k2))) (some (encQ its)) w⟩ (jT st acc) = .ok (.str (enW (k1 ++ k2))) false (jT st acc) := by
              show ofO (jT st acc) (if (enW k1).length + (enW k2).length ≤ SZ then some (D.str (enW k1 ++ enW k2), false) else none) = _
              rw [if_pos (by
                have l1 : (enW k1).length = k1.length := List.length_map _
                have l2 : (enW k2).length = k2.length := List.length_map _
                rw [l1, l2]
                show k1.length + k2.length ≤ 16777216
                omega)]
              unfold enW
              rw [List.map_append]; rfl
            unfold fAsg fBindS
            rw [e0]
            rfl
          have e2 := put_ok b X Y L st k1 m its p acc (by omega) hm hi (k1 ++ k2) ho.1 ho.2 (some (.str (enW k2)))
          refine (fSeq_nxt (s := jS X Y L st k1 m p (some (.str (enW k2))) (some (encQ its)) (some (.str (enW (k1 ++ k2))))) (st' := jT st (putQ acc (k1 ++ k2) (addQ ((lkQ acc (k1 ++ k2)).getD zQ) (mulQ m its)))) ?_).trans rfl
          unfold fIfS fBindS
          rw [cond_ok b X Y L st k1 k2 m its w p acc hk hk2, decide_eq_true hc]
          show (fSeq (fAsg (gN 8) (f2 gAdd (fV 4) (fV 6))) (fSeq jP fNxt)) _ _ = _
          exact (fSeq_nxt e1).trans ((fSeq_nxt e2).trans rfl)
        rw [e]
        have hp : (putQ acc (k1 ++ k2) (addQ ((lkQ acc (k1 ++ k2)).getD zQ) (mulQ m its))).length ≤ acc.length + 1 := by
          unfold putQ
          split
          · rw [List.length_map]; omega
          · rw [List.length_append]; exact Nat.le_refl _
        obtain ⟨l', i', w', q1, q2⟩ := in_ev hk hm ys _ acc' (some (.str (enW k2))) (some (encQ its)) (some (.str (enW (k1 ++ k2)))) hy2 (by omega) h
        exact ⟨l', i', w', q1, by rw [List.length_cons]; omega⟩
      · cases h
    · rw [if_neg hc] at h
      have e : jI ⟨b, jS X Y L st k1 m p (some (.str (enW k2))) (some (encQ its)) w⟩ (jT st acc) = .nxt (jS X Y L st k1 m p (some (.str (enW k2))) (some (encQ its)) w) (jT st acc) := by
        refine (fSeq_nxt (s := jS X Y L st k1 m p (some (.str (enW k2))) (some (encQ its)) w) (st' := jT st acc) ?_).trans rfl
        unfold fIfS fBindS
        rw [cond_ok b X Y L st k1 k2 m its w p acc hk hk2, decide_eq_false hc]
        rfl
      rw [e]
      obtain ⟨l', i', w', q1, q2⟩ := in_ev hk hm ys acc acc' (some (.str (enW k2))) (some (encQ its)) w hy2 (by omega) h
      exact ⟨l', i', w', q1, by rw [List.length_cons]; omega⟩

abbrev jU (o4 o5 l i w : Option D) : List (Option D) := [X, Y, some (.int (L : Int)), some (.cell st.length), o4, o5, l, i, w, p]
theorem out_ev (ys : List (W × Q)) (hy : ∀ p ∈ ys, okQ p.2 ∧ p.1.length ≤ 1000) : ∀ (xs acc acc' : List (W × Q)) (o4 o5 l i w : Option D), (∀ p ∈ xs, okQ p.2 ∧ p.1.length ≤ 1000) → acc.length + xs.length * ys.length < 16000000 → spOut L ys xs acc = some acc' →
    ∃ o4' o5' l' i' w', forL jH jO (itItems (encL xs)) ⟨b, jU X (some (.dic (encL ys))) L st p o4 o5 l i w⟩ (jT st acc) = .nxt (jU X (some (.dic (encL ys))) L st p o4' o5' l' i' w') (jT st acc') ∧ acc'.length ≤ acc.length + xs.length * ys.length
  | [], acc, acc', o4, o5, l, i, w, _, _, h => by
    cases h
    exact ⟨o4, o5, l, i, w, rfl, Nat.le_add_right _ _⟩
  | (k1, m) :: xs, acc, acc', o4, o5, l, i, w, hx, hl, h => by
    have hx2 : ∀ p ∈ xs, okQ p.2 ∧ p.1.length ≤ 1000 := fun p m => hx p (List.mem_cons_of_mem _ m)
    obtain ⟨hm, hk⟩ := hx (k1, m) List.mem_cons_self
    have hk : k1.length ≤ 1000 := hk
    have hl2 : (xs.length + 1) * ys.length = xs.length * ys.length + ys.length := Nat.succ_mul _ _
    rw [List.length_cons, hl2] at hl
    have hg : jH (.tup [.str (enW k1), encQ m]) (jU X (some (.dic (encL ys))) L st p o4 o5 l i w) = some (jS X (some (.dic (encL ys))) L st k1 m p l i w) := rfl
    show ∃ o4' o5' l' i' w', (match jH (.tup [.str (enW k1), encQ m]) (jU X (some (.dic (encL ys))) L st p o4 o5 l i w) with
      | none => RS.stuck
      | some s => (match jO ⟨b, s⟩ (jT st acc) with
        | .nxt s' st' => forL jH jO (itItems (encL xs)) ⟨b, s'⟩ st'
        | .cnt s' st' => forL jH jO (itItems (encL xs)) ⟨b, s'⟩ st'
        | .brk s' st' => .nxt s' st'
        | z => z)) = _ ∧ _
    rw [hg]
    simp only []
    unfold spOut at h
    split at h
    · rename_i acc1 h1
      obtain ⟨l1, i1, w1, q1, q2⟩ := in_ev b X (some (D.dic (encL ys))) L st k1 m p hk hm ys acc acc1 l i w hy (by omega) h1
      have e : jO ⟨b, jS X (some (.dic (encL ys))) L st k1 m p l i w⟩ (jT st acc) = .nxt (jS X (some (.dic (encL ys))) L st k1 m p l1 i1 w1) (jT st acc1) := by
        refine (fSeq_nxt (s := jS X (some (.dic (encL ys))) L st k1 m p l1 i1 w1) (st' := jT st acc1) ?_).trans rfl
        show lkS (.dic (encL ys)) (jT st acc) (forL jG jI (itItems (encL ys)) ⟨b, jS X (some (.dic (encL ys))) L st k1 m p l i w⟩ (jT st acc)) = _
        rw [q1]
        rfl
      rw [e]
      obtain ⟨o4', o5', l', i', w', z1, z2⟩ := out_ev ys hy xs acc1 acc' (some (.str (enW k1))) (some (encQ m)) l1 i1 w1 hx2 (by omega) h
      exact ⟨o4', o5', l', i', w', z1, by rw [List.length_cons, hl2]; omega⟩
    · cases h
end
theorem deq_enc (q : Q) : deq (encQ q) c_NOUGHT = isN q := by
  show ((q.1 == 0) && (((q.2 : Int) == 1) && true)) = _
  rw [Bool.and_true]
  unfold isN
  congr 1
  rw [Bool.eq_iff_iff, beq_iff_eq, beq_iff_eq]
  omega
theorem dc_ev (n : Nat) (e : Fr) (stL : Sto) (hn : stL.length = n) (g : FG) (fk fv c : FE)
    (hg : ∀ (w : W) (q : Q), ∃ s, g (.tup [.str (enW w), encQ q]) e.s = some s ∧ ∀ st, c ⟨e.b, s⟩ st = .ok (.bl (!isN q)) false st ∧ fk ⟨e.b, s⟩ st = .ok (.str (enW w)) false st ∧ fv ⟨e.b, s⟩ st = .ok (encQ q) false st) :
    ∀ (rest made : List (W × Q)), ((made ++ rest).map (·.1)).Nodup → made.length + rest.length < 16000000 → dcompL n g c fk fv (itItems (encL rest)) e (stL ++ [.dic false (encL made)]) = some (stL ++ [.dic false (encL (made ++ rest.filter fun p => !isN p.2))])
  | [], made, _, _ => by
    show some _ = _
    rw [List.filter_nil, List.append_nil]
  | (w, q) :: rest, made, nd, hl => by
    rw [List.length_cons] at hl
    obtain ⟨s, h1, h2⟩ := hg w q
    show (match g (.tup [.str (enW w), encQ q]) e.s with
      | none => none
      | some s => (match c ⟨e.b, s⟩ (stL ++ [CO.dic false (encL made)]) with
        | .ok (.bl true) _ st1 => (match fk ⟨e.b, s⟩ st1 with
          | .ok y _ st2 => (match fv ⟨e.b, s⟩ st2 with
            | .ok z _ st3 => (match toK y, st3[n]? with
              | some k, some (.dic false kvs) => if (isP z && decide (kvs.length < SZ)) = true then dcompL n g c fk fv (itItems (encL rest)) e (st3.set n (.dic false (putD kvs k z))) else none
              | _, _ => none)
            | _ => none)
          | _ => none)
        | .ok (.bl false) _ st1 => dcompL n g c fk fv (itItems (encL rest)) e st1
        | _ => none)) = _
    rw [h1]
    simp only []
    obtain ⟨e1, e2, e3⟩ := h2 (stL ++ [.dic false (encL made)])
    rw [e1]
    cases hq : isN q with
    | true =>
      show dcompL n g c fk fv (itItems (encL rest)) e _ = _
      rw [dc_ev n e stL hn g fk fv c hg rest made (by
        rw [List.map_append, List.map_cons] at nd
        rw [List.map_append]
        exact nd.sublist (List.Sublist.append_left (List.sublist_cons_self _ _) _)) (by omega)]
      congr 5
      rw [List.filter_cons]
      simp [hq]
    | false =>
      show (match fk ⟨e.b, s⟩ (stL ++ [CO.dic false (encL made)]) with
          | .ok y _ st2 => (match fv ⟨e.b, s⟩ st2 with
            | .ok z _ st3 => (match toK y, st3[n]? with
              | some k, some (.dic false kvs) => if (isP z && decide (kvs.length < SZ)) = true then dcompL n g c fk fv (itItems (encL rest)) e (st3.set n (.dic false (putD kvs k z))) else none
              | _, _ => none)
            | _ => none)
          | _ => none) = _
      rw [e2]
      simp only []
      rw [e3]
      have ec : (stL ++ [CO.dic false (encL made)])[n]? = some (.dic false (encL made)) := by rw [← hn]; exact List.getElem?_concat_length
      show (match toK (.str (enW w)), (stL ++ [CO.dic false (encL made)])[n]? with
              | some k, some (.dic false kvs) => if (isP (encQ q) && decide (kvs.length < SZ)) = true then dcompL n g c fk fv (itItems (encL rest)) e ((stL ++ [CO.dic false (encL made)]).set n (.dic false (putD kvs k (encQ q)))) else none
              | _, _ => none) = _
      rw [ec]
      show (if (true && decide ((encL made).length < SZ)) = true then dcompL n g c fk fv (itItems (encL rest)) e ((stL ++ [CO.dic false (encL made)]).set n (.dic false (putD (encL made) (.inr (enW w)) (encQ q)))) else none) = _
      have hw : ¬ hasQ made w = true := fun z => by
        obtain ⟨x, hx, ex⟩ := List.any_eq_true.mp z
        rw [List.map_append, List.map_cons] at nd
        have := (List.nodup_append.mp nd).2.2 x.1 (List.mem_map.mpr ⟨x, hx, rfl⟩) w List.mem_cons_self
        exact this (by simpa using ex)
      have ep : putQ made w q = made ++ [(w, q)] := by unfold putQ; rw [if_neg hw]
      rw [if_pos (by
        have : (encL made).length = made.length := List.length_map _
        rw [this, Bool.true_and, decide_eq_true_iff]
        show made.length < 16777216
        omega), put_enc, ep]
      have es : (stL ++ [CO.dic false (encL made)]).set n (.dic false (encL (made ++ [(w, q)]))) = stL ++ [.dic false (encL (made ++ [(w, q)]))] := by
        rw [← hn, List.set_append_right _ _ (Nat.le_refl _), Nat.sub_self]; rfl
      rw [es, dc_ev n e stL hn g fk fv c hg rest (made ++ [(w, q)]) (by rw [List.append_assoc]; exact nd) (by rw [List.length_append]; simp; omega)]
      congr 5
      rw [List.filter_cons]
      simp [hq]
theorem ev_joined (xs ys : List (W × Q)) (L : Nat) (st : Sto) (hx : ∀ p ∈ xs, okQ p.2 ∧ p.1.length ≤ 1000) (hy : ∀ p ∈ ys, okQ p.2 ∧ p.1.length ≤ 1000) (hl : xs.length * ys.length < 16000000) {acc : List (W × Q)} (h : spOut L ys xs [] = some acc) (nd : (acc.map (·.1)).Nodup) :
    f_told_joined [.dic (encL xs), .dic (encL ys), .int (L : Int)] st = .ok (.dic (encL (acc.filter fun p => !isN p.2))) true st := by
  show endB st.length (b_told_joined ⟨st.length, [some (.dic (encL xs)), some (.dic (encL ys)), some (.int (L : Int)), none, none, none, none, none, none, none]⟩ st) = _
  obtain ⟨o4, o5, l, i, w, q1, q2⟩ := out_ev st.length (some (.dic (encL xs))) L st none ys hy xs [] acc none none none none none hx (by rw [List.length_nil, Nat.zero_add]; exact hl) h
  rw [List.length_nil, Nat.zero_add] at q2
  have e1 : fAsg (gN 3) (fCell fDisp0) ⟨st.length, [some (.dic (encL xs)), some (.dic (encL ys)), some (.int (L : Int)), none, none, none, none, none, none, none]⟩ st = .nxt (jU (some (.dic (encL xs))) (some (.dic (encL ys))) L st none none none none none none) (jT st []) := rfl
  have e2 : fForD 0 itItems jH jO ⟨st.length, jU (some (.dic (encL xs))) (some (.dic (encL ys))) L st none none none none none none⟩ (jT st []) = .nxt (jU (some (.dic (encL xs))) (some (.dic (encL ys))) L st none o4 o5 l i w) (jT st acc) := by
    show lkS (.dic (encL xs)) (jT st []) (forL jH jO (itItems (encL xs)) ⟨st.length, jU (some (.dic (encL xs))) (some (.dic (encL ys))) L st none none none none none none⟩ (jT st [])) = _
    rw [q1]
    rfl
  have e3 : jR ⟨st.length, jU (some (.dic (encL xs))) (some (.dic (encL ys))) L st none o4 o5 l i w⟩ (jT st acc) = .ok (.dic (encL (acc.filter fun p => !isN p.2))) true (jT st acc) := by
    have li : lkIn (.cell st.length) (jT st acc) = some (encL acc, st ++ [.dic true (encL acc)]) := by
      unfold lkIn
      simp only []
      rw [cell_at st acc]
      show some (encL acc, (st ++ [_]).set st.length _) = _
      rw [List.set_append_right _ _ (Nat.le_refl _), Nat.sub_self]
      rfl
    show (match lkIn (.cell st.length) (jT st acc) with
      | some (kvs, st1) => lkE (.cell st.length) (jT st acc) (endDC st1.length (dcompL st1.length (gT 2 (gsC (gN 8) (gsC (gN 9) (gsN)))) (f2 gNe (fV 9) (fC c_NOUGHT)) (fV 8) (fV 9) (itItems kvs) ⟨st.length, wipeD (jU (some (D.dic (encL xs))) (some (.dic (encL ys))) L st none o4 o5 l i w) [8, 9]⟩ (st1 ++ [CO.dic false []])))
      | none => .stuck) = _
    rw [li]
    simp only []
    have d := dc_ev (st ++ [CO.dic true (encL acc)]).length ⟨st.length, wipeD (jU (some (D.dic (encL xs))) (some (.dic (encL ys))) L st none o4 o5 l i w) [8, 9]⟩ (st ++ [CO.dic true (encL acc)]) rfl (gT 2 (gsC (gN 8) (gsC (gN 9) (gsN)))) (fV 8) (fV 9) (f2 gNe (fV 9) (fC c_NOUGHT)) (fun w q => ⟨[some (D.dic (encL xs)), some (D.dic (encL ys)), some (D.int (L : Int)), some (D.cell st.length), o4, o5, l, i, some (D.str (enW w)), some (encQ q)], rfl, fun st => ⟨by
      show R.ok (.bl (!deq (encQ q) c_NOUGHT)) false st = _
      rw [deq_enc], rfl, rfl⟩⟩) acc [] (by rw [List.nil_append]; exact nd) (by rw [List.length_nil]; omega)
    rw [List.nil_append] at d
    rw [show encL [] = [] from rfl] at d
    rw [d]
    unfold endDC
    simp only []
    rw [List.getElem?_concat_length]
    simp only []
    rw [if_pos (by rw [List.length_append]; rfl), List.take_left]
    unfold lkE lkOut
    simp only []
    have c2 : (st ++ [CO.dic true (encL acc)])[st.length]? = some (.dic true (encL acc)) := List.getElem?_concat_length
    rw [cell_at st acc, c2]
    show R.ok _ true ((st ++ [_]).set st.length _) = _
    rw [List.set_append_right _ _ (Nat.le_refl _), Nat.sub_self]
    rfl
  have e4 : b_told_joined ⟨st.length, [some (.dic (encL xs)), some (.dic (encL ys)), some (.int (L : Int)), none, none, none, none, none, none, none]⟩ st = .ret (.dic (encL (acc.filter fun p => !isN p.2))) true (jT st acc) := by
    rw [b_joined_eq]
    refine (fSeq_nxt e1).trans ((fSeq_nxt e2).trans ?_)
    unfold fSeq fRet fBindS
    rw [e3]
  rw [e4]
  show R.ok _ true ((st ++ [_]).take st.length) = _
  rw [List.take_left]
/-! ### told_added -/
abbrev aP : FS := fPut setD (fV 3) (fV 4) (fCall q_plus (aCons (fRecv isDic (fV 3) fun x => fBind (fV 4) fun y => fBind (fC c_NOUGHT) fun z _ st => ofO st (gDGet2 st x y z)) (aCons (fCall q_times (aCons (fV 2) (aCons (fV 5) (aNil)))) (aNil))))
abbrev aG : FG := gT 2 (gsC (gN 4) (gsC (gN 5) (gsN)))
abbrev aB : FS := fSeq aP fNxt
theorem b_added_eq : b_told_added = fSeq (fAsg (gN 3) (fCell (fN gDict (aCons (fV 0) (aNil))))) (fSeq (fForD 1 itItems aG aB) (fSeq (fRet (fV 3)) fNxt)) := rfl
section
variable (b : Nat) (X Y : Option D) (st : Sto) (num its : Q) (acc : List (W × Q))
abbrev aS (w p : Option D) : List (Option D) := [X, Y, some (encQ num), some (.cell st.length), w, p]
theorem aput_ok (hl : acc.length < 16000000) (hm : okQ num) (hi : okQ its) (u : W) (h1 : okQ (mulQ num its)) (h2 : okQ ((lkQ acc u).getD zQ)) :
    aP ⟨b, aS X Y st num (some (.str (enW u))) (some (encQ its))⟩ (jT st acc) = .nxt (aS X Y st num (some (.str (enW u))) (some (encQ its))) (jT st (putQ acc u (addQ ((lkQ acc u).getD zQ) (mulQ num its)))) := by
  have e1 : (fRecv isDic (fV 3) fun x => fBind (fV 4) fun y => fBind (fC c_NOUGHT) fun z _ st => ofO st (gDGet2 st x y z)) ⟨b, aS X Y st num (some (.str (enW u))) (some (encQ its))⟩ (jT st acc) = .ok (encQ ((lkQ acc u).getD zQ)) false (jT st acc) := by
    have d1 : dicOf (jT st acc) (.cell st.length) = some (encL acc) := dicOf_cell (cell_at st acc)
    show (if isDic (jT st acc) (.cell st.length) = true then ofO (jT st acc) (gDGet2 (jT st acc) (.cell st.length) (.str (enW u)) c_NOUGHT) else .stuck) = _
    have d2 : isDic (jT st acc) (.cell st.length) = true := by unfold isDic; rw [d1]; rfl
    rw [if_pos d2]
    unfold gDGet2
    rw [d1]
    show ofO (jT st acc) (some ((lkD (encL acc) (.inr (enW u))).getD c_NOUGHT, false)) = _
    rw [getD_enc]; rfl
  have e2 : fCall q_times (aCons (fV 2) (aCons (fV 5) aNil)) ⟨b, aS X Y st num (some (.str (enW u))) (some (encQ its))⟩ (jT st acc) = .ok (encQ (mulQ num its)) false (jT st acc) := by
    show noX (q_times [encQ num, encQ its] (jT st acc)) = _
    rw [times_ok hm hi]; rfl
  have e3 : fCall q_plus (aCons (fRecv isDic (fV 3) fun x => fBind (fV 4) fun y => fBind (fC c_NOUGHT) fun z _ st => ofO st (gDGet2 st x y z)) (aCons (fCall q_times (aCons (fV 2) (aCons (fV 5) (aNil)))) (aNil))) ⟨b, aS X Y st num (some (.str (enW u))) (some (encQ its))⟩ (jT st acc) = .ok (encQ (addQ ((lkQ acc u).getD zQ) (mulQ num its))) false (jT st acc) := by
    refine (fCall_ok (acons_ok e1 (acons_ok e2 (anil_ok _ _)))).trans ?_
    rw [plus_ok h2 h1]; rfl
  unfold aP fPut fBindS
  rw [e3]
  show ofS (setD st.length (.str (enW u)) (encQ _) (jT st acc)) _ = _
  unfold setD
  rw [cell_at st acc]
  show ofS (if (true && decide ((encL acc).length < SZ)) = true then some ((jT st acc).set st.length (.dic false (putD (encL acc) (.inr (enW u)) (encQ _)))) else none) _ = _
  rw [if_pos (by
    have : (encL acc).length = acc.length := List.length_map _
    rw [this, Bool.true_and, decide_eq_true_iff]
    show acc.length < 16777216
    omega), put_enc]
  show RS.nxt _ _ = _
  congr 1
  show (st ++ [_]).set st.length _ = _
  rw [List.set_append_right _ _ (Nat.le_refl _), Nat.sub_self]
  rfl
theorem add_ev (hm : okQ num) : ∀ (ys : List (W × Q)) (acc acc' : List (W × Q)) (w p : Option D), (∀ p ∈ ys, okQ p.2 ∧ p.1.length ≤ 1000) → acc.length + ys.length < 16000000 → spAdd num ys acc = some acc' →
    ∃ w' p', forL aG aB (itItems (encL ys)) ⟨b, aS X Y st num w p⟩ (jT st acc) = .nxt (aS X Y st num w' p') (jT st acc')
  | [], acc, acc', w, p, _, _, h => by
    cases h
    exact ⟨w, p, rfl⟩
  | (u, its) :: ys, acc, acc', w, p, hy, hl, h => by
    have hy2 : ∀ p ∈ ys, okQ p.2 ∧ p.1.length ≤ 1000 := fun p m => hy p (List.mem_cons_of_mem _ m)
    obtain ⟨hi, _⟩ := hy (u, its) List.mem_cons_self
    rw [List.length_cons] at hl
    have hg : aG (.tup [.str (enW u), encQ its]) (aS X Y st num w p) = some (aS X Y st num (some (.str (enW u))) (some (encQ its))) := rfl
    show ∃ w' p', (match aG (.tup [.str (enW u), encQ its]) (aS X Y st num w p) with
      | none => RS.stuck
      | some s => (match aB ⟨b, s⟩ (jT st acc) with
        | .nxt s' st' => forL aG aB (itItems (encL ys)) ⟨b, s'⟩ st'
        | .cnt s' st' => forL aG aB (itItems (encL ys)) ⟨b, s'⟩ st'
        | .brk s' st' => .nxt s' st'
        | z => z)) = _
    rw [hg]
    simp only []
    unfold spAdd at h
    split at h
    · rename_i ho
      have e : aB ⟨b, aS X Y st num (some (.str (enW u))) (some (encQ its))⟩ (jT st acc) = .nxt (aS X Y st num (some (.str (enW u))) (some (encQ its))) (jT st (putQ acc u (addQ ((lkQ acc u).getD zQ) (mulQ num its)))) :=
        (fSeq_nxt (aput_ok b X Y st num its acc (by omega) hm hi u ho.1 ho.2)).trans rfl
      rw [e]
      have hp : (putQ acc u (addQ ((lkQ acc u).getD zQ) (mulQ num its))).length ≤ acc.length + 1 := by
        unfold putQ
        split
        · rw [List.length_map]; omega
        · rw [List.length_append]; exact Nat.le_refl _
      exact add_ev hm ys _ acc' (some (.str (enW u))) (some (encQ its)) hy2 (by omega) h
    · cases h
end
theorem ev_added (xs ys : List (W × Q)) (num : Q) (st : Sto) (hm : okQ num) (hy : ∀ p ∈ ys, okQ p.2 ∧ p.1.length ≤ 1000) (hl : xs.length + ys.length < 16000000) {acc : List (W × Q)} (h : spAdd num ys xs = some acc) :
    f_told_added [.dic (encL xs), .dic (encL ys), encQ num] st = .ok (.dic (encL acc)) true st := by
  show endB st.length (b_told_added ⟨st.length, [some (.dic (encL xs)), some (.dic (encL ys)), some (encQ num), none, none, none]⟩ st) = _
  obtain ⟨w, p, q1⟩ := add_ev st.length (some (D.dic (encL xs))) (some (D.dic (encL ys))) st num hm ys xs acc none none hy hl h
  have e1 : fAsg (gN 3) (fCell (fN gDict (aCons (fV 0) (aNil)))) ⟨st.length, [some (.dic (encL xs)), some (.dic (encL ys)), some (encQ num), none, none, none]⟩ st = .nxt (aS (some (D.dic (encL xs))) (some (D.dic (encL ys))) st num none none) (jT st xs) := rfl
  have e2 : fForD 1 itItems aG aB ⟨st.length, aS (some (D.dic (encL xs))) (some (D.dic (encL ys))) st num none none⟩ (jT st xs) = .nxt (aS (some (D.dic (encL xs))) (some (D.dic (encL ys))) st num w p) (jT st acc) := by
    show lkS (.dic (encL ys)) (jT st xs) (forL aG aB (itItems (encL ys)) ⟨st.length, aS (some (D.dic (encL xs))) (some (D.dic (encL ys))) st num none none⟩ (jT st xs)) = _
    rw [q1]
    rfl
  rw [b_added_eq, fSeq_nxt e1, fSeq_nxt e2]
  show endF st.length (jT st acc) (.cell st.length) false = _
  unfold endF
  simp only []
  rw [if_neg (Nat.lt_irrefl _), cell_at st acc]
  show R.ok _ true ((st ++ [_]).take st.length) = _
  rw [List.take_left]
/-! ### what a value tells -/
noncomputable def decC (n : Nat) : Option L3 := Bool.rec (motive := fun _ => Option L3) (Bool.rec (motive := fun _ => Option L3) (Bool.rec (motive := fun _ => Option L3) none (some .c) (Nat.beq n 99)) (some .b) (Nat.beq n 98)) (some .a) (Nat.beq n 97)
noncomputable def decW (s : List Nat) : Option W := List.rec (motive := fun _ => Option W) (some []) (fun n _ ih => Option.rec (motive := fun _ => Option W) none (fun x => Option.rec (motive := fun _ => Option W) none (fun w => some (x :: w)) ih) (decC n)) s
def intN : D → Option (Int × Nat)
  | .tup [.int a, .int (.ofNat d)] => some (a, d)
  | _ => none
noncomputable def decP (p : K1 × D) : Option (W × Q) := match p with
  | (.inr s, d) => (match decW s, intN d, Nat.ble s.length 1000 with
    | some w, some q, true => (match smF q with
      | true => some (w, q)
      | false => none)
    | _, _, _ => none)
  | _ => none
noncomputable def decL (xs : List (K1 × D)) : Option (List (W × Q)) := List.rec (motive := fun _ => Option (List (W × Q))) (some []) (fun p _ ih => Option.rec (motive := fun _ => Option (List (W × Q))) none (fun x => Option.rec (motive := fun _ => Option (List (W × Q))) none (fun r => some (x :: r)) ih) (decP p)) xs
theorem decC_ok {n : Nat} {x : L3} (h : decC n = some x) : n = x.code := by
  unfold decC at h
  cases h1 : Nat.beq n 97 with
  | true => rw [h1] at h; cases h; exact Nat.eq_of_beq_eq_true h1
  | false =>
    rw [h1] at h
    cases h2 : Nat.beq n 98 with
    | true => rw [h2] at h; cases h; exact Nat.eq_of_beq_eq_true h2
    | false =>
      rw [h2] at h
      cases h3 : Nat.beq n 99 with
      | true => rw [h3] at h; cases h; exact Nat.eq_of_beq_eq_true h3
      | false => rw [h3] at h; cases h
theorem decW_ok : ∀ {s : List Nat} {w : W}, decW s = some w → s = enW w
  | [], w, h => by cases h; rfl
  | n :: s, w, h => by
    have h2 : Option.rec (motive := fun _ => Option W) none (fun x => Option.rec (motive := fun _ => Option W) none (fun w => some (x :: w)) (decW s)) (decC n) = some w := h
    cases hc : decC n with
    | none => rw [hc] at h2; cases h2
    | some x =>
      rw [hc] at h2
      cases hw : decW s with
      | none => rw [hw] at h2; cases h2
      | some v =>
        rw [hw] at h2
        cases h2
        rw [decC_ok hc, decW_ok hw]; rfl
theorem intN_ok {d : D} {q : Q} (h : intN d = some q) : d = encQ q := by
  unfold intN at h
  split at h
  · cases h; rfl
  · cases h
theorem decP_ok {p : K1 × D} {x : W × Q} (h : decP p = some x) : p = encP x ∧ okQ x.2 ∧ x.1.length ≤ 1000 := by
  unfold decP at h
  split at h
  · rename_i s d
    split at h
    · rename_i w q h1 h2 h3
      split at h
      · rename_i h4
        cases h
        have e := decW_ok h1
        have e2 := intN_ok h2
        subst e e2
        refine ⟨rfl, smF_ok h4, ?_⟩
        have l : (enW w).length = w.length := List.length_map _
        rw [l] at h3
        exact Nat.le_of_ble_eq_true h3
      · cases h
    · cases h
  · cases h
theorem decL_ok : ∀ {x : List (K1 × D)} {xs : List (W × Q)}, decL x = some xs → x = encL xs ∧ ∀ p ∈ xs, okQ p.2 ∧ p.1.length ≤ 1000
  | [], xs, h => by cases h; exact ⟨rfl, fun _ z => nomatch z⟩
  | p :: x, xs, h => by
    have h2 : Option.rec (motive := fun _ => Option (List (W × Q))) none (fun y => Option.rec (motive := fun _ => Option (List (W × Q))) none (fun r => some (y :: r)) (decL x)) (decP p) = some xs := h
    cases hc : decP p with
    | none => rw [hc] at h2; cases h2
    | some y =>
      rw [hc] at h2
      cases hw : decL x with
      | none => rw [hw] at h2; cases h2
      | some v =>
        rw [hw] at h2
        cases h2
        obtain ⟨e1, e2⟩ := decP_ok hc
        obtain ⟨e3, e4⟩ := decL_ok hw
        subst e1 e3
        exact ⟨rfl, fun z m => (List.mem_cons.mp m).elim (fun e => by subst e; exact e2) (e4 z)⟩
noncomputable def q_told_joined : FF := fun ds st => match ds with
  | [.dic x, .dic y, .int (.ofNat L)] => (match decL x, decL y, Nat.blt (Nat.mul x.length y.length) 16000000 with
    | some xs, some ys, true => (match joinF L xs ys with
      | some r => .ok (.dic (encL r)) true st
      | none => .stuck)
    | _, _, _ => .stuck)
  | _ => .stuck
theorem r_told_joined : Ref f_told_joined q_told_joined := by
  intro ds st
  unfold q_told_joined
  split
  · rename_i x y L
    split
    · rename_i xs ys h1 h2 h3
      split
      · rename_i r hr
        refine .inr ?_
        obtain ⟨e1, hx⟩ := decL_ok h1
        obtain ⟨e2, hy⟩ := decL_ok h2
        subst e1 e2
        obtain ⟨acc, a1, a2, a3⟩ := joinF_ok (fun p m => (hx p m).1.2.2) (fun p m => (hy p m).1.2.2) hr
        have l1 : (encL xs).length = xs.length := List.length_map _
        have l2 : (encL ys).length = ys.length := List.length_map _
        rw [l1, l2] at h3
        rw [a2]
        exact ev_joined xs ys L st hx hy (Nat.blt_eq.mp h3) a1 a3
      · exact .inl rfl
    · exact .inl rfl
  · exact .inl rfl
noncomputable def q_told_added : FF := fun ds st => match ds with
  | [.dic x, .dic y, d] => (match decL x, decL y, intN d, Nat.blt (Nat.add x.length y.length) 16000000 with
    | some xs, some ys, some num, true => (match smF num with
      | true => (match plusF num xs ys with
        | some r => .ok (.dic (encL r)) true st
        | none => .stuck)
      | false => .stuck)
    | _, _, _, _ => .stuck)
  | _ => .stuck
theorem r_told_added : Ref f_told_added q_told_added := by
  intro ds st
  unfold q_told_added
  split
  · rename_i x y d
    split
    · rename_i xs ys num h1 h2 h4 h3
      split
      · rename_i h5
        split
        · rename_i r hr
          refine .inr ?_
          obtain ⟨e1, hx⟩ := decL_ok h1
          obtain ⟨e2, hy⟩ := decL_ok h2
          have e3 := intN_ok h4
          subst e1 e2 e3
          have hm := smF_ok h5
          have l1 : (encL xs).length = xs.length := List.length_map _
          have l2 : (encL ys).length = ys.length := List.length_map _
          rw [l1, l2] at h3
          exact ev_added xs ys num st hm hy (Nat.blt_eq.mp h3) (plusF_ok hm.2.2 (fun p m => (hy p m).1.2.2) hr)
        · exact .inl rfl
      · exact .inl rfl
    · exact .inl rfl
  · exact .inl rfl
section
open PySem PySem.Spec PyProof.Rows L2
variable {P : Program} {w : World} {K : PySem.W.Frag} {mg : Str → Option Value} {base : Heap} {XA : XAT}
theorem ok_q_told_added (hX : XAok XA) (G : Tops K mg) : Fn P w K mg base XA "told_added" ["one", "other", "number"] 4 q_told_added := (ok_told_added hX G).ref r_told_added
theorem ok_q_told_joined (hX : XAok XA) (G : Tops K mg) : Fn P w K mg base XA "told_joined" ["one", "other", "long"] 4 q_told_joined := (ok_told_joined hX G).ref r_told_joined
end
end M85

set_option Elab.async false
set_option maxRecDepth 100000
set_option maxHeartbeats 4000000
namespace M85
open PySem PySem.Spec PyProof.Rows L2 EV
noncomputable section
variable {P : Program} {w : World} {K : PySem.W.Frag} {mg : Str → Option Value} {base : Heap} {XA : XAT}
/-! told_exponential -/
def b_told_exponential : FS := fSeq (fAsg (gN 2) (fDisp [(fC (.str []), fC c_ONE)])) (fSeq (fFor (fItA (aCons (fV 1) (aCons (fC (.int 0)) (aCons (f1 gNeg (fC (.int 1))) (aNil)))) kR3) (gN 3) (fSeq (fAsg (gN 2) (fCall q_told_added (aCons (fDisp [(fC (.str []), fC c_ONE)]) (aCons (fCall q_told_joined (aCons (fV 0) (aCons (fV 2) (aCons (fV 1) (aNil))))) (aCons (fN gTup (aCons (fC (.int 1)) (aCons (fV 3) (aNil)))) (aNil)))))) (fNxt))) (fSeq (fRet (fV 2)) (fNxt)))
def f_told_exponential : FF := mkFn 2 4 b_told_exponential
abbrev N_told_exponential : List Str := ["words", "long", "found", "lap"]
theorem sc_told_exponential : FnScope N_told_exponential ["words", "long"] (defScope (topS 41)) := ⟨rfl, rfl, rfl, by decide +kernel, rfl, by decide +kernel, by decide +kernel⟩
theorem ok_told_exponential (hX : XAok XA) (G : Tops K mg) : Fn P w K mg base XA "told_exponential" ["words", "long"] 5 f_told_exponential := by
  obtain ⟨f, fd, F, hm⟩ := (G.fd "told_exponential" 41 (by decide +kernel)).ex
  refine ⟨f, fd, hm, F.kp, F.bindsN (fun _ _ _ _ _ _ us hl => match us, hl with | [_, _], _ => rfl), fn_ok hX F sc_told_exponential fun cdv A outer s H E hr => PSs.nox ?_⟩
  exact b_cons (s_asg (e_disp (p_cons (e_const pe_str fun _ _ => .str _) (e_gc (G.c_ONE) rfl) (p_nil)) rfl rfl (by simp) (by decide)) (gl_name (pg_name sc_told_exponential.nd rfl (by first | exact .inl rfl | exact .inr rfl))))
    (b_cons (s_for PassesOwn.never rfl (i_rng3 rfl (G.fr _ (by decide +kernel)) (a_cons (e_var (pv 1)) (a_cons (e_const pe_int fun _ _ => .int _) (a_cons (e_neg (e_const pe_int fun _ _ => .int _)) (a_nil))))) (gl_name (pg_name sc_told_exponential.nd rfl (by first | exact .inl rfl | exact .inr rfl))) (b_cons (s_asg (e_fn (ok_q_told_added hX G) hr (by decide) rfl (a_cons (e_disp (p_cons (e_const pe_str fun _ _ => .str _) (e_gc (G.c_ONE) rfl) (p_nil)) rfl rfl (by simp) (by decide)) (a_cons (e_fn (ok_q_told_joined hX G) hr (by decide) rfl (a_cons (e_var (pv 0)) (a_cons (e_var (pv 2)) (a_cons (e_var (pv 1)) (a_nil)))) (by decide)) (a_cons (e_tup (a_cons (e_const pe_int fun _ _ => .int _) (a_cons (e_var (pv 3)) (a_nil)))) (a_nil)))) (by decide)) (gl_name (pg_name sc_told_exponential.nd rfl (by first | exact .inl rfl | exact .inr rfl))))
    (b_nil)))
    (b_cons (s_ret (e_var (pv 2)))
    (b_nil)))
/-! told_logarithm -/
def b_told_logarithm : FS := fSeq (fAsg (gN 2) (fDCompD 0 itItems (gT 2 (gsC (gN 5) (gsC (gN 6) (gsN)))) (f2 gNe (fV 5) (fC (.str []))) (fV 5) (fV 6) [5, 6])) (fSeq (fAsg (gN 3) (fDisp0)) (fSeq (fFor (fItA (aCons (fV 1) (aCons (fC (.int 0)) (aCons (f1 gNeg (fC (.int 1))) (aNil)))) kR3) (gN 4) (fSeq (fAsg (gN 3) (fCall q_told_added (aCons (fDisp [(fC (.str []), fN gTup (aCons (fC (.int 1)) (aCons (fV 4) (aNil))))]) (aCons (fCall q_told_joined (aCons (fV 2) (aCons (fV 3) (aCons (fV 1) (aNil))))) (aCons (fN gTup (aCons (f1 gNeg (fC (.int 1))) (aCons (fC (.int 1)) (aNil)))) (aNil)))))) (fNxt))) (fSeq (fRet (fCall q_told_joined (aCons (fV 2) (aCons (fV 3) (aCons (fV 1) (aNil)))))) (fNxt))))
def f_told_logarithm : FF := mkFn 2 7 b_told_logarithm
abbrev N_told_logarithm : List Str := ["words", "long", "rest", "found", "lap", "word", "part"]
theorem sc_told_logarithm : FnScope N_told_logarithm ["words", "long"] (defScope (topS 42)) := ⟨rfl, rfl, rfl, by decide +kernel, rfl, by decide +kernel, by decide +kernel⟩
theorem ok_told_logarithm (hX : XAok XA) (G : Tops K mg) : Fn P w K mg base XA "told_logarithm" ["words", "long"] 5 f_told_logarithm := by
  obtain ⟨f, fd, F, hm⟩ := (G.fd "told_logarithm" 42 (by decide +kernel)).ex
  refine ⟨f, fd, hm, F.kp, F.bindsN (fun _ _ _ _ _ _ us hl => match us, hl with | [_, _], _ => rfl), fn_ok hX F sc_told_logarithm fun cdv A outer s H E hr => PSs.nox ?_⟩
  exact b_cons (s_dcompD (own := [("word", 5), ("part", 6)]) rfl sc_told_logarithm.nd rfl rfl (sw_trueD rfl rfl rfl rfl) (id_items (pv 0)) (show BlkOk N_told_logarithm (defScope (topS 42)) _ [("word", 5), ("part", 6)] from ⟨rfl, by decide +kernel, by decide +kernel, by decide +kernel, by decide +kernel⟩) (gb_tup rfl (gbs_cons (gb_name fun _ _ _ _ _ => pg_name sc_told_logarithm.nd rfl (by first | exact .inl rfl | exact .inr rfl)) (gbs_cons (gb_name fun _ _ _ _ _ => pg_name sc_told_logarithm.nd rfl (by first | exact .inl rfl | exact .inr rfl)) (gbs_nil)))).ex (by decide) (fun _ _ _ _ _ => ts_one (t_cmp (op_neD hr.units) g_ne (e_var (pv 5)) (e_const pe_str fun _ _ => .str _) (nomark _))) (fun _ _ _ _ _ => e_var (pv 5)) (fun _ _ _ _ _ => e_var (pv 6)))
    (b_cons (s_asg (e_disp0) (gl_name (pg_name sc_told_logarithm.nd rfl (by first | exact .inl rfl | exact .inr rfl))))
    (b_cons (s_for PassesOwn.never rfl (i_rng3 rfl (G.fr _ (by decide +kernel)) (a_cons (e_var (pv 1)) (a_cons (e_const pe_int fun _ _ => .int _) (a_cons (e_neg (e_const pe_int fun _ _ => .int _)) (a_nil))))) (gl_name (pg_name sc_told_logarithm.nd rfl (by first | exact .inl rfl | exact .inr rfl))) (b_cons (s_asg (e_fn (ok_q_told_added hX G) hr (by decide) rfl (a_cons (e_disp (p_cons (e_const pe_str fun _ _ => .str _) (e_tup (a_cons (e_const pe_int fun _ _ => .int _) (a_cons (e_var (pv 4)) (a_nil)))) (p_nil)) rfl rfl (by simp) (by decide)) (a_cons (e_fn (ok_q_told_joined hX G) hr (by decide) rfl (a_cons (e_var (pv 2)) (a_cons (e_var (pv 3)) (a_cons (e_var (pv 1)) (a_nil)))) (by decide)) (a_cons (e_tup (a_cons (e_neg (e_const pe_int fun _ _ => .int _)) (a_cons (e_const pe_int fun _ _ => .int _) (a_nil)))) (a_nil)))) (by decide)) (gl_name (pg_name sc_told_logarithm.nd rfl (by first | exact .inl rfl | exact .inr rfl))))
    (b_nil)))
    (b_cons (s_ret (e_fn (ok_q_told_joined hX G) hr (by decide) rfl (a_cons (e_var (pv 2)) (a_cons (e_var (pv 3)) (a_cons (e_var (pv 1)) (a_nil)))) (by decide)))
    (b_nil))))
/-! told_undone -/
def b_told_undone : FS := fSeq (fAsg (gN 2) (fDCompD 0 itItems (gT 2 (gsC (gN 5) (gsC (gN 6) (gsN)))) (f2 gNe (fV 5) (fC (.str []))) (fV 5) (fV 6) [5, 6])) (fSeq (fAsg (gN 3) (fDisp [(fC (.str []), fC c_ONE)])) (fSeq (fFor (fItA (aCons (fV 1) (aNil)) kR1) (gN 4) (fSeq (fAsg (gN 3) (fCall q_told_added (aCons (fDisp [(fC (.str []), fC c_ONE)]) (aCons (fCall q_told_joined (aCons (fV 2) (aCons (fV 3) (aCons (fV 1) (aNil))))) (aCons (fN gTup (aCons (f1 gNeg (fC (.int 1))) (aCons (fC (.int 1)) (aNil)))) (aNil)))))) (fNxt))) (fSeq (fRet (fV 3)) (fNxt))))
def f_told_undone : FF := mkFn 2 7 b_told_undone
abbrev N_told_undone : List Str := ["words", "long", "rest", "found", "lap", "word", "part"]
theorem sc_told_undone : FnScope N_told_undone ["words", "long"] (defScope (topS 43)) := ⟨rfl, rfl, rfl, by decide +kernel, rfl, by decide +kernel, by decide +kernel⟩
theorem ok_told_undone (hX : XAok XA) (G : Tops K mg) : Fn P w K mg base XA "told_undone" ["words", "long"] 5 f_told_undone := by
  obtain ⟨f, fd, F, hm⟩ := (G.fd "told_undone" 43 (by decide +kernel)).ex
  refine ⟨f, fd, hm, F.kp, F.bindsN (fun _ _ _ _ _ _ us hl => match us, hl with | [_, _], _ => rfl), fn_ok hX F sc_told_undone fun cdv A outer s H E hr => PSs.nox ?_⟩
  exact b_cons (s_dcompD (own := [("word", 5), ("part", 6)]) rfl sc_told_undone.nd rfl rfl (sw_trueD rfl rfl rfl rfl) (id_items (pv 0)) (show BlkOk N_told_undone (defScope (topS 43)) _ [("word", 5), ("part", 6)] from ⟨rfl, by decide +kernel, by decide +kernel, by decide +kernel, by decide +kernel⟩) (gb_tup rfl (gbs_cons (gb_name fun _ _ _ _ _ => pg_name sc_told_undone.nd rfl (by first | exact .inl rfl | exact .inr rfl)) (gbs_cons (gb_name fun _ _ _ _ _ => pg_name sc_told_undone.nd rfl (by first | exact .inl rfl | exact .inr rfl)) (gbs_nil)))).ex (by decide) (fun _ _ _ _ _ => ts_one (t_cmp (op_neD hr.units) g_ne (e_var (pv 5)) (e_const pe_str fun _ _ => .str _) (nomark _))) (fun _ _ _ _ _ => e_var (pv 5)) (fun _ _ _ _ _ => e_var (pv 6)))
    (b_cons (s_asg (e_disp (p_cons (e_const pe_str fun _ _ => .str _) (e_gc (G.c_ONE) rfl) (p_nil)) rfl rfl (by simp) (by decide)) (gl_name (pg_name sc_told_undone.nd rfl (by first | exact .inl rfl | exact .inr rfl))))
    (b_cons (s_for PassesOwn.never rfl (i_rng1 rfl (G.fr _ (by decide +kernel)) (a_cons (e_var (pv 1)) (a_nil))) (gl_name (pg_name sc_told_undone.nd rfl (by first | exact .inl rfl | exact .inr rfl))) (b_cons (s_asg (e_fn (ok_q_told_added hX G) hr (by decide) rfl (a_cons (e_disp (p_cons (e_const pe_str fun _ _ => .str _) (e_gc (G.c_ONE) rfl) (p_nil)) rfl rfl (by simp) (by decide)) (a_cons (e_fn (ok_q_told_joined hX G) hr (by decide) rfl (a_cons (e_var (pv 2)) (a_cons (e_var (pv 3)) (a_cons (e_var (pv 1)) (a_nil)))) (by decide)) (a_cons (e_tup (a_cons (e_neg (e_const pe_int fun _ _ => .int _)) (a_cons (e_const pe_int fun _ _ => .int _) (a_nil)))) (a_nil)))) (by decide)) (gl_name (pg_name sc_told_undone.nd rfl (by first | exact .inl rfl | exact .inr rfl))))
    (b_nil)))
    (b_cons (s_ret (e_var (pv 3)))
    (b_nil))))
/-! look_at_number -/
def b_look_at_number : FS := fSeq (fIfS (f1 gNot (fCall f_is_fraction (aCons (fV 0) (aNil)))) (fSeq (fNever) (fNxt)) (fNxt)) (fNxt)
def f_look_at_number : FF := mkFn 1 1 b_look_at_number
abbrev N_look_at_number : List Str := ["number"]
theorem sc_look_at_number : FnScope N_look_at_number ["number"] (defScope (topS 44)) := ⟨rfl, rfl, rfl, by decide +kernel, rfl, by decide +kernel, by decide +kernel⟩
theorem ok_look_at_number (hX : XAok XA) (G : Tops K mg) : Fn P w K mg base XA "look_at_number" ["number"] 4 f_look_at_number := by
  obtain ⟨f, fd, F, hm⟩ := (G.fd "look_at_number" 44 (by decide +kernel)).ex
  refine ⟨f, fd, hm, F.kp, F.bindsN (fun _ _ _ _ _ _ us hl => match us, hl with | [_], _ => rfl), fn_ok hX F sc_look_at_number fun cdv A outer s H E hr => PSs.nox ?_⟩
  exact b_cons (s_ifs (t_not (t_val (e_fn (ok_is_fraction hX G) hr (by decide) rfl (a_cons (e_var (pv 0)) (a_nil)) (by decide)))) (b_cons (s_never)
    (b_nil)) (b_nil))
    (b_nil)
/-! is_told_lyndon -/
def b_is_told_lyndon : FS := fSeq (fRet (fAnd (f2 gNe (fV 0) (fC (.str []))) (fN gAll (aCons (fComp (fItA (aCons (fC (.int 1)) (aCons (fN gLen (aCons (fV 0) (aNil))) (aNil))) kR2) (gN 1) (fYes) (f2 gLtS (fV 0) (fSl (fV 0) (some (fV 1)) none)) [1]) (aNil))))) (fNxt)
def f_is_told_lyndon : FF := mkFn 1 2 b_is_told_lyndon
abbrev N_is_told_lyndon : List Str := ["word", "at"]
theorem sc_is_told_lyndon : FnScope N_is_told_lyndon ["word"] (defScope (topS 48)) := ⟨rfl, rfl, rfl, by decide +kernel, rfl, by decide +kernel, by decide +kernel⟩
theorem ok_is_told_lyndon (hX : XAok XA) (G : Tops K mg) : Fn P w K mg base XA "is_told_lyndon" ["word"] 1 f_is_told_lyndon := by
  obtain ⟨f, fd, F, hm⟩ := (G.fd "is_told_lyndon" 48 (by decide +kernel)).ex
  refine ⟨f, fd, hm, F.kp, F.bindsN (fun _ _ _ _ _ _ us hl => match us, hl with | [_], _ => rfl), fn_ok hX F sc_is_told_lyndon fun cdv A outer s H E hr => PSs.nox ?_⟩
  exact b_cons (s_ret (e_and (e_cmp (op_neD hr.units) g_ne (e_var (pv 0)) (e_const pe_str fun _ _ => .str _) (nomark _)) (pe_one (e_callB (cr_all rfl) g_all rfl (G.fr _ (by decide +kernel)) boot_all (a_cons (e_comp (own := [("at", 1)]) rfl sc_is_told_lyndon.nd (i_rng2 rfl (G.fr _ (by decide +kernel)) (a_cons (e_const pe_int fun _ _ => .int _) (a_cons (e_callB call_len g_len rfl (G.fr _ (by decide +kernel)) boot_len (a_cons (e_var (pv 0)) (a_nil))) (a_nil)))) (show BlkOk N_is_told_lyndon (defScope (topS 48)) _ [("at", 1)] from ⟨rfl, by decide +kernel, by decide +kernel, by decide +kernel, by decide +kernel⟩) (gb_name fun _ _ _ _ _ => pg_name sc_is_told_lyndon.nd rfl (by first | exact .inl rfl | exact .inr rfl)).ex (by decide) (fun _ _ _ _ _ => ts_nil) (fun _ _ _ _ _ => e_cmp op_lt_str g_ltS (e_var (pv 0)) (e_sl (e_var (pv 0)) (o_some (e_var (pv 1))) o_none) (nomark _))) (a_nil))))))
    (b_nil)
/-! is_lyndon -/
def b_is_lyndon : FS := fSeq (fRet (fAnd (fCall f_is_word (aCons (fV 0) (aNil))) (fCall f_is_told_lyndon (aCons (fV 0) (aNil))))) (fNxt)
def f_is_lyndon : FF := mkFn 1 1 b_is_lyndon
abbrev N_is_lyndon : List Str := ["value"]
theorem sc_is_lyndon : FnScope N_is_lyndon ["value"] (defScope (topS 49)) := ⟨rfl, rfl, rfl, by decide +kernel, rfl, by decide +kernel, by decide +kernel⟩
theorem ok_is_lyndon (hX : XAok XA) (G : Tops K mg) : Fn P w K mg base XA "is_lyndon" ["value"] 2 f_is_lyndon := by
  obtain ⟨f, fd, F, hm⟩ := (G.fd "is_lyndon" 49 (by decide +kernel)).ex
  refine ⟨f, fd, hm, F.kp, F.bindsN (fun _ _ _ _ _ _ us hl => match us, hl with | [_], _ => rfl), fn_ok hX F sc_is_lyndon fun cdv A outer s H E hr => PSs.nox ?_⟩
  exact b_cons (s_ret (e_and (e_fn (ok_is_word hX G) hr (by decide) rfl (a_cons (e_var (pv 0)) (a_nil)) (by decide)) (pe_one (e_fn (ok_is_told_lyndon hX G) hr (by decide) rfl (a_cons (e_var (pv 0)) (a_nil)) (by decide)))))
    (b_nil)
/-! told_lyndon -/
def b_told_lyndon : FS := fSeq (fPar 2 3 (fCell (fN gLst (aNil))) (fIf (f2 (gInt kGt) (fV 1) (fC (.int 0))) (fSl (fV 0) none (some (fC (.int 1)))) (fC (.str [])))) (fSeq (fWhile 1000000 (f2 gNe (fV 3) (fC (.str []))) (fSeq (fExpr (fMut mAppend (fV 2) (aCons (fV 3) (aNil)))) (fSeq (fAsg (gN 4) (fCell (fComp (fItA (aCons (fV 1) (aNil)) kR1) (gN 5) (fYes) (f2 gIx (fV 3) (f2 (gInt kMod) (fV 5) (fN gLen (aCons (fV 3) (aNil))))) [5]))) (fSeq (fWhile 1000000 (fAnd (f2 gNe (fV 4) (fN gLst (aNil))) (f2 gEq (f2 gIx (fV 4) (f1 gNeg (fC (.int 1)))) (f2 gIx (fV 0) (f1 gNeg (fC (.int 1)))))) (fSeq (fExpr (fMut mPop (fV 4) aNil)) (fNxt))) (fSeq (fAsg (gN 3) (fIf (f2 gNe (fV 4) (fN gLst (aNil))) (f2 gAdd (fM1 gJoin (fC (.str [])) (fSl (fV 4) none (some (f1 gNeg (fC (.int 1)))))) (f2 gIx (fV 0) (f2 gAdd (fM1 gStrIx (fV 0) (f2 gIx (fV 4) (f1 gNeg (fC (.int 1))))) (fC (.int 1))))) (fC (.str [])))) (fNxt)))))) (fSeq (fRet (fV 2)) (fNxt)))
def f_told_lyndon : FF := mkFn 2 6 b_told_lyndon
abbrev N_told_lyndon : List Str := ["letters", "long", "found", "word", "row", "at"]
theorem sc_told_lyndon : FnScope N_told_lyndon ["letters", "long"] (defScope (topS 50)) := ⟨rfl, rfl, rfl, by decide +kernel, rfl, by decide +kernel, by decide +kernel⟩
theorem ok_told_lyndon (hX : XAok XA) (G : Tops K mg) : Fn P w K mg base XA "told_lyndon" ["letters", "long"] 1 f_told_lyndon := by
  obtain ⟨f, fd, F, hm⟩ := (G.fd "told_lyndon" 50 (by decide +kernel)).ex
  refine ⟨f, fd, hm, F.kp, F.bindsN (fun _ _ _ _ _ _ us hl => match us, hl with | [_, _], _ => rfl), fn_ok hX F sc_told_lyndon fun cdv A outer s H E hr => PSs.nox ?_⟩
  exact b_cons (s_par2 (i := 2) (j := 3) rfl (pg_name sc_told_lyndon.nd rfl (by first | exact .inl rfl | exact .inr rfl)) (pg_name sc_told_lyndon.nd rfl (by first | exact .inl rfl | exact .inr rfl)) (by decide) (e_cell (e_lst (a_nil))) (e_if (t_cmp op_gt g_gt (e_var (pv 1)) (e_const pe_int fun _ _ => .int _) (nomark _)) (e_sl (e_var (pv 0)) o_none (o_some (e_const pe_int fun _ _ => .int _))) (e_const pe_str fun _ _ => .str _)))
    (b_cons (s_while 1000000 PassesOwn.never (t_cmp (op_neD hr.units) g_ne (e_var (pv 3)) (e_const pe_str fun _ _ => .str _) (nomark _)) (b_cons (s_expr (e_mut PySem.F.slot_list_append PySem.F.type_list_append mt_append m_append (e_var (pv 2)) (a_cons (e_var (pv 3)) (a_nil))))
    (b_cons (s_compC (own := [("at", 5)]) rfl sc_told_lyndon.nd rfl rfl (sw_true rfl rfl rfl rfl) (i_rng1 rfl (G.fr _ (by decide +kernel)) (a_cons (e_var (pv 1)) (a_nil))) (show BlkOk N_told_lyndon (defScope (topS 50)) _ [("at", 5)] from ⟨rfl, by decide +kernel, by decide +kernel, by decide +kernel, by decide +kernel⟩) (gb_name fun _ _ _ _ _ => pg_name sc_told_lyndon.nd rfl (by first | exact .inl rfl | exact .inr rfl)).ex (by decide) (fun _ _ _ _ _ => ts_nil) (fun _ _ _ _ _ => e_ix ix_seq g_ix (e_var (pv 3)) (e_bin op_mod g_mod (e_var (pv 5)) (e_callB call_len g_len rfl (G.fr _ (by decide +kernel)) boot_len (a_cons (e_var (pv 3)) (a_nil)))) (fun _ _ => rfl)))
    (b_cons (s_while 1000000 PassesOwn.never (PW.pt (w_and (t_cmp (op_neD hr.units) g_ne (e_var (pv 4)) (e_lst (a_nil)) (nomark _)) (pw_and1 (t_cmp (op_eqD hr.units) g_eq (e_ix ix_seq g_ix (e_var (pv 4)) (e_neg (e_const pe_int fun _ _ => .int _)) (fun _ _ => rfl)) (e_ix ix_seq g_ix (e_var (pv 0)) (e_neg (e_const pe_int fun _ _ => .int _)) (fun _ _ => rfl)) (nomark _))))) (b_cons (s_expr (e_mut0 PySem.F.slot_list_pop PySem.F.type_list_pop mt_pop m_pop (e_var (pv 4))))
    (b_nil)))
    (b_cons (s_asg (e_if (t_cmp (op_neD hr.units) g_ne (e_var (pv 4)) (e_lst (a_nil)) (nomark _)) (e_bin op_addA g_add (e_m1 (pe_join (e_const pe_str fun _ _ => .str _) (e_sl (e_var (pv 4)) o_none (o_some (e_neg (e_const pe_int fun _ _ => .int _))))) g_join) (e_ix ix_seq g_ix (e_var (pv 0)) (e_bin op_addA g_add (e_m1 (pe_m1 PySem.F.slot_str_index PySem.F.type_str_index mt_sindex (e_var (pv 0)) (e_ix ix_seq g_ix (e_var (pv 4)) (e_neg (e_const pe_int fun _ _ => .int _)) (fun _ _ => rfl))) g_strix) (e_const pe_int fun _ _ => .int _)) (fun _ _ => rfl))) (e_const pe_str fun _ _ => .str _)) (gl_name (pg_name sc_told_lyndon.nd rfl (by first | exact .inl rfl | exact .inr rfl))))
    (b_nil))))))
    (b_cons (s_ret (e_var (pv 2)))
    (b_nil)))
/-! lyndon_words -/
def b_lyndon_words : FS := fSeq (fIfS (f1 gNot (fCall f_is_int (aCons (fV 0) (aCons (fC (.int 1)) (aCons (fN gLen (aCons (fC c_LETTERS) (aNil))) (aNil)))))) (fSeq (fNever) (fNxt)) (fNxt)) (fSeq (fIfS (f1 gNot (fCall f_is_int (aCons (fV 1) (aCons (fC (.int 0)) (aCons (fC c_MOST_LONG) (aNil)))))) (fSeq (fNever) (fNxt)) (fNxt)) (fSeq (fIfS (fAnd (f2 gEq (fV 0) (fN gLen (aCons (fC c_LETTERS) (aNil)))) (f2 (gInt kGt) (fV 1) (fC c_MOST_WIDE))) (fSeq (fNever) (fNxt)) (fNxt)) (fSeq (fRet (fN gTupOf (aCons (fCall f_told_keys (aCons (fCall f_told_lyndon (aCons (fSl (fC c_LETTERS) none (some (fV 0))) (aCons (fV 1) (aNil)))) (aNil))) (aNil)))) (fNxt))))
def f_lyndon_words : FF := mkFn 2 2 b_lyndon_words
abbrev N_lyndon_words : List Str := ["many", "long"]
theorem sc_lyndon_words : FnScope N_lyndon_words ["many", "long"] (defScope (topS 51)) := ⟨rfl, rfl, rfl, by decide +kernel, rfl, by decide +kernel, by decide +kernel⟩
theorem ok_lyndon_words (hX : XAok XA) (G : Tops K mg) : Fn P w K mg base XA "lyndon_words" ["many", "long"] 2 f_lyndon_words := by
  obtain ⟨f, fd, F, hm⟩ := (G.fd "lyndon_words" 51 (by decide +kernel)).ex
  refine ⟨f, fd, hm, F.kp, F.bindsN (fun _ _ _ _ _ _ us hl => match us, hl with | [_, _], _ => rfl), fn_ok hX F sc_lyndon_words fun cdv A outer s H E hr => PSs.nox ?_⟩
  exact b_cons (s_ifs (t_not (t_val (e_fn (ok_is_int hX G) hr (by decide) rfl (a_cons (e_var (pv 0)) (a_cons (e_const pe_int fun _ _ => .int _) (a_cons (e_callB call_len g_len rfl (G.fr _ (by decide +kernel)) boot_len (a_cons (e_gc (G.c_LETTERS) rfl) (a_nil))) (a_nil)))) (by decide)))) (b_cons (s_never)
    (b_nil)) (b_nil))
    (b_cons (s_ifs (t_not (t_val (e_fn (ok_is_int hX G) hr (by decide) rfl (a_cons (e_var (pv 1)) (a_cons (e_const pe_int fun _ _ => .int _) (a_cons (e_gc (G.c_MOST_LONG) rfl) (a_nil)))) (by decide)))) (b_cons (s_never)
    (b_nil)) (b_nil))
    (b_cons (s_ifs (PW.pt (w_and (t_cmp (op_eqD hr.units) g_eq (e_var (pv 0)) (e_callB call_len g_len rfl (G.fr _ (by decide +kernel)) boot_len (a_cons (e_gc (G.c_LETTERS) rfl) (a_nil))) (nomark _)) (pw_and1 (t_cmp op_gt g_gt (e_var (pv 1)) (e_gc (G.c_MOST_WIDE) rfl) (nomark _))))) (b_cons (s_never)
    (b_nil)) (b_nil))
    (b_cons (s_ret (e_callTy call_tuple_of g_tupOf rfl (G.fr _ (by decide +kernel)) boot_tuple (a_cons (e_fn (ok_told_keys hX G) hr (by decide) rfl (a_cons (e_fn (ok_told_lyndon hX G) hr (by decide) rfl (a_cons (e_sl (e_gc (G.c_LETTERS) rfl) o_none (o_some (e_var (pv 0)))) (a_cons (e_var (pv 1)) (a_nil))) (by decide)) (a_nil)) (by decide)) (a_nil))))
    (b_nil))))
/-! told_mark -/
def b_told_mark : FS := fSeq (fPar 1 2 (fC (.int 1)) (fC (.int 2))) (fSeq (fWhile 1000000 (f2 (gInt kGt) (fV 0) (fC (.int 1))) (fSeq (fIfS (f2 gEq (f2 (gInt kMod) (fV 0) (fV 2)) (fC (.int 0))) (fSeq (fAug 0 (gInt kDiv) (fV 2)) (fSeq (fIfS (f2 gEq (f2 (gInt kMod) (fV 0) (fV 2)) (fC (.int 0))) (fSeq (fRet (fC (.int 0))) (fNxt)) (fNxt)) (fSeq (fAsg (gN 1) (f1 gNeg (fV 1))) (fNxt)))) (fNxt)) (fSeq (fAug 2 (gInt fun i j => some (.int (i + j))) (fC (.int 1))) (fNxt)))) (fSeq (fRet (fV 1)) (fNxt)))
def f_told_mark : FF := mkFn 1 3 b_told_mark
abbrev N_told_mark : List Str := ["number", "found", "part"]
theorem sc_told_mark : FnScope N_told_mark ["number"] (defScope (topS 52)) := ⟨rfl, rfl, rfl, by decide +kernel, rfl, by decide +kernel, by decide +kernel⟩
theorem ok_told_mark (hX : XAok XA) (G : Tops K mg) : Fn P w K mg base XA "told_mark" ["number"] 1 f_told_mark := by
  obtain ⟨f, fd, F, hm⟩ := (G.fd "told_mark" 52 (by decide +kernel)).ex
  refine ⟨f, fd, hm, F.kp, F.bindsN (fun _ _ _ _ _ _ us hl => match us, hl with | [_], _ => rfl), fn_ok hX F sc_told_mark fun cdv A outer s H E hr => PSs.nox ?_⟩
  exact b_cons (s_par2 (i := 1) (j := 2) rfl (pg_name sc_told_mark.nd rfl (by first | exact .inl rfl | exact .inr rfl)) (pg_name sc_told_mark.nd rfl (by first | exact .inl rfl | exact .inr rfl)) (by decide) (e_const pe_int fun _ _ => .int _) (e_const pe_int fun _ _ => .int _))
    (b_cons (s_while 1000000 PassesOwn.never (t_cmp op_gt g_gt (e_var (pv 0)) (e_const pe_int fun _ _ => .int _) (nomark _)) (b_cons (s_ifs (t_cmp (op_eqD hr.units) g_eq (e_bin op_mod g_mod (e_var (pv 0)) (e_var (pv 2))) (e_const pe_int fun _ _ => .int _) (nomark _)) (b_cons (s_aug (i := 0) sc_told_mark.nd rfl (by first | exact .inl rfl | exact .inr rfl) (e_var (pv 2)) iop_fdivZ g_div)
    (b_cons (s_ifs (t_cmp (op_eqD hr.units) g_eq (e_bin op_mod g_mod (e_var (pv 0)) (e_var (pv 2))) (e_const pe_int fun _ _ => .int _) (nomark _)) (b_cons (s_ret (e_const pe_int fun _ _ => .int _))
    (b_nil)) (b_nil))
    (b_cons (s_asg (e_neg (e_var (pv 1))) (gl_name (pg_name sc_told_mark.nd rfl (by first | exact .inl rfl | exact .inr rfl))))
    (b_nil)))) (b_nil))
    (b_cons (s_aug (i := 2) sc_told_mark.nd rfl (by first | exact .inl rfl | exact .inr rfl) (e_const pe_int fun _ _ => .int _) iop_add g_addI)
    (b_nil))))
    (b_cons (s_ret (e_var (pv 1)))
    (b_nil)))
/-! told_power -/
def b_told_power : FS := fSeq (fAsg (gN 2) (fC (.int 1))) (fSeq (fFor (fItA (aCons (fV 1) (aNil)) kR1) (gN 3) (fSeq (fAug 2 (gInt kMulI) (fV 0)) (fNxt))) (fSeq (fRet (fV 2)) (fNxt)))
def f_told_power : FF := mkFn 2 4 b_told_power
abbrev N_told_power : List Str := ["number", "many", "found", "lap"]
theorem sc_told_power : FnScope N_told_power ["number", "many"] (defScope (topS 53)) := ⟨rfl, rfl, rfl, by decide +kernel, rfl, by decide +kernel, by decide +kernel⟩
theorem ok_told_power (hX : XAok XA) (G : Tops K mg) : Fn P w K mg base XA "told_power" ["number", "many"] 1 f_told_power := by
  obtain ⟨f, fd, F, hm⟩ := (G.fd "told_power" 53 (by decide +kernel)).ex
  refine ⟨f, fd, hm, F.kp, F.bindsN (fun _ _ _ _ _ _ us hl => match us, hl with | [_, _], _ => rfl), fn_ok hX F sc_told_power fun cdv A outer s H E hr => PSs.nox ?_⟩
  exact b_cons (s_asg (e_const pe_int fun _ _ => .int _) (gl_name (pg_name sc_told_power.nd rfl (by first | exact .inl rfl | exact .inr rfl))))
    (b_cons (s_for PassesOwn.never rfl (i_rng1 rfl (G.fr _ (by decide +kernel)) (a_cons (e_var (pv 1)) (a_nil))) (gl_name (pg_name sc_told_power.nd rfl (by first | exact .inl rfl | exact .inr rfl))) (b_cons (s_aug (i := 2) sc_told_power.nd rfl (by first | exact .inl rfl | exact .inr rfl) (e_var (pv 0)) iop_mulW g_mulI)
    (b_nil)))
    (b_cons (s_ret (e_var (pv 2)))
    (b_nil)))
/-! how_many_lyndon -/
def b_how_many_lyndon : FS := fSeq (fIfS (f1 gNot (fCall f_is_int (aCons (fV 0) (aCons (fC (.int 1)) (aCons (fC c_MOST_LETTERS) (aNil)))))) (fSeq (fNever) (fNxt)) (fNxt)) (fSeq (fIfS (f1 gNot (fCall f_is_int (aCons (fV 1) (aCons (fC (.int 1)) (aCons (fC c_MOST_COUNT) (aNil)))))) (fSeq (fNever) (fNxt)) (fNxt)) (fSeq (fAsg (gN 2) (fComp (fItA (aCons (fC (.int 1)) (aCons (f2 gAdd (fV 1) (fC (.int 1))) (aNil))) kR2) (gN 3) (f2 gEq (f2 (gInt kMod) (fV 1) (fV 3)) (fC (.int 0))) (f2 gMul (fCall f_told_mark (aCons (fV 3) (aNil))) (fCall f_told_power (aCons (fV 0) (aCons (f2 (gInt kDiv) (fV 1) (fV 3)) (aNil))))) [3])) (fSeq (fRet (f2 (gInt kDiv) (fN gSum (aCons (fV 2) (aNil))) (fV 1))) (fNxt))))
def f_how_many_lyndon : FF := mkFn 2 4 b_how_many_lyndon
abbrev N_how_many_lyndon : List Str := ["many", "long", "parts", "part"]
theorem sc_how_many_lyndon : FnScope N_how_many_lyndon ["many", "long"] (defScope (topS 54)) := ⟨rfl, rfl, rfl, by decide +kernel, rfl, by decide +kernel, by decide +kernel⟩
theorem ok_how_many_lyndon (hX : XAok XA) (G : Tops K mg) : Fn P w K mg base XA "how_many_lyndon" ["many", "long"] 2 f_how_many_lyndon := by
  obtain ⟨f, fd, F, hm⟩ := (G.fd "how_many_lyndon" 54 (by decide +kernel)).ex
  refine ⟨f, fd, hm, F.kp, F.bindsN (fun _ _ _ _ _ _ us hl => match us, hl with | [_, _], _ => rfl), fn_ok hX F sc_how_many_lyndon fun cdv A outer s H E hr => PSs.nox ?_⟩
  exact b_cons (s_ifs (t_not (t_val (e_fn (ok_is_int hX G) hr (by decide) rfl (a_cons (e_var (pv 0)) (a_cons (e_const pe_int fun _ _ => .int _) (a_cons (e_gc (G.c_MOST_LETTERS) rfl) (a_nil)))) (by decide)))) (b_cons (s_never)
    (b_nil)) (b_nil))
    (b_cons (s_ifs (t_not (t_val (e_fn (ok_is_int hX G) hr (by decide) rfl (a_cons (e_var (pv 1)) (a_cons (e_const pe_int fun _ _ => .int _) (a_cons (e_gc (G.c_MOST_COUNT) rfl) (a_nil)))) (by decide)))) (b_cons (s_never)
    (b_nil)) (b_nil))
    (b_cons (s_comp (own := [("part", 3)]) rfl sc_how_many_lyndon.nd rfl rfl (sw_true rfl rfl rfl rfl) (i_rng2 rfl (G.fr _ (by decide +kernel)) (a_cons (e_const pe_int fun _ _ => .int _) (a_cons (e_bin op_addA g_add (e_var (pv 1)) (e_const pe_int fun _ _ => .int _)) (a_nil)))) (show BlkOk N_how_many_lyndon (defScope (topS 54)) _ [("part", 3)] from ⟨rfl, by decide +kernel, by decide +kernel, by decide +kernel, by decide +kernel⟩) (gb_name fun _ _ _ _ _ => pg_name sc_how_many_lyndon.nd rfl (by first | exact .inl rfl | exact .inr rfl)).ex (by decide) (fun _ _ _ _ _ => ts_one (t_cmp (op_eqD hr.units) g_eq (e_bin op_mod g_mod (e_var (pv 1)) (e_var (pv 3))) (e_const pe_int fun _ _ => .int _) (nomark _))) (fun _ _ _ _ _ => e_bin op_mulA g_mul (e_fn (ok_told_mark hX G) hr (by decide) rfl (a_cons (e_var (pv 3)) (a_nil)) (by decide)) (e_fn (ok_told_power hX G) hr (by decide) rfl (a_cons (e_var (pv 0)) (a_cons (e_bin op_fdivZ g_div (e_var (pv 1)) (e_var (pv 3))) (a_nil))) (by decide))))
    (b_cons (s_ret (e_bin op_fdivZ g_div (e_callB (cr_sum rfl) g_sum rfl (G.fr _ (by decide +kernel)) boot_sum (a_cons (e_var (pv 2)) (a_nil))) (e_var (pv 1))))
    (b_nil))))
/-! told_split -/
def b_told_split : FS := fSeq (fFor (fItA (aCons (fC (.int 1)) (aCons (fN gLen (aCons (fV 0) (aNil))) (aNil))) kR2) (gN 1) (fSeq (fIfS (fCall f_is_told_lyndon (aCons (fSl (fV 0) (some (fV 1)) none) (aNil))) (fSeq (fRet (fN gTup (aCons (fSl (fV 0) none (some (fV 1))) (aCons (fSl (fV 0) (some (fV 1)) none) (aNil))))) (fNxt)) (fNxt)) (fNxt))) (fSeq (fRet (fC .non)) (fNxt))
def f_told_split : FF := mkFn 1 2 b_told_split
abbrev N_told_split : List Str := ["word", "at"]
theorem sc_told_split : FnScope N_told_split ["word"] (defScope (topS 55)) := ⟨rfl, rfl, rfl, by decide +kernel, rfl, by decide +kernel, by decide +kernel⟩
theorem ok_told_split (hX : XAok XA) (G : Tops K mg) : Fn P w K mg base XA "told_split" ["word"] 2 f_told_split := by
  obtain ⟨f, fd, F, hm⟩ := (G.fd "told_split" 55 (by decide +kernel)).ex
  refine ⟨f, fd, hm, F.kp, F.bindsN (fun _ _ _ _ _ _ us hl => match us, hl with | [_], _ => rfl), fn_ok hX F sc_told_split fun cdv A outer s H E hr => PSs.nox ?_⟩
  exact b_cons (s_for PassesOwn.never rfl (i_rng2 rfl (G.fr _ (by decide +kernel)) (a_cons (e_const pe_int fun _ _ => .int _) (a_cons (e_callB call_len g_len rfl (G.fr _ (by decide +kernel)) boot_len (a_cons (e_var (pv 0)) (a_nil))) (a_nil)))) (gl_name (pg_name sc_told_split.nd rfl (by first | exact .inl rfl | exact .inr rfl))) (b_cons (s_ifs (t_val (e_fn (ok_is_told_lyndon hX G) hr (by decide) rfl (a_cons (e_sl (e_var (pv 0)) (o_some (e_var (pv 1))) o_none) (a_nil)) (by decide))) (b_cons (s_ret (e_tup (a_cons (e_sl (e_var (pv 0)) o_none (o_some (e_var (pv 1)))) (a_cons (e_sl (e_var (pv 0)) (o_some (e_var (pv 1))) o_none) (a_nil)))))
    (b_nil)) (b_nil))
    (b_nil)))
    (b_cons (s_ret (e_const pe_non fun _ _ => .non))
    (b_nil))
/-! are_brackets -/
def b_are_brackets : FS := fSeq (fIfS (fOr (f1 gNot (f1 (gIsi .tup) (fV 0))) (f1 gNot (fN gAll (aCons (fComp (fIt (fV 0) kSeq) (gN 4) (fYes) (fAnd (f1 (gIsi .tup) (fV 4)) (f2 gEq (fN gLen (aCons (fV 4) (aNil))) (fC (.int 2)))) [4]) (aNil))))) (fSeq (fRet (fC (.bl false))) (fNxt)) (fNxt)) (fSeq (fIfS (f1 gNot (fN gAll (aCons (fComp (fIt (fV 0) kSeq) (gT 2 (gsC (gN 2) (gsC (gN 3) (gsN)))) (fYes) (fAnd (fCall f_is_lyndon (aCons (fV 2) (aNil))) (fAnd (fCall f_is_wide (aCons (fV 3) (aNil))) (f2 gNe (fV 3) (fC c_NOUGHT)))) [2, 3]) (aNil)))) (fSeq (fRet (fC (.bl false))) (fNxt)) (fNxt)) (fSeq (fAsg (gN 1) (fComp (fIt (fV 0) kSeq) (gT 2 (gsC (gN 2) (gsC (gN 3) (gsN)))) (fYes) (fV 2) [2, 3])) (fSeq (fRet (fAnd (f2 gEq (fV 1) (fCall f_told_keys (aCons (fV 1) (aNil)))) (f2 gEq (f1 gLenSet (fV 1)) (fN gLen (aCons (fV 1) (aNil)))))) (fNxt))))
def f_are_brackets : FF := mkFn 1 5 b_are_brackets
abbrev N_are_brackets : List Str := ["value", "some", "word", "number", "one"]
theorem sc_are_brackets : FnScope N_are_brackets ["value"] (defScope (topS 57)) := ⟨rfl, rfl, rfl, by decide +kernel, rfl, by decide +kernel, by decide +kernel⟩
theorem ok_are_brackets (hX : XAok XA) (G : Tops K mg) : Fn P w K mg base XA "are_brackets" ["value"] 4 f_are_brackets := by
  obtain ⟨f, fd, F, hm⟩ := (G.fd "are_brackets" 57 (by decide +kernel)).ex
  refine ⟨f, fd, hm, F.kp, F.bindsN (fun _ _ _ _ _ _ us hl => match us, hl with | [_], _ => rfl), fn_ok hX F sc_are_brackets fun cdv A outer s H E hr => PSs.nox ?_⟩
  exact b_cons (s_ifs (PW.pt (w_or (t_not (t_val (e_isi (c := .tup) rfl (G.fr _ (by decide +kernel)) rfl (G.fr _ (by decide +kernel)) boot_tuple (e_var (pv 0)) boot_isinstance (by decide) (by decide)))) (pw_or1 (t_not (t_val (e_callB (cr_all rfl) g_all rfl (G.fr _ (by decide +kernel)) boot_all (a_cons (e_comp (own := [("one", 4)]) rfl sc_are_brackets.nd (i_seq (e_var (pv 0))) (show BlkOk N_are_brackets (defScope (topS 57)) _ [("one", 4)] from ⟨rfl, by decide +kernel, by decide +kernel, by decide +kernel, by decide +kernel⟩) (gb_name fun _ _ _ _ _ => pg_name sc_are_brackets.nd rfl (by first | exact .inl rfl | exact .inr rfl)).ex (by decide) (fun _ _ _ _ _ => ts_nil) (fun _ _ _ _ _ => e_and (e_isi (c := .tup) rfl (G.fr _ (by decide +kernel)) rfl (G.fr _ (by decide +kernel)) boot_tuple (e_var (pv 4)) boot_isinstance (by decide) (by decide)) (pe_one (e_cmp (op_eqD hr.units) g_eq (e_callB call_len g_len rfl (G.fr _ (by decide +kernel)) boot_len (a_cons (e_var (pv 4)) (a_nil))) (e_const pe_int fun _ _ => .int _) (nomark _))))) (a_nil)))))))) (b_cons (s_ret (e_const pe_bl fun _ _ => .bl _))
    (b_nil)) (b_nil))
    (b_cons (s_ifs (t_not (t_val (e_callB (cr_all rfl) g_all rfl (G.fr _ (by decide +kernel)) boot_all (a_cons (e_comp (own := [("word", 2), ("number", 3)]) rfl sc_are_brackets.nd (i_seq (e_var (pv 0))) (show BlkOk N_are_brackets (defScope (topS 57)) _ [("word", 2), ("number", 3)] from ⟨rfl, by decide +kernel, by decide +kernel, by decide +kernel, by decide +kernel⟩) (gb_tup rfl (gbs_cons (gb_name fun _ _ _ _ _ => pg_name sc_are_brackets.nd rfl (by first | exact .inl rfl | exact .inr rfl)) (gbs_cons (gb_name fun _ _ _ _ _ => pg_name sc_are_brackets.nd rfl (by first | exact .inl rfl | exact .inr rfl)) (gbs_nil)))).ex (by decide) (fun _ _ _ _ _ => ts_nil) (fun _ _ _ _ _ => e_and (e_fn (ok_is_lyndon hX G) hr (by decide) rfl (a_cons (e_var (pv 2)) (a_nil)) (by decide)) (e_and (e_fn (ok_is_wide hX G) hr (by decide) rfl (a_cons (e_var (pv 3)) (a_nil)) (by decide)) (pe_one (e_cmp (op_neD hr.units) g_ne (e_var (pv 3)) (e_gc (G.c_NOUGHT) rfl) (nomark _)))))) (a_nil))))) (b_cons (s_ret (e_const pe_bl fun _ _ => .bl _))
    (b_nil)) (b_nil))
    (b_cons (s_comp (own := [("word", 2), ("number", 3)]) rfl sc_are_brackets.nd rfl rfl (sw_true rfl rfl rfl rfl) (i_seq (e_var (pv 0))) (show BlkOk N_are_brackets (defScope (topS 57)) _ [("word", 2), ("number", 3)] from ⟨rfl, by decide +kernel, by decide +kernel, by decide +kernel, by decide +kernel⟩) (gb_tup rfl (gbs_cons (gb_name fun _ _ _ _ _ => pg_name sc_are_brackets.nd rfl (by first | exact .inl rfl | exact .inr rfl)) (gbs_cons (gb_name fun _ _ _ _ _ => pg_name sc_are_brackets.nd rfl (by first | exact .inl rfl | exact .inr rfl)) (gbs_nil)))).ex (by decide) (fun _ _ _ _ _ => ts_nil) (fun _ _ _ _ _ => e_var (pv 2)))
    (b_cons (s_ret (e_and (e_cmp (op_eqD hr.units) g_eq (e_var (pv 1)) (e_fn (ok_told_keys hX G) hr (by decide) rfl (a_cons (e_var (pv 1)) (a_nil)) (by decide)) (nomark _)) (pe_one (e_cmp (op_eqD hr.units) g_eq (e_lenSet rfl rfl (G.fr _ (by decide +kernel)) rfl (G.fr _ (by decide +kernel)) (e_var (pv 1))) (e_callB call_len g_len rfl (G.fr _ (by decide +kernel)) boot_len (a_cons (e_var (pv 1)) (a_nil))) (nomark _)))))
    (b_nil))))
/-! look_at_brackets -/
def b_look_at_brackets : FS := fSeq (fIfS (f1 gNot (fCall f_are_brackets (aCons (fV 0) (aNil)))) (fSeq (fNever) (fNxt)) (fNxt)) (fNxt)
def f_look_at_brackets : FF := mkFn 1 1 b_look_at_brackets
abbrev N_look_at_brackets : List Str := ["value"]
theorem sc_look_at_brackets : FnScope N_look_at_brackets ["value"] (defScope (topS 58)) := ⟨rfl, rfl, rfl, by decide +kernel, rfl, by decide +kernel, by decide +kernel⟩
theorem ok_look_at_brackets (hX : XAok XA) (G : Tops K mg) : Fn P w K mg base XA "look_at_brackets" ["value"] 5 f_look_at_brackets := by
  obtain ⟨f, fd, F, hm⟩ := (G.fd "look_at_brackets" 58 (by decide +kernel)).ex
  refine ⟨f, fd, hm, F.kp, F.bindsN (fun _ _ _ _ _ _ us hl => match us, hl with | [_], _ => rfl), fn_ok hX F sc_look_at_brackets fun cdv A outer s H E hr => PSs.nox ?_⟩
  exact b_cons (s_ifs (t_not (t_val (e_fn (ok_are_brackets hX G) hr (by decide) rfl (a_cons (e_var (pv 0)) (a_nil)) (by decide)))) (b_cons (s_never)
    (b_nil)) (b_nil))
    (b_nil)
/-! told_commuted -/
def b_told_commuted : FS := fSeq (fRet (fCall q_told_added (aCons (fCall q_told_joined (aCons (fV 0) (aCons (fV 1) (aCons (fV 2) (aNil))))) (aCons (fCall q_told_joined (aCons (fV 1) (aCons (fV 0) (aCons (fV 2) (aNil))))) (aCons (fN gTup (aCons (f1 gNeg (fC (.int 1))) (aCons (fC (.int 1)) (aNil)))) (aNil)))))) (fNxt)
def f_told_commuted : FF := mkFn 3 3 b_told_commuted
abbrev N_told_commuted : List Str := ["one", "other", "long"]
theorem sc_told_commuted : FnScope N_told_commuted ["one", "other", "long"] (defScope (topS 59)) := ⟨rfl, rfl, rfl, by decide +kernel, rfl, by decide +kernel, by decide +kernel⟩
theorem ok_told_commuted (hX : XAok XA) (G : Tops K mg) : Fn P w K mg base XA "told_commuted" ["one", "other", "long"] 5 f_told_commuted := by
  obtain ⟨f, fd, F, hm⟩ := (G.fd "told_commuted" 59 (by decide +kernel)).ex
  refine ⟨f, fd, hm, F.kp, F.bindsN (fun _ _ _ _ _ _ us hl => match us, hl with | [_, _, _], _ => rfl), fn_ok hX F sc_told_commuted fun cdv A outer s H E hr => PSs.nox ?_⟩
  exact b_cons (s_ret (e_fn (ok_q_told_added hX G) hr (by decide) rfl (a_cons (e_fn (ok_q_told_joined hX G) hr (by decide) rfl (a_cons (e_var (pv 0)) (a_cons (e_var (pv 1)) (a_cons (e_var (pv 2)) (a_nil)))) (by decide)) (a_cons (e_fn (ok_q_told_joined hX G) hr (by decide) rfl (a_cons (e_var (pv 1)) (a_cons (e_var (pv 0)) (a_cons (e_var (pv 2)) (a_nil)))) (by decide)) (a_cons (e_tup (a_cons (e_neg (e_const pe_int fun _ _ => .int _)) (a_cons (e_const pe_int fun _ _ => .int _) (a_nil)))) (a_nil)))) (by decide)))
    (b_nil)
end
end M85

set_option Elab.async false
set_option maxRecDepth 100000
set_option maxHeartbeats 4000000
namespace M85
open PySem PySem.Spec PyProof.Rows L2 EV
noncomputable section
variable {P : Program} {w : World} {K : PySem.W.Frag} {mg : Str → Option Value} {base : Heap} {XA : XAT}
/-! told_bracket -/
def b_told_bracket (self : FF) : FS := fSeq (fIfS (f2 gEq (fN gLen (aCons (fV 0) (aNil))) (fC (.int 1))) (fSeq (fRet (fDisp [(fV 0, fC c_ONE)])) (fNxt)) (fNxt)) (fSeq (fAsg (gT 2 (gsC (gN 1) (gsC (gN 2) (gsN)))) (fCall f_told_split (aCons (fV 0) (aNil)))) (fSeq (fRet (fDComp (fItItems (fCall f_told_commuted (aCons (fCall self (aCons (fV 1) (aNil))) (aCons (fCall self (aCons (fV 2) (aNil))) (aCons (fC c_MOST_LONG) (aNil)))))) (gT 2 (gsC (gN 3) (gsC (gN 4) (gsN)))) (f2 gNe (fV 4) (fC c_NOUGHT)) (fV 3) (fV 4) [3, 4])) (fNxt)))
def f_told_bracket_n : Nat → FF
  | 0 => mkFn 1 5 fNever
  | n + 1 => mkFn 1 5 (b_told_bracket (f_told_bracket_n n))
abbrev N_told_bracket : List Str := ["word", "one", "other", "key", "part"]
theorem sc_told_bracket : FnScope N_told_bracket ["word"] (defScope (topS 60)) := ⟨rfl, rfl, rfl, by decide +kernel, rfl, by decide +kernel, by decide +kernel⟩
theorem ok_told_bracket_n (hX : XAok XA) (G : Tops K mg) : ∀ n : Nat, Fn P w K mg base XA "told_bracket" ["word"] (6 + n) (f_told_bracket_n n)
  | 0 => by
    obtain ⟨f, fd, F, hm⟩ := (G.fd "told_bracket" 60 (by decide +kernel)).ex
    refine ⟨f, fd, hm, F.kp, F.bindsN (fun _ _ _ _ _ _ us hl => match us, hl with | [_], _ => rfl), fn_ok (k := 5) hX F sc_told_bracket fun cdv A outer s H E hr => PSs.nox ?_⟩
    exact b_never
  | n + 1 => by
    have ih := ok_told_bracket_n hX G n
    obtain ⟨f, fd, F, hm⟩ := (G.fd "told_bracket" 60 (by decide +kernel)).ex
    refine ⟨f, fd, hm, F.kp, F.bindsN (fun _ _ _ _ _ _ us hl => match us, hl with | [_], _ => rfl), fn_ok (k := 6 + n) hX F sc_told_bracket fun cdv A outer s H E hr => PSs.nox ?_⟩
    exact b_cons (s_ifs (t_cmp (op_eqD hr.units) g_eq (e_callB call_len g_len rfl (G.fr _ (by decide +kernel)) boot_len (a_cons (e_var (pv 0)) (a_nil))) (e_const pe_int fun _ _ => .int _) (nomark _)) (b_cons (s_ret (e_disp (p_cons (e_var (pv 0)) (e_gc (G.c_ONE) rfl) (p_nil)) rfl rfl (by simp) (by decide)))
        (b_nil)) (b_nil))
        (b_cons (s_asg (e_fn (ok_told_split hX G) hr (by omega) rfl (a_cons (e_var (pv 0)) (a_nil)) (by decide)) (gl_tup rfl (gls_cons (gl_name (pg_name sc_told_bracket.nd rfl (by first | exact .inl rfl | exact .inr rfl))) (gls_cons (gl_name (pg_name sc_told_bracket.nd rfl (by first | exact .inl rfl | exact .inr rfl))) (gls_nil)))))
        (b_cons (s_ret (e_dcomp (own := [("key", 3), ("part", 4)]) rfl sc_told_bracket.nd (i_items (e_fn (ok_told_commuted hX G) hr (by omega) rfl (a_cons (e_fn ih hr (Nat.le_refl _) rfl (a_cons (e_var (pv 1)) (a_nil)) (by decide)) (a_cons (e_fn ih hr (Nat.le_refl _) rfl (a_cons (e_var (pv 2)) (a_nil)) (by decide)) (a_cons (e_gc (G.c_MOST_LONG) rfl) (a_nil)))) (by decide))) (show BlkOk N_told_bracket (defScope (topS 60)) _ [("key", 3), ("part", 4)] from ⟨rfl, by decide +kernel, by decide +kernel, by decide +kernel, by decide +kernel⟩) (gb_tup rfl (gbs_cons (gb_name fun _ _ _ _ _ => pg_name sc_told_bracket.nd rfl (by first | exact .inl rfl | exact .inr rfl)) (gbs_cons (gb_name fun _ _ _ _ _ => pg_name sc_told_bracket.nd rfl (by first | exact .inl rfl | exact .inr rfl)) (gbs_nil)))).ex (by decide) (fun _ _ _ _ _ => ts_one (t_cmp (op_neD hr.units) g_ne (e_var (pv 4)) (e_gc (G.c_NOUGHT) rfl) (nomark _))) (fun _ _ _ _ _ => e_var (pv 3)) (fun _ _ _ _ _ => e_var (pv 4))))
        (b_nil)))
def f_told_bracket : FF := f_told_bracket_n 7
theorem ok_told_bracket (hX : XAok XA) (G : Tops K mg) : Fn P w K mg base XA "told_bracket" ["word"] 13 f_told_bracket := ok_told_bracket_n hX G 7
/-! told_words -/
def b_told_words : FS := fSeq (fAsg (gN 2) (fDisp0)) (fSeq (fFor (fIt (fV 0) kSeq) (gT 2 (gsC (gN 3) (gsC (gN 4) (gsN)))) (fSeq (fIfS (f2 (gInt kLe) (fN gLen (aCons (fV 3) (aNil))) (fV 1)) (fSeq (fAsg (gN 2) (fCall q_told_added (aCons (fV 2) (aCons (fCall f_told_bracket (aCons (fV 3) (aNil))) (aCons (fV 4) (aNil)))))) (fNxt)) (fNxt)) (fNxt))) (fSeq (fRet (fV 2)) (fNxt)))
def f_told_words : FF := mkFn 2 5 b_told_words
abbrev N_told_words : List Str := ["row", "long", "found", "word", "number"]
theorem sc_told_words : FnScope N_told_words ["row", "long"] (defScope (topS 61)) := ⟨rfl, rfl, rfl, by decide +kernel, rfl, by decide +kernel, by decide +kernel⟩
theorem ok_told_words (hX : XAok XA) (G : Tops K mg) : Fn P w K mg base XA "told_words" ["row", "long"] 14 f_told_words := by
  obtain ⟨f, fd, F, hm⟩ := (G.fd "told_words" 61 (by decide +kernel)).ex
  refine ⟨f, fd, hm, F.kp, F.bindsN (fun _ _ _ _ _ _ us hl => match us, hl with | [_, _], _ => rfl), fn_ok hX F sc_told_words fun cdv A outer s H E hr => PSs.nox ?_⟩
  exact b_cons (s_asg (e_disp0) (gl_name (pg_name sc_told_words.nd rfl (by first | exact .inl rfl | exact .inr rfl))))
    (b_cons (s_for PassesOwn.never rfl (i_seq (e_var (pv 0))) (gl_tup rfl (gls_cons (gl_name (pg_name sc_told_words.nd rfl (by first | exact .inl rfl | exact .inr rfl))) (gls_cons (gl_name (pg_name sc_told_words.nd rfl (by first | exact .inl rfl | exact .inr rfl))) (gls_nil)))) (b_cons (s_ifs (t_cmp op_le g_le (e_callB call_len g_len rfl (G.fr _ (by decide +kernel)) boot_len (a_cons (e_var (pv 3)) (a_nil))) (e_var (pv 1)) (nomark _)) (b_cons (s_asg (e_fn (ok_q_told_added hX G) hr (by decide) rfl (a_cons (e_var (pv 2)) (a_cons (e_fn (ok_told_bracket hX G) hr (by decide) rfl (a_cons (e_var (pv 3)) (a_nil)) (by decide)) (a_cons (e_var (pv 4)) (a_nil)))) (by decide)) (gl_name (pg_name sc_told_words.nd rfl (by first | exact .inl rfl | exact .inr rfl))))
    (b_nil)) (b_nil))
    (b_nil)))
    (b_cons (s_ret (e_var (pv 2)))
    (b_nil)))
/-! told_row -/
def b_told_row : FS := fSeq (fPar 1 2 (fDCompD 0 itItems (gT 2 (gsC (gN 3) (gsC (gN 4) (gsN)))) (f2 gNe (fV 4) (fC c_NOUGHT)) (fV 3) (fV 4) [3, 4]) (fCell (fN gLst (aNil)))) (fSeq (fWhile 1000000 (f2 gNeD (fV 1) (fDisp0)) (fSeq (fAsg (gN 3) (f2 gIx (fCall f_told_keys_d (aCons (fV 1) (aNil))) (fC (.int 0)))) (fSeq (fIfS (f1 gNot (fCall f_is_told_lyndon (aCons (fV 3) (aNil)))) (fSeq (fRet (fC .non)) (fNxt)) (fNxt)) (fSeq (fExpr (fMut mAppend (fV 2) (aCons (fN gTup (aCons (fV 3) (aCons (f2 gDGet (fV 1) (fV 3)) (aNil)))) (aNil)))) (fSeq (fAsg (gN 1) (fCall q_told_added (aCons (fV 1) (aCons (fCall f_told_bracket (aCons (fV 3) (aNil))) (aCons (fCall f_opposite (aCons (f2 gDGet (fV 1) (fV 3)) (aNil))) (aNil)))))) (fSeq (fAsg (gN 1) (fDCompD 1 itItems (gT 2 (gsC (gN 5) (gsC (gN 4) (gsN)))) (f2 gNe (fV 4) (fC c_NOUGHT)) (fV 5) (fV 4) [5, 4])) (fNxt))))))) (fSeq (fRet (fN gTupOf (aCons (fV 2) (aNil)))) (fNxt)))
def f_told_row : FF := mkFn 1 6 b_told_row
abbrev N_told_row : List Str := ["words", "rest", "found", "word", "part", "one"]
theorem sc_told_row : FnScope N_told_row ["words"] (defScope (topS 62)) := ⟨rfl, rfl, rfl, by decide +kernel, rfl, by decide +kernel, by decide +kernel⟩
theorem ok_told_row (hX : XAok XA) (G : Tops K mg) : Fn P w K mg base XA "told_row" ["words"] 14 f_told_row := by
  obtain ⟨f, fd, F, hm⟩ := (G.fd "told_row" 62 (by decide +kernel)).ex
  refine ⟨f, fd, hm, F.kp, F.bindsN (fun _ _ _ _ _ _ us hl => match us, hl with | [_], _ => rfl), fn_ok hX F sc_told_row fun cdv A outer s H E hr => PSs.nox ?_⟩
  exact b_cons (s_par (i := 1) (j := 2) (fun ta h => ps_par rfl sc_told_row.nd rfl rfl (by decide) rfl rfl h rfl) (e_dcompD (own := [("word", 3), ("part", 4)]) rfl sc_told_row.nd (id_items (pv 0)) (show BlkOk N_told_row (defScope (topS 62)) _ [("word", 3), ("part", 4)] from ⟨rfl, by decide +kernel, by decide +kernel, by decide +kernel, by decide +kernel⟩) (gb_tup rfl (gbs_cons (gb_name fun _ _ _ _ _ => pg_name sc_told_row.nd rfl (by first | exact .inl rfl | exact .inr rfl)) (gbs_cons (gb_name fun _ _ _ _ _ => pg_name sc_told_row.nd rfl (by first | exact .inl rfl | exact .inr rfl)) (gbs_nil)))).ex (by decide) (fun _ _ _ _ _ => ts_one (t_cmp (op_neD hr.units) g_ne (e_var (pv 4)) (e_gc (G.c_NOUGHT) rfl) (nomark _))) (fun _ _ _ _ _ => e_var (pv 3)) (fun _ _ _ _ _ => e_var (pv 4))) (e_cell (e_lst (a_nil))))
    (b_cons (s_while 1000000 PassesOwn.never (t_cmp (op_neDL hr.units0) g_neD (e_var (pv 1)) (e_disp0) (nomark _)) (b_cons (s_asg (e_ix ix_seq g_ix (e_fn (ok_told_keys_d hX G) hr (by decide) rfl (a_cons (e_var (pv 1)) (a_nil)) (by decide)) (e_const pe_int fun _ _ => .int _) (fun _ _ => rfl)) (gl_name (pg_name sc_told_row.nd rfl (by first | exact .inl rfl | exact .inr rfl))))
    (b_cons (s_ifs (t_not (t_val (e_fn (ok_is_told_lyndon hX G) hr (by decide) rfl (a_cons (e_var (pv 3)) (a_nil)) (by decide)))) (b_cons (s_ret (e_const pe_non fun _ _ => .non))
    (b_nil)) (b_nil))
    (b_cons (s_expr (e_mut PySem.F.slot_list_append PySem.F.type_list_append mt_append m_append (e_var (pv 2)) (a_cons (e_tup (a_cons (e_var (pv 3)) (a_cons (e_dget (hu_of hr) (e_var (pv 1)) (e_var (pv 3)) (fun _ _ => rfl)) (a_nil)))) (a_nil))))
    (b_cons (s_asg (e_fn (ok_q_told_added hX G) hr (by decide) rfl (a_cons (e_var (pv 1)) (a_cons (e_fn (ok_told_bracket hX G) hr (by decide) rfl (a_cons (e_var (pv 3)) (a_nil)) (by decide)) (a_cons (e_fn (ok_opposite hX G) hr (by decide) rfl (a_cons (e_dget (hu_of hr) (e_var (pv 1)) (e_var (pv 3)) (fun _ _ => rfl)) (a_nil)) (by decide)) (a_nil)))) (by decide)) (gl_name (pg_name sc_told_row.nd rfl (by first | exact .inl rfl | exact .inr rfl))))
    (b_cons (s_dcompD (own := [("one", 5), ("part", 4)]) rfl sc_told_row.nd rfl rfl (sw_trueD rfl rfl rfl rfl) (id_items (pv 1)) (show BlkOk N_told_row (defScope (topS 62)) _ [("one", 5), ("part", 4)] from ⟨rfl, by decide +kernel, by decide +kernel, by decide +kernel, by decide +kernel⟩) (gb_tup rfl (gbs_cons (gb_name fun _ _ _ _ _ => pg_name sc_told_row.nd rfl (by first | exact .inl rfl | exact .inr rfl)) (gbs_cons (gb_name fun _ _ _ _ _ => pg_name sc_told_row.nd rfl (by first | exact .inl rfl | exact .inr rfl)) (gbs_nil)))).ex (by decide) (fun _ _ _ _ _ => ts_one (t_cmp (op_neD hr.units) g_ne (e_var (pv 4)) (e_gc (G.c_NOUGHT) rfl) (nomark _))) (fun _ _ _ _ _ => e_var (pv 5)) (fun _ _ _ _ _ => e_var (pv 4)))
    (b_nil)))))))
    (b_cons (s_ret (e_callTy call_tuple_of g_tupOf rfl (G.fr _ (by decide +kernel)) boot_tuple (a_cons (e_var (pv 2)) (a_nil))))
    (b_nil)))
/-! row_taken -/
def b_row_taken : FS := fSeq (fExpr (fCall f_look_at_brackets (aCons (fV 0) (aNil)))) (fSeq (fExpr (fCall f_look_at_number (aCons (fV 1) (aNil)))) (fSeq (fRet (fCall f_told_sum (aCons (fDComp (fIt (fV 0) kSeq) (gT 2 (gsC (gN 2) (gsC (gN 3) (gsN)))) (fYes) (fV 2) (fCall q_times (aCons (fV 3) (aCons (fV 1) (aNil)))) [2, 3]) (aNil)))) (fNxt)))
def f_row_taken : FF := mkFn 2 4 b_row_taken
abbrev N_row_taken : List Str := ["row", "number", "word", "part"]
theorem sc_row_taken : FnScope N_row_taken ["row", "number"] (defScope (topS 63)) := ⟨rfl, rfl, rfl, by decide +kernel, rfl, by decide +kernel, by decide +kernel⟩
theorem ok_row_taken (hX : XAok XA) (G : Tops K mg) : Fn P w K mg base XA "row_taken" ["row", "number"] 6 f_row_taken := by
  obtain ⟨f, fd, F, hm⟩ := (G.fd "row_taken" 63 (by decide +kernel)).ex
  refine ⟨f, fd, hm, F.kp, F.bindsN (fun _ _ _ _ _ _ us hl => match us, hl with | [_, _], _ => rfl), fn_ok hX F sc_row_taken fun cdv A outer s H E hr => PSs.nox ?_⟩
  exact b_cons (s_expr (e_fn (ok_look_at_brackets hX G) hr (by decide) rfl (a_cons (e_var (pv 0)) (a_nil)) (by decide)))
    (b_cons (s_expr (e_fn (ok_look_at_number hX G) hr (by decide) rfl (a_cons (e_var (pv 1)) (a_nil)) (by decide)))
    (b_cons (s_ret (e_fn (ok_told_sum hX G) hr (by decide) rfl (a_cons (e_dcomp (own := [("word", 2), ("part", 3)]) rfl sc_row_taken.nd (i_seq (e_var (pv 0))) (show BlkOk N_row_taken (defScope (topS 63)) _ [("word", 2), ("part", 3)] from ⟨rfl, by decide +kernel, by decide +kernel, by decide +kernel, by decide +kernel⟩) (gb_tup rfl (gbs_cons (gb_name fun _ _ _ _ _ => pg_name sc_row_taken.nd rfl (by first | exact .inl rfl | exact .inr rfl)) (gbs_cons (gb_name fun _ _ _ _ _ => pg_name sc_row_taken.nd rfl (by first | exact .inl rfl | exact .inr rfl)) (gbs_nil)))).ex (by decide) (fun _ _ _ _ _ => ts_nil) (fun _ _ _ _ _ => e_var (pv 2)) (fun _ _ _ _ _ => e_fn (ok_q_times hX G) hr (by decide) rfl (a_cons (e_var (pv 3)) (a_cons (e_var (pv 1)) (a_nil))) (by decide))) (a_nil)) (by decide)))
    (b_nil)))
/-! are_steps -/
def b_are_steps : FS := fSeq (fIfS (fOr (f1 gNot (f1 (gIsi .tup) (fV 0))) (f2 (gInt kGt) (fN gLen (aCons (fV 0) (aNil))) (fC c_MOST_STEPS))) (fSeq (fRet (fC (.bl false))) (fNxt)) (fNxt)) (fSeq (fFor (fIt (fV 0) kSeq) (gN 1) (fSeq (fIfS (fOr (f1 gNot (f1 (gIsi .tup) (fV 1))) (fOr (f2 gNe (fN gLen (aCons (fV 1) (aNil))) (fC (.int 2))) (f1 gNot (f1 (gIsi .str) (f2 gIx (fV 1) (fC (.int 0))))))) (fSeq (fRet (fC (.bl false))) (fNxt)) (fNxt)) (fSeq (fIfS (fOr (f2 gNe (fN gLen (aCons (f2 gIx (fV 1) (fC (.int 0))) (aNil))) (fC (.int 1))) (fOr (f2 (gIn true) (f2 gIx (fV 1) (fC (.int 0))) (fC c_LETTERS)) (f1 gNot (fCall f_is_fraction (aCons (f2 gIx (fV 1) (fC (.int 1))) (aNil)))))) (fSeq (fRet (fC (.bl false))) (fNxt)) (fNxt)) (fNxt)))) (fSeq (fRet (fC (.bl true))) (fNxt)))
def f_are_steps : FF := mkFn 1 2 b_are_steps
abbrev N_are_steps : List Str := ["value", "one"]
theorem sc_are_steps : FnScope N_are_steps ["value"] (defScope (topS 66)) := ⟨rfl, rfl, rfl, by decide +kernel, rfl, by decide +kernel, by decide +kernel⟩
theorem ok_are_steps (hX : XAok XA) (G : Tops K mg) : Fn P w K mg base XA "are_steps" ["value"] 4 f_are_steps := by
  obtain ⟨f, fd, F, hm⟩ := (G.fd "are_steps" 66 (by decide +kernel)).ex
  refine ⟨f, fd, hm, F.kp, F.bindsN (fun _ _ _ _ _ _ us hl => match us, hl with | [_], _ => rfl), fn_ok hX F sc_are_steps fun cdv A outer s H E hr => PSs.nox ?_⟩
  exact b_cons (s_ifs (PW.pt (w_or (t_not (t_val (e_isi (c := .tup) rfl (G.fr _ (by decide +kernel)) rfl (G.fr _ (by decide +kernel)) boot_tuple (e_var (pv 0)) boot_isinstance (by decide) (by decide)))) (pw_or1 (t_cmp op_gt g_gt (e_callB call_len g_len rfl (G.fr _ (by decide +kernel)) boot_len (a_cons (e_var (pv 0)) (a_nil))) (e_gc (G.c_MOST_STEPS) rfl) (nomark _))))) (b_cons (s_ret (e_const pe_bl fun _ _ => .bl _))
    (b_nil)) (b_nil))
    (b_cons (s_for PassesOwn.never rfl (i_seq (e_var (pv 0))) (gl_name (pg_name sc_are_steps.nd rfl (by first | exact .inl rfl | exact .inr rfl))) (b_cons (s_ifs (PW.pt (w_or (t_not (t_val (e_isi (c := .tup) rfl (G.fr _ (by decide +kernel)) rfl (G.fr _ (by decide +kernel)) boot_tuple (e_var (pv 1)) boot_isinstance (by decide) (by decide)))) (w_or (t_cmp (op_neD hr.units) g_ne (e_callB call_len g_len rfl (G.fr _ (by decide +kernel)) boot_len (a_cons (e_var (pv 1)) (a_nil))) (e_const pe_int fun _ _ => .int _) (nomark _)) (pw_or1 (t_not (t_val (e_isi (c := .str) rfl (G.fr _ (by decide +kernel)) rfl (G.fr _ (by decide +kernel)) boot_str (e_ix ix_seq g_ix (e_var (pv 1)) (e_const pe_int fun _ _ => .int _) (fun _ _ => rfl)) boot_isinstance (by decide) (by decide)))))))) (b_cons (s_ret (e_const pe_bl fun _ _ => .bl _))
    (b_nil)) (b_nil))
    (b_cons (s_ifs (PW.pt (w_or (t_cmp (op_neD hr.units) g_ne (e_callB call_len g_len rfl (G.fr _ (by decide +kernel)) boot_len (a_cons (e_ix ix_seq g_ix (e_var (pv 1)) (e_const pe_int fun _ _ => .int _) (fun _ _ => rfl)) (a_nil))) (e_const pe_int fun _ _ => .int _) (nomark _)) (w_or (t_cmp (op_notIn2 (hu65 hr)) g_notIn (e_ix ix_seq g_ix (e_var (pv 1)) (e_const pe_int fun _ _ => .int _) (fun _ _ => rfl)) (e_gc (G.c_LETTERS) rfl) (by rfl)) (pw_or1 (t_not (t_val (e_fn (ok_is_fraction hX G) hr (by decide) rfl (a_cons (e_ix ix_seq g_ix (e_var (pv 1)) (e_const pe_int fun _ _ => .int _) (fun _ _ => rfl)) (a_nil)) (by decide)))))))) (b_cons (s_ret (e_const pe_bl fun _ _ => .bl _))
    (b_nil)) (b_nil))
    (b_nil))))
    (b_cons (s_ret (e_const pe_bl fun _ _ => .bl _))
    (b_nil)))
/-! look_at_steps -/
def b_look_at_steps : FS := fSeq (fIfS (f1 gNot (fCall f_are_steps (aCons (fV 0) (aNil)))) (fSeq (fNever) (fNxt)) (fNxt)) (fNxt)
def f_look_at_steps : FF := mkFn 1 1 b_look_at_steps
abbrev N_look_at_steps : List Str := ["value"]
theorem sc_look_at_steps : FnScope N_look_at_steps ["value"] (defScope (topS 67)) := ⟨rfl, rfl, rfl, by decide +kernel, rfl, by decide +kernel, by decide +kernel⟩
theorem ok_look_at_steps (hX : XAok XA) (G : Tops K mg) : Fn P w K mg base XA "look_at_steps" ["value"] 5 f_look_at_steps := by
  obtain ⟨f, fd, F, hm⟩ := (G.fd "look_at_steps" 67 (by decide +kernel)).ex
  refine ⟨f, fd, hm, F.kp, F.bindsN (fun _ _ _ _ _ _ us hl => match us, hl with | [_], _ => rfl), fn_ok hX F sc_look_at_steps fun cdv A outer s H E hr => PSs.nox ?_⟩
  exact b_cons (s_ifs (t_not (t_val (e_fn (ok_are_steps hX G) hr (by decide) rfl (a_cons (e_var (pv 0)) (a_nil)) (by decide)))) (b_cons (s_never)
    (b_nil)) (b_nil))
    (b_nil)
/-! told_factorial -/
def b_told_factorial : FS := fSeq (fAsg (gN 1) (fC (.int 1))) (fSeq (fFor (fItA (aCons (fC (.int 2)) (aCons (f2 gAdd (fV 0) (fC (.int 1))) (aNil))) kR2) (gN 2) (fSeq (fAug 1 (gInt kMulI) (fV 2)) (fNxt))) (fSeq (fRet (fV 1)) (fNxt)))
def f_told_factorial : FF := mkFn 1 3 b_told_factorial
abbrev N_told_factorial : List Str := ["many", "found", "part"]
theorem sc_told_factorial : FnScope N_told_factorial ["many"] (defScope (topS 69)) := ⟨rfl, rfl, rfl, by decide +kernel, rfl, by decide +kernel, by decide +kernel⟩
theorem ok_told_factorial (hX : XAok XA) (G : Tops K mg) : Fn P w K mg base XA "told_factorial" ["many"] 1 f_told_factorial := by
  obtain ⟨f, fd, F, hm⟩ := (G.fd "told_factorial" 69 (by decide +kernel)).ex
  refine ⟨f, fd, hm, F.kp, F.bindsN (fun _ _ _ _ _ _ us hl => match us, hl with | [_], _ => rfl), fn_ok hX F sc_told_factorial fun cdv A outer s H E hr => PSs.nox ?_⟩
  exact b_cons (s_asg (e_const pe_int fun _ _ => .int _) (gl_name (pg_name sc_told_factorial.nd rfl (by first | exact .inl rfl | exact .inr rfl))))
    (b_cons (s_for PassesOwn.never rfl (i_rng2 rfl (G.fr _ (by decide +kernel)) (a_cons (e_const pe_int fun _ _ => .int _) (a_cons (e_bin op_addA g_add (e_var (pv 0)) (e_const pe_int fun _ _ => .int _)) (a_nil)))) (gl_name (pg_name sc_told_factorial.nd rfl (by first | exact .inl rfl | exact .inr rfl))) (b_cons (s_aug (i := 1) sc_told_factorial.nd rfl (by first | exact .inl rfl | exact .inr rfl) (e_var (pv 2)) iop_mulW g_mulI)
    (b_nil)))
    (b_cons (s_ret (e_var (pv 1)))
    (b_nil)))
/-! told_factor -/
def b_told_factor : FS := fSeq (fPar 3 4 (fCell (fDisp [(fC (.str []), fC c_ONE)])) (fC c_ONE)) (fSeq (fFor (fItA (aCons (fC (.int 1)) (aCons (f2 gAdd (fV 2) (fC (.int 1))) (aNil))) kR2) (gN 5) (fSeq (fAsg (gN 4) (fCall f_over (aCons (fCall f_power (aCons (fV 1) (aCons (fV 5) (aNil)))) (aCons (fN gTup (aCons (fCall f_told_factorial (aCons (fV 5) (aNil))) (aCons (fC (.int 1)) (aNil)))) (aNil))))) (fSeq (fPut setD (fV 3) (f2 gMul (fV 0) (fV 5)) (fV 4)) (fNxt)))) (fSeq (fRet (fDCompD 3 itItems (gT 2 (gsC (gN 6) (gsC (gN 7) (gsN)))) (f2 gNe (f2 gIx (fV 7) (fC (.int 0))) (fC (.int 0))) (fV 6) (fV 7) [6, 7])) (fNxt)))
def f_told_factor : FF := mkFn 3 8 b_told_factor
abbrev N_told_factor : List Str := ["letter", "number", "long", "found", "here", "many", "word", "part"]
theorem sc_told_factor : FnScope N_told_factor ["letter", "number", "long"] (defScope (topS 68)) := ⟨rfl, rfl, rfl, by decide +kernel, rfl, by decide +kernel, by decide +kernel⟩
theorem ok_told_factor (hX : XAok XA) (G : Tops K mg) : Fn P w K mg base XA "told_factor" ["letter", "number", "long"] 5 f_told_factor := by
  obtain ⟨f, fd, F, hm⟩ := (G.fd "told_factor" 68 (by decide +kernel)).ex
  refine ⟨f, fd, hm, F.kp, F.bindsN (fun _ _ _ _ _ _ us hl => match us, hl with | [_, _, _], _ => rfl), fn_ok hX F sc_told_factor fun cdv A outer s H E hr => PSs.nox ?_⟩
  exact b_cons (s_par (i := 3) (j := 4) (fun ta h => ps_par rfl sc_told_factor.nd rfl rfl (by decide) rfl rfl h rfl) (e_cell (e_disp (p_cons (e_const pe_str fun _ _ => .str _) (e_gc (G.c_ONE) rfl) (p_nil)) rfl rfl (by simp) (by decide))) (e_gc (G.c_ONE) rfl))
    (b_cons (s_for PassesOwn.never rfl (i_rng2 rfl (G.fr _ (by decide +kernel)) (a_cons (e_const pe_int fun _ _ => .int _) (a_cons (e_bin op_addA g_add (e_var (pv 2)) (e_const pe_int fun _ _ => .int _)) (a_nil)))) (gl_name (pg_name sc_told_factor.nd rfl (by first | exact .inl rfl | exact .inr rfl))) (b_cons (s_asg (e_fn (ok_over hX G) hr (by decide) rfl (a_cons (e_fn (ok_power hX G) hr (by decide) rfl (a_cons (e_var (pv 1)) (a_cons (e_var (pv 5)) (a_nil))) (by decide)) (a_cons (e_tup (a_cons (e_fn (ok_told_factorial hX G) hr (by decide) rfl (a_cons (e_var (pv 5)) (a_nil)) (by decide)) (a_cons (e_const pe_int fun _ _ => .int _) (a_nil)))) (a_nil))) (by decide)) (gl_name (pg_name sc_told_factor.nd rfl (by first | exact .inl rfl | exact .inr rfl))))
    (b_cons (s_setD (hu_of hr) (e_var (pv 3)) (e_bin op_mulA g_mul (e_var (pv 0)) (e_var (pv 5))) (e_var (pv 4)))
    (b_nil))))
    (b_cons (s_ret (e_dcompD (own := [("word", 6), ("part", 7)]) rfl sc_told_factor.nd (id_items (pv 3)) (show BlkOk N_told_factor (defScope (topS 68)) _ [("word", 6), ("part", 7)] from ⟨rfl, by decide +kernel, by decide +kernel, by decide +kernel, by decide +kernel⟩) (gb_tup rfl (gbs_cons (gb_name fun _ _ _ _ _ => pg_name sc_told_factor.nd rfl (by first | exact .inl rfl | exact .inr rfl)) (gbs_cons (gb_name fun _ _ _ _ _ => pg_name sc_told_factor.nd rfl (by first | exact .inl rfl | exact .inr rfl)) (gbs_nil)))).ex (by decide) (fun _ _ _ _ _ => ts_one (t_cmp (op_neD hr.units) g_ne (e_ix ix_seq g_ix (e_var (pv 7)) (e_const pe_int fun _ _ => .int _) (fun _ _ => rfl)) (e_const pe_int fun _ _ => .int _) (nomark _))) (fun _ _ _ _ _ => e_var (pv 6)) (fun _ _ _ _ _ => e_var (pv 7))))
    (b_nil)))
/-! told_steps -/
def b_told_steps : FS := fSeq (fAsg (gN 2) (fDisp [(fC (.str []), fC c_ONE)])) (fSeq (fFor (fIt (fV 0) kSeq) (gT 2 (gsC (gN 3) (gsC (gN 4) (gsN)))) (fSeq (fAsg (gN 2) (fCall q_told_joined (aCons (fV 2) (aCons (fCall f_told_factor (aCons (fV 3) (aCons (fV 4) (aCons (fV 1) (aNil))))) (aCons (fV 1) (aNil)))))) (fNxt))) (fSeq (fRet (fV 2)) (fNxt)))
def f_told_steps : FF := mkFn 2 5 b_told_steps
abbrev N_told_steps : List Str := ["steps", "long", "found", "letter", "number"]
theorem sc_told_steps : FnScope N_told_steps ["steps", "long"] (defScope (topS 70)) := ⟨rfl, rfl, rfl, by decide +kernel, rfl, by decide +kernel, by decide +kernel⟩
theorem ok_told_steps (hX : XAok XA) (G : Tops K mg) : Fn P w K mg base XA "told_steps" ["steps", "long"] 6 f_told_steps := by
  obtain ⟨f, fd, F, hm⟩ := (G.fd "told_steps" 70 (by decide +kernel)).ex
  refine ⟨f, fd, hm, F.kp, F.bindsN (fun _ _ _ _ _ _ us hl => match us, hl with | [_, _], _ => rfl), fn_ok hX F sc_told_steps fun cdv A outer s H E hr => PSs.nox ?_⟩
  exact b_cons (s_asg (e_disp (p_cons (e_const pe_str fun _ _ => .str _) (e_gc (G.c_ONE) rfl) (p_nil)) rfl rfl (by simp) (by decide)) (gl_name (pg_name sc_told_steps.nd rfl (by first | exact .inl rfl | exact .inr rfl))))
    (b_cons (s_for PassesOwn.never rfl (i_seq (e_var (pv 0))) (gl_tup rfl (gls_cons (gl_name (pg_name sc_told_steps.nd rfl (by first | exact .inl rfl | exact .inr rfl))) (gls_cons (gl_name (pg_name sc_told_steps.nd rfl (by first | exact .inl rfl | exact .inr rfl))) (gls_nil)))) (b_cons (s_asg (e_fn (ok_q_told_joined hX G) hr (by decide) rfl (a_cons (e_var (pv 2)) (a_cons (e_fn (ok_told_factor hX G) hr (by decide) rfl (a_cons (e_var (pv 3)) (a_cons (e_var (pv 4)) (a_cons (e_var (pv 1)) (a_nil)))) (by decide)) (a_cons (e_var (pv 1)) (a_nil)))) (by decide)) (gl_name (pg_name sc_told_steps.nd rfl (by first | exact .inl rfl | exact .inr rfl))))
    (b_nil)))
    (b_cons (s_ret (e_var (pv 2)))
    (b_nil)))
/-! log_of -/
def b_log_of : FS := fSeq (fExpr (fCall f_look_at_steps (aCons (fV 0) (aNil)))) (fSeq (fExpr (fCall f_look_at_long (aCons (fV 1) (aNil)))) (fSeq (fExpr (fCall f_look_at_letters (aCons (fN gTup (aCons (fV 0) (aNil))) (aCons (fV 1) (aNil))))) (fSeq (fRet (fCall f_told_row (aCons (fCall f_told_logarithm (aCons (fCall f_told_steps (aCons (fV 0) (aCons (fV 1) (aNil)))) (aCons (fV 1) (aNil)))) (aNil)))) (fNxt))))
def f_log_of : FF := mkFn 2 2 b_log_of
abbrev N_log_of : List Str := ["steps", "long"]
theorem sc_log_of : FnScope N_log_of ["steps", "long"] (defScope (topS 71)) := ⟨rfl, rfl, rfl, by decide +kernel, rfl, by decide +kernel, by decide +kernel⟩
theorem ok_log_of (hX : XAok XA) (G : Tops K mg) : Fn P w K mg base XA "log_of" ["steps", "long"] 15 f_log_of := by
  obtain ⟨f, fd, F, hm⟩ := (G.fd "log_of" 71 (by decide +kernel)).ex
  refine ⟨f, fd, hm, F.kp, F.bindsN (fun _ _ _ _ _ _ us hl => match us, hl with | [_, _], _ => rfl), fn_ok hX F sc_log_of fun cdv A outer s H E hr => PSs.nox ?_⟩
  exact b_cons (s_expr (e_fn (ok_look_at_steps hX G) hr (by decide) rfl (a_cons (e_var (pv 0)) (a_nil)) (by decide)))
    (b_cons (s_expr (e_fn (ok_look_at_long hX G) hr (by decide) rfl (a_cons (e_var (pv 1)) (a_nil)) (by decide)))
    (b_cons (s_expr (e_fn (ok_look_at_letters hX G) hr (by decide) rfl (a_cons (e_tup (a_cons (e_var (pv 0)) (a_nil))) (a_cons (e_var (pv 1)) (a_nil))) (by decide)))
    (b_cons (s_ret (e_fn (ok_told_row hX G) hr (by decide) rfl (a_cons (e_fn (ok_told_logarithm hX G) hr (by decide) rfl (a_cons (e_fn (ok_told_steps hX G) hr (by decide) rfl (a_cons (e_var (pv 0)) (a_cons (e_var (pv 1)) (a_nil))) (by decide)) (a_cons (e_var (pv 1)) (a_nil))) (by decide)) (a_nil)) (by decide)))
    (b_nil))))
/-! joined_log -/
def b_joined_log : FS := fSeq (fExpr (fCall f_look_at_brackets (aCons (fV 0) (aNil)))) (fSeq (fExpr (fCall f_look_at_brackets (aCons (fV 1) (aNil)))) (fSeq (fExpr (fCall f_look_at_long (aCons (fV 2) (aNil)))) (fSeq (fExpr (fCall f_look_at_letters (aCons (fN gTup (aCons (fV 0) (aCons (fV 1) (aNil)))) (aCons (fV 2) (aNil))))) (fSeq (fAsg (gN 3) (fComp (fIt (fN gTup (aCons (fV 0) (aCons (fV 1) (aNil)))) kSeq) (gN 4) (fYes) (fCall f_told_exponential (aCons (fCall f_told_words (aCons (fV 4) (aCons (fV 2) (aNil)))) (aCons (fV 2) (aNil)))) [4])) (fSeq (fRet (fCall f_told_row (aCons (fCall f_told_logarithm (aCons (fCall q_told_joined (aCons (f2 gIx (fV 3) (fC (.int 0))) (aCons (f2 gIx (fV 3) (fC (.int 1))) (aCons (fV 2) (aNil))))) (aCons (fV 2) (aNil)))) (aNil)))) (fNxt))))))
def f_joined_log : FF := mkFn 3 5 b_joined_log
abbrev N_joined_log : List Str := ["one", "other", "long", "parts", "row"]
theorem sc_joined_log : FnScope N_joined_log ["one", "other", "long"] (defScope (topS 72)) := ⟨rfl, rfl, rfl, by decide +kernel, rfl, by decide +kernel, by decide +kernel⟩
theorem ok_joined_log (hX : XAok XA) (G : Tops K mg) : Fn P w K mg base XA "joined_log" ["one", "other", "long"] 15 f_joined_log := by
  obtain ⟨f, fd, F, hm⟩ := (G.fd "joined_log" 72 (by decide +kernel)).ex
  refine ⟨f, fd, hm, F.kp, F.bindsN (fun _ _ _ _ _ _ us hl => match us, hl with | [_, _, _], _ => rfl), fn_ok hX F sc_joined_log fun cdv A outer s H E hr => PSs.nox ?_⟩
  exact b_cons (s_expr (e_fn (ok_look_at_brackets hX G) hr (by decide) rfl (a_cons (e_var (pv 0)) (a_nil)) (by decide)))
    (b_cons (s_expr (e_fn (ok_look_at_brackets hX G) hr (by decide) rfl (a_cons (e_var (pv 1)) (a_nil)) (by decide)))
    (b_cons (s_expr (e_fn (ok_look_at_long hX G) hr (by decide) rfl (a_cons (e_var (pv 2)) (a_nil)) (by decide)))
    (b_cons (s_expr (e_fn (ok_look_at_letters hX G) hr (by decide) rfl (a_cons (e_tup (a_cons (e_var (pv 0)) (a_cons (e_var (pv 1)) (a_nil)))) (a_cons (e_var (pv 2)) (a_nil))) (by decide)))
    (b_cons (s_comp (own := [("row", 4)]) rfl sc_joined_log.nd rfl rfl (sw_true rfl rfl rfl rfl) (i_seq (e_tup (a_cons (e_var (pv 0)) (a_cons (e_var (pv 1)) (a_nil))))) (show BlkOk N_joined_log (defScope (topS 72)) _ [("row", 4)] from ⟨rfl, by decide +kernel, by decide +kernel, by decide +kernel, by decide +kernel⟩) (gb_name fun _ _ _ _ _ => pg_name sc_joined_log.nd rfl (by first | exact .inl rfl | exact .inr rfl)).ex (by decide) (fun _ _ _ _ _ => ts_nil) (fun _ _ _ _ _ => e_fn (ok_told_exponential hX G) hr (by decide) rfl (a_cons (e_fn (ok_told_words hX G) hr (by decide) rfl (a_cons (e_var (pv 4)) (a_cons (e_var (pv 2)) (a_nil))) (by decide)) (a_cons (e_var (pv 2)) (a_nil))) (by decide)))
    (b_cons (s_ret (e_fn (ok_told_row hX G) hr (by decide) rfl (a_cons (e_fn (ok_told_logarithm hX G) hr (by decide) rfl (a_cons (e_fn (ok_q_told_joined hX G) hr (by decide) rfl (a_cons (e_ix ix_seq g_ix (e_var (pv 3)) (e_const pe_int fun _ _ => .int _) (fun _ _ => rfl)) (a_cons (e_ix ix_seq g_ix (e_var (pv 3)) (e_const pe_int fun _ _ => .int _) (fun _ _ => rfl)) (a_cons (e_var (pv 2)) (a_nil)))) (by decide)) (a_cons (e_var (pv 2)) (a_nil))) (by decide)) (a_nil)) (by decide)))
    (b_nil))))))
/-! told_lengths -/
def b_told_lengths : FS := fSeq (fPar 2 3 (fV 0) (fCell (fN gLst (aNil)))) (fSeq (fFor (fItA (aCons (fC (.int 1)) (aCons (f2 gAdd (fV 1) (fC (.int 1))) (aNil))) kR2) (gN 4) (fSeq (fAsg (gN 5) (fCall f_told_row (aCons (fDCompD 2 itItems (gT 2 (gsC (gN 7) (gsC (gN 8) (gsN)))) (f2 gEq (fN gLen (aCons (fV 7) (aNil))) (fV 4)) (fV 7) (fV 8) [7, 8]) (aNil)))) (fSeq (fExpr (fMut mAppend (fV 3) (aCons (fV 5) (aNil)))) (fSeq (fAsg (gN 6) (fN gTupOf (aCons (fComp (fIt (fV 5) kSeq) (gT 2 (gsC (gN 7) (gsC (gN 8) (gsN)))) (fYes) (fN gTup (aCons (fV 7) (aCons (fCall f_opposite (aCons (fV 8) (aNil))) (aNil)))) [7, 8]) (aNil)))) (fSeq (fAsg (gN 2) (fCall q_told_joined (aCons (fCall f_told_exponential (aCons (fCall f_told_words (aCons (fV 6) (aCons (fV 1) (aNil)))) (aCons (fV 1) (aNil)))) (aCons (fV 2) (aCons (fV 1) (aNil)))))) (fNxt)))))) (fSeq (fRet (fN gTupOf (aCons (fV 3) (aNil)))) (fNxt)))
def f_told_lengths : FF := mkFn 2 9 b_told_lengths
abbrev N_told_lengths : List Str := ["words", "long", "whole", "found", "many", "part", "back", "word", "number"]
theorem sc_told_lengths : FnScope N_told_lengths ["words", "long"] (defScope (topS 73)) := ⟨rfl, rfl, rfl, by decide +kernel, rfl, by decide +kernel, by decide +kernel⟩
theorem ok_told_lengths (hX : XAok XA) (G : Tops K mg) : Fn P w K mg base XA "told_lengths" ["words", "long"] 15 f_told_lengths := by
  obtain ⟨f, fd, F, hm⟩ := (G.fd "told_lengths" 73 (by decide +kernel)).ex
  refine ⟨f, fd, hm, F.kp, F.bindsN (fun _ _ _ _ _ _ us hl => match us, hl with | [_, _], _ => rfl), fn_ok hX F sc_told_lengths fun cdv A outer s H E hr => PSs.nox ?_⟩
  exact b_cons (s_par (i := 2) (j := 3) (fun ta h => ps_par rfl sc_told_lengths.nd rfl rfl (by decide) rfl rfl h rfl) (e_var (pv 0)) (e_cell (e_lst (a_nil))))
    (b_cons (s_for PassesOwn.never rfl (i_rng2 rfl (G.fr _ (by decide +kernel)) (a_cons (e_const pe_int fun _ _ => .int _) (a_cons (e_bin op_addA g_add (e_var (pv 1)) (e_const pe_int fun _ _ => .int _)) (a_nil)))) (gl_name (pg_name sc_told_lengths.nd rfl (by first | exact .inl rfl | exact .inr rfl))) (b_cons (s_asg (e_fn (ok_told_row hX G) hr (by decide) rfl (a_cons (e_dcompD (own := [("word", 7), ("number", 8)]) rfl sc_told_lengths.nd (id_items (pv 2)) (show BlkOk N_told_lengths (defScope (topS 73)) _ [("word", 7), ("number", 8)] from ⟨rfl, by decide +kernel, by decide +kernel, by decide +kernel, by decide +kernel⟩) (gb_tup rfl (gbs_cons (gb_name fun _ _ _ _ _ => pg_name sc_told_lengths.nd rfl (by first | exact .inl rfl | exact .inr rfl)) (gbs_cons (gb_name fun _ _ _ _ _ => pg_name sc_told_lengths.nd rfl (by first | exact .inl rfl | exact .inr rfl)) (gbs_nil)))).ex (by decide) (fun _ _ _ _ _ => ts_one (t_cmp (op_eqD hr.units) g_eq (e_callB call_len g_len rfl (G.fr _ (by decide +kernel)) boot_len (a_cons (e_var (pv 7)) (a_nil))) (e_var (pv 4)) (nomark _))) (fun _ _ _ _ _ => e_var (pv 7)) (fun _ _ _ _ _ => e_var (pv 8))) (a_nil)) (by decide)) (gl_name (pg_name sc_told_lengths.nd rfl (by first | exact .inl rfl | exact .inr rfl))))
    (b_cons (s_expr (e_mut PySem.F.slot_list_append PySem.F.type_list_append mt_append m_append (e_var (pv 3)) (a_cons (e_var (pv 5)) (a_nil))))
    (b_cons (s_asg (e_callTy call_tuple_of g_tupOf rfl (G.fr _ (by decide +kernel)) boot_tuple (a_cons (e_comp (own := [("word", 7), ("number", 8)]) rfl sc_told_lengths.nd (i_seq (e_var (pv 5))) (show BlkOk N_told_lengths (defScope (topS 73)) _ [("word", 7), ("number", 8)] from ⟨rfl, by decide +kernel, by decide +kernel, by decide +kernel, by decide +kernel⟩) (gb_tup rfl (gbs_cons (gb_name fun _ _ _ _ _ => pg_name sc_told_lengths.nd rfl (by first | exact .inl rfl | exact .inr rfl)) (gbs_cons (gb_name fun _ _ _ _ _ => pg_name sc_told_lengths.nd rfl (by first | exact .inl rfl | exact .inr rfl)) (gbs_nil)))).ex (by decide) (fun _ _ _ _ _ => ts_nil) (fun _ _ _ _ _ => e_tup (a_cons (e_var (pv 7)) (a_cons (e_fn (ok_opposite hX G) hr (by decide) rfl (a_cons (e_var (pv 8)) (a_nil)) (by decide)) (a_nil))))) (a_nil))) (gl_name (pg_name sc_told_lengths.nd rfl (by first | exact .inl rfl | exact .inr rfl))))
    (b_cons (s_asg (e_fn (ok_q_told_joined hX G) hr (by decide) rfl (a_cons (e_fn (ok_told_exponential hX G) hr (by decide) rfl (a_cons (e_fn (ok_told_words hX G) hr (by decide) rfl (a_cons (e_var (pv 6)) (a_cons (e_var (pv 1)) (a_nil))) (by decide)) (a_cons (e_var (pv 1)) (a_nil))) (by decide)) (a_cons (e_var (pv 2)) (a_cons (e_var (pv 1)) (a_nil)))) (by decide)) (gl_name (pg_name sc_told_lengths.nd rfl (by first | exact .inl rfl | exact .inr rfl))))
    (b_nil))))))
    (b_cons (s_ret (e_callTy call_tuple_of g_tupOf rfl (G.fr _ (by decide +kernel)) boot_tuple (a_cons (e_var (pv 3)) (a_nil))))
    (b_nil)))
/-! corrections -/
def b_corrections : FS := fSeq (fExpr (fCall f_look_at_steps (aCons (fV 0) (aNil)))) (fSeq (fExpr (fCall f_look_at_long (aCons (fV 1) (aNil)))) (fSeq (fExpr (fCall f_look_at_letters (aCons (fN gTup (aCons (fV 0) (aNil))) (aCons (fV 1) (aNil))))) (fSeq (fAsg (gN 2) (fIf (f2 (gIn false) (fC (.str [99])) (fComp (fIt (fV 0) kSeq) (gT 2 (gsC (gN 4) (gsC (gN 5) (gsN)))) (fYes) (fV 4) [4, 5])) (fC c_LETTERS) (fSl (fC c_LETTERS) none (some (f1 gNeg (fC (.int 1))))))) (fSeq (fAsg (gN 3) (fCall f_told_exponential (aCons (fDComp (fIt (fV 2) kSeq) (gN 4) (fYes) (fV 4) (fC c_ONE) [4]) (aCons (fV 1) (aNil))))) (fSeq (fRet (fCall f_told_lengths (aCons (fCall q_told_joined (aCons (fCall f_told_undone (aCons (fCall f_told_steps (aCons (fV 0) (aCons (fV 1) (aNil)))) (aCons (fV 1) (aNil)))) (aCons (fV 3) (aCons (fV 1) (aNil))))) (aCons (fV 1) (aNil))))) (fNxt))))))
def f_corrections : FF := mkFn 2 6 b_corrections
abbrev N_corrections : List Str := ["steps", "long", "letters", "whole", "letter", "number"]
theorem sc_corrections : FnScope N_corrections ["steps", "long"] (defScope (topS 74)) := ⟨rfl, rfl, rfl, by decide +kernel, rfl, by decide +kernel, by decide +kernel⟩
theorem ok_corrections (hX : XAok XA) (G : Tops K mg) : Fn P w K mg base XA "corrections" ["steps", "long"] 16 f_corrections := by
  obtain ⟨f, fd, F, hm⟩ := (G.fd "corrections" 74 (by decide +kernel)).ex
  refine ⟨f, fd, hm, F.kp, F.bindsN (fun _ _ _ _ _ _ us hl => match us, hl with | [_, _], _ => rfl), fn_ok hX F sc_corrections fun cdv A outer s H E hr => PSs.nox ?_⟩
  exact b_cons (s_expr (e_fn (ok_look_at_steps hX G) hr (by decide) rfl (a_cons (e_var (pv 0)) (a_nil)) (by decide)))
    (b_cons (s_expr (e_fn (ok_look_at_long hX G) hr (by decide) rfl (a_cons (e_var (pv 1)) (a_nil)) (by decide)))
    (b_cons (s_expr (e_fn (ok_look_at_letters hX G) hr (by decide) rfl (a_cons (e_tup (a_cons (e_var (pv 0)) (a_nil))) (a_cons (e_var (pv 1)) (a_nil))) (by decide)))
    (b_cons (s_asg (e_if (t_cmp (op_in2 (hu65 hr)) g_in (e_const pe_str fun _ _ => .str _) (e_comp (own := [("letter", 4), ("number", 5)]) rfl sc_corrections.nd (i_seq (e_var (pv 0))) (show BlkOk N_corrections (defScope (topS 74)) _ [("letter", 4), ("number", 5)] from ⟨rfl, by decide +kernel, by decide +kernel, by decide +kernel, by decide +kernel⟩) (gb_tup rfl (gbs_cons (gb_name fun _ _ _ _ _ => pg_name sc_corrections.nd rfl (by first | exact .inl rfl | exact .inr rfl)) (gbs_cons (gb_name fun _ _ _ _ _ => pg_name sc_corrections.nd rfl (by first | exact .inl rfl | exact .inr rfl)) (gbs_nil)))).ex (by decide) (fun _ _ _ _ _ => ts_nil) (fun _ _ _ _ _ => e_var (pv 4))) (by rfl)) (e_gc (G.c_LETTERS) rfl) (e_sl (e_gc (G.c_LETTERS) rfl) o_none (o_some (e_neg (e_const pe_int fun _ _ => .int _))))) (gl_name (pg_name sc_corrections.nd rfl (by first | exact .inl rfl | exact .inr rfl))))
    (b_cons (s_asg (e_fn (ok_told_exponential hX G) hr (by decide) rfl (a_cons (e_dcomp (own := [("letter", 4)]) rfl sc_corrections.nd (i_seq (e_var (pv 2))) (show BlkOk N_corrections (defScope (topS 74)) _ [("letter", 4)] from ⟨rfl, by decide +kernel, by decide +kernel, by decide +kernel, by decide +kernel⟩) (gb_name fun _ _ _ _ _ => pg_name sc_corrections.nd rfl (by first | exact .inl rfl | exact .inr rfl)).ex (by decide) (fun _ _ _ _ _ => ts_nil) (fun _ _ _ _ _ => e_var (pv 4)) (fun _ _ _ _ _ => e_gc (G.c_ONE) rfl)) (a_cons (e_var (pv 1)) (a_nil))) (by decide)) (gl_name (pg_name sc_corrections.nd rfl (by first | exact .inl rfl | exact .inr rfl))))
    (b_cons (s_ret (e_fn (ok_told_lengths hX G) hr (by decide) rfl (a_cons (e_fn (ok_q_told_joined hX G) hr (by decide) rfl (a_cons (e_fn (ok_told_undone hX G) hr (by decide) rfl (a_cons (e_fn (ok_told_steps hX G) hr (by decide) rfl (a_cons (e_var (pv 0)) (a_cons (e_var (pv 1)) (a_nil))) (by decide)) (a_cons (e_var (pv 1)) (a_nil))) (by decide)) (a_cons (e_var (pv 3)) (a_cons (e_var (pv 1)) (a_nil)))) (by decide)) (a_cons (e_var (pv 1)) (a_nil))) (by decide)))
    (b_nil))))))
/-! told_plain -/
def b_told_plain : FS := fSeq (fAsg (gN 1) (fCell (fN gLst (aNil)))) (fSeq (fFor (fIt (fV 0) kSeq) (gT 2 (gsC (gN 2) (gsC (gN 3) (gsN)))) (fSeq (fIfS (fAnd (f2 gNe (fV 1) (fN gLst (aNil))) (f2 gEq (f2 gIx (f2 gIx (fV 1) (f1 gNeg (fC (.int 1)))) (fC (.int 0))) (fV 2))) (fSeq (fAsg (gN 3) (fCall q_plus (aCons (f2 gIx (fMut mPop (fV 1) aNil) (fC (.int 1))) (aCons (fV 3) (aNil))))) (fNxt)) (fNxt)) (fSeq (fIfS (f2 gNe (fV 3) (fC c_NOUGHT)) (fSeq (fExpr (fMut mAppend (fV 1) (aCons (fN gTup (aCons (fV 2) (aCons (fV 3) (aNil)))) (aNil)))) (fNxt)) (fNxt)) (fNxt)))) (fSeq (fRet (fN gTupOf (aCons (fV 1) (aNil)))) (fNxt)))
def f_told_plain : FF := mkFn 1 4 b_told_plain
abbrev N_told_plain : List Str := ["steps", "found", "letter", "number"]
theorem sc_told_plain : FnScope N_told_plain ["steps"] (defScope (topS 78)) := ⟨rfl, rfl, rfl, by decide +kernel, rfl, by decide +kernel, by decide +kernel⟩
theorem ok_told_plain (hX : XAok XA) (G : Tops K mg) : Fn P w K mg base XA "told_plain" ["steps"] 4 f_told_plain := by
  obtain ⟨f, fd, F, hm⟩ := (G.fd "told_plain" 78 (by decide +kernel)).ex
  refine ⟨f, fd, hm, F.kp, F.bindsN (fun _ _ _ _ _ _ us hl => match us, hl with | [_], _ => rfl), fn_ok hX F sc_told_plain fun cdv A outer s H E hr => PSs.nox ?_⟩
  exact b_cons (s_asg (e_cell (e_lst (a_nil))) (gl_name (pg_name sc_told_plain.nd rfl (by first | exact .inl rfl | exact .inr rfl))))
    (b_cons (s_for PassesOwn.never rfl (i_seq (e_var (pv 0))) (gl_tup rfl (gls_cons (gl_name (pg_name sc_told_plain.nd rfl (by first | exact .inl rfl | exact .inr rfl))) (gls_cons (gl_name (pg_name sc_told_plain.nd rfl (by first | exact .inl rfl | exact .inr rfl))) (gls_nil)))) (b_cons (s_ifs (PW.pt (w_and (t_cmp (op_neD hr.units) g_ne (e_var (pv 1)) (e_lst (a_nil)) (nomark _)) (pw_and1 (t_cmp (op_eqD hr.units) g_eq (e_ix ix_seq g_ix (e_ix ix_seq g_ix (e_var (pv 1)) (e_neg (e_const pe_int fun _ _ => .int _)) (fun _ _ => rfl)) (e_const pe_int fun _ _ => .int _) (fun _ _ => rfl)) (e_var (pv 2)) (nomark _))))) (b_cons (s_asg (e_fn (ok_q_plus hX G) hr (by decide) rfl (a_cons (e_ix ix_seq g_ix (e_mut0 PySem.F.slot_list_pop PySem.F.type_list_pop mt_pop m_pop (e_var (pv 1))) (e_const pe_int fun _ _ => .int _) (fun _ _ => rfl)) (a_cons (e_var (pv 3)) (a_nil))) (by decide)) (gl_name (pg_name sc_told_plain.nd rfl (by first | exact .inl rfl | exact .inr rfl))))
    (b_nil)) (b_nil))
    (b_cons (s_ifs (t_cmp (op_neD hr.units) g_ne (e_var (pv 3)) (e_gc (G.c_NOUGHT) rfl) (nomark _)) (b_cons (s_expr (e_mut PySem.F.slot_list_append PySem.F.type_list_append mt_append m_append (e_var (pv 1)) (a_cons (e_tup (a_cons (e_var (pv 2)) (a_cons (e_var (pv 3)) (a_nil)))) (a_nil))))
    (b_nil)) (b_nil))
    (b_nil))))
    (b_cons (s_ret (e_callTy call_tuple_of g_tupOf rfl (G.fr _ (by decide +kernel)) boot_tuple (a_cons (e_var (pv 1)) (a_nil))))
    (b_nil)))
/-! are_same -/
def b_are_same : FS := fSeq (fExpr (fCall f_look_at_steps (aCons (fV 0) (aNil)))) (fSeq (fExpr (fCall f_look_at_steps (aCons (fV 1) (aNil)))) (fSeq (fRet (f2 gEq (fCall f_told_plain (aCons (fV 0) (aNil))) (fCall f_told_plain (aCons (fV 1) (aNil))))) (fNxt)))
def f_are_same : FF := mkFn 2 2 b_are_same
abbrev N_are_same : List Str := ["one", "other"]
theorem sc_are_same : FnScope N_are_same ["one", "other"] (defScope (topS 79)) := ⟨rfl, rfl, rfl, by decide +kernel, rfl, by decide +kernel, by decide +kernel⟩
theorem ok_are_same (hX : XAok XA) (G : Tops K mg) : Fn P w K mg base XA "are_same" ["one", "other"] 6 f_are_same := by
  obtain ⟨f, fd, F, hm⟩ := (G.fd "are_same" 79 (by decide +kernel)).ex
  refine ⟨f, fd, hm, F.kp, F.bindsN (fun _ _ _ _ _ _ us hl => match us, hl with | [_, _], _ => rfl), fn_ok hX F sc_are_same fun cdv A outer s H E hr => PSs.nox ?_⟩
  exact b_cons (s_expr (e_fn (ok_look_at_steps hX G) hr (by decide) rfl (a_cons (e_var (pv 0)) (a_nil)) (by decide)))
    (b_cons (s_expr (e_fn (ok_look_at_steps hX G) hr (by decide) rfl (a_cons (e_var (pv 1)) (a_nil)) (by decide)))
    (b_cons (s_ret (e_cmp (op_eqD hr.units) g_eq (e_fn (ok_told_plain hX G) hr (by decide) rfl (a_cons (e_var (pv 0)) (a_nil)) (by decide)) (e_fn (ok_told_plain hX G) hr (by decide) rfl (a_cons (e_var (pv 1)) (a_nil)) (by decide)) (nomark _)))
    (b_nil)))
/-! is_own_turned -/
def b_is_own_turned : FS := fSeq (fExpr (fCall f_look_at_steps (aCons (fV 0) (aNil)))) (fSeq (fRet (f2 gEq (fCall f_told_plain (aCons (fV 0) (aNil))) (f1 gRevT (fCall f_told_plain (aCons (fV 0) (aNil)))))) (fNxt))
def f_is_own_turned : FF := mkFn 1 1 b_is_own_turned
abbrev N_is_own_turned : List Str := ["splitting"]
theorem sc_is_own_turned : FnScope N_is_own_turned ["splitting"] (defScope (topS 80)) := ⟨rfl, rfl, rfl, by decide +kernel, rfl, by decide +kernel, by decide +kernel⟩
theorem ok_is_own_turned (hX : XAok XA) (G : Tops K mg) : Fn P w K mg base XA "is_own_turned" ["splitting"] 6 f_is_own_turned := by
  obtain ⟨f, fd, F, hm⟩ := (G.fd "is_own_turned" 80 (by decide +kernel)).ex
  refine ⟨f, fd, hm, F.kp, F.bindsN (fun _ _ _ _ _ _ us hl => match us, hl with | [_], _ => rfl), fn_ok hX F sc_is_own_turned fun cdv A outer s H E hr => PSs.nox ?_⟩
  exact b_cons (s_expr (e_fn (ok_look_at_steps hX G) hr (by decide) rfl (a_cons (e_var (pv 0)) (a_nil)) (by decide)))
    (b_cons (s_ret (e_cmp (op_eqD hr.units) g_eq (e_fn (ok_told_plain hX G) hr (by decide) rfl (a_cons (e_var (pv 0)) (a_nil)) (by decide)) (e_revT (e_fn (ok_told_plain hX G) hr (by decide) rfl (a_cons (e_var (pv 0)) (a_nil)) (by decide))) (nomark _)))
    (b_nil))
/-! scaled -/
def b_scaled : FS := fSeq (fExpr (fCall f_look_at_steps (aCons (fV 0) (aNil)))) (fSeq (fIfS (f1 gNot (fCall f_is_fraction (aCons (fV 1) (aNil)))) (fSeq (fNever) (fNxt)) (fNxt)) (fSeq (fAsg (gN 2) (fN gTupOf (aCons (fComp (fIt (fV 0) kSeq) (gT 2 (gsC (gN 3) (gsC (gN 4) (gsN)))) (fYes) (fN gTup (aCons (fV 3) (aCons (fCall q_times (aCons (fV 4) (aCons (fV 1) (aNil)))) (aNil)))) [3, 4]) (aNil)))) (fSeq (fIfS (f1 gNot (fCall f_are_steps (aCons (fV 2) (aNil)))) (fSeq (fNever) (fNxt)) (fNxt)) (fSeq (fRet (fV 2)) (fNxt)))))
def f_scaled : FF := mkFn 2 5 b_scaled
abbrev N_scaled : List Str := ["splitting", "number", "found", "letter", "part"]
theorem sc_scaled : FnScope N_scaled ["splitting", "number"] (defScope (topS 81)) := ⟨rfl, rfl, rfl, by decide +kernel, rfl, by decide +kernel, by decide +kernel⟩
theorem ok_scaled (hX : XAok XA) (G : Tops K mg) : Fn P w K mg base XA "scaled" ["splitting", "number"] 6 f_scaled := by
  obtain ⟨f, fd, F, hm⟩ := (G.fd "scaled" 81 (by decide +kernel)).ex
  refine ⟨f, fd, hm, F.kp, F.bindsN (fun _ _ _ _ _ _ us hl => match us, hl with | [_, _], _ => rfl), fn_ok hX F sc_scaled fun cdv A outer s H E hr => PSs.nox ?_⟩
  exact b_cons (s_expr (e_fn (ok_look_at_steps hX G) hr (by decide) rfl (a_cons (e_var (pv 0)) (a_nil)) (by decide)))
    (b_cons (s_ifs (t_not (t_val (e_fn (ok_is_fraction hX G) hr (by decide) rfl (a_cons (e_var (pv 1)) (a_nil)) (by decide)))) (b_cons (s_never)
    (b_nil)) (b_nil))
    (b_cons (s_asg (e_callTy call_tuple_of g_tupOf rfl (G.fr _ (by decide +kernel)) boot_tuple (a_cons (e_comp (own := [("letter", 3), ("part", 4)]) rfl sc_scaled.nd (i_seq (e_var (pv 0))) (show BlkOk N_scaled (defScope (topS 81)) _ [("letter", 3), ("part", 4)] from ⟨rfl, by decide +kernel, by decide +kernel, by decide +kernel, by decide +kernel⟩) (gb_tup rfl (gbs_cons (gb_name fun _ _ _ _ _ => pg_name sc_scaled.nd rfl (by first | exact .inl rfl | exact .inr rfl)) (gbs_cons (gb_name fun _ _ _ _ _ => pg_name sc_scaled.nd rfl (by first | exact .inl rfl | exact .inr rfl)) (gbs_nil)))).ex (by decide) (fun _ _ _ _ _ => ts_nil) (fun _ _ _ _ _ => e_tup (a_cons (e_var (pv 3)) (a_cons (e_fn (ok_q_times hX G) hr (by decide) rfl (a_cons (e_var (pv 4)) (a_cons (e_var (pv 1)) (a_nil))) (by decide)) (a_nil))))) (a_nil))) (gl_name (pg_name sc_scaled.nd rfl (by first | exact .inl rfl | exact .inr rfl))))
    (b_cons (s_ifs (t_not (t_val (e_fn (ok_are_steps hX G) hr (by decide) rfl (a_cons (e_var (pv 2)) (a_nil)) (by decide)))) (b_cons (s_never)
    (b_nil)) (b_nil))
    (b_cons (s_ret (e_var (pv 2)))
    (b_nil)))))
/-! told_jump -/
def b_told_jump : FS := fSeq (fAsg (gN 2) (fN gTup (aNil))) (fSeq (fFor (fIt (fV 1) kSeq) (gN 3) (fSeq (fAsg (gN 2) (fCall f_told_plain (aCons (fN gTup (aStar (fV 2) (aStar (fComp (fIt (fV 0) kSeq) (gT 2 (gsC (gN 4) (gsC (gN 5) (gsN)))) (fYes) (fN gTup (aCons (fV 4) (aCons (fCall q_times (aCons (fV 5) (aCons (fV 3) (aNil)))) (aNil)))) [4, 5]) (aNil)))) (aNil)))) (fNxt))) (fSeq (fRet (fV 2)) (fNxt)))
def f_told_jump : FF := mkFn 2 6 b_told_jump
abbrev N_told_jump : List Str := ["splitting", "numbers", "found", "number", "letter", "part"]
theorem sc_told_jump : FnScope N_told_jump ["splitting", "numbers"] (defScope (topS 82)) := ⟨rfl, rfl, rfl, by decide +kernel, rfl, by decide +kernel, by decide +kernel⟩
theorem ok_told_jump (hX : XAok XA) (G : Tops K mg) : Fn P w K mg base XA "told_jump" ["splitting", "numbers"] 5 f_told_jump := by
  obtain ⟨f, fd, F, hm⟩ := (G.fd "told_jump" 82 (by decide +kernel)).ex
  refine ⟨f, fd, hm, F.kp, F.bindsN (fun _ _ _ _ _ _ us hl => match us, hl with | [_, _], _ => rfl), fn_ok hX F sc_told_jump fun cdv A outer s H E hr => PSs.nox ?_⟩
  exact b_cons (s_asg (e_tup (a_nil)) (gl_name (pg_name sc_told_jump.nd rfl (by first | exact .inl rfl | exact .inr rfl))))
    (b_cons (s_for PassesOwn.never rfl (i_seq (e_var (pv 1))) (gl_name (pg_name sc_told_jump.nd rfl (by first | exact .inl rfl | exact .inr rfl))) (b_cons (s_asg (e_fn (ok_told_plain hX G) hr (by decide) rfl (a_cons (e_tup (a_star (e_var (pv 2)) (a_star (e_comp (own := [("letter", 4), ("part", 5)]) rfl sc_told_jump.nd (i_seq (e_var (pv 0))) (show BlkOk N_told_jump (defScope (topS 82)) _ [("letter", 4), ("part", 5)] from ⟨rfl, by decide +kernel, by decide +kernel, by decide +kernel, by decide +kernel⟩) (gb_tup rfl (gbs_cons (gb_name fun _ _ _ _ _ => pg_name sc_told_jump.nd rfl (by first | exact .inl rfl | exact .inr rfl)) (gbs_cons (gb_name fun _ _ _ _ _ => pg_name sc_told_jump.nd rfl (by first | exact .inl rfl | exact .inr rfl)) (gbs_nil)))).ex (by decide) (fun _ _ _ _ _ => ts_nil) (fun _ _ _ _ _ => e_tup (a_cons (e_var (pv 4)) (a_cons (e_fn (ok_q_times hX G) hr (by decide) rfl (a_cons (e_var (pv 5)) (a_cons (e_var (pv 3)) (a_nil))) (by decide)) (a_nil))))) (a_nil)))) (a_nil)) (by decide)) (gl_name (pg_name sc_told_jump.nd rfl (by first | exact .inl rfl | exact .inr rfl))))
    (b_nil)))
    (b_cons (s_ret (e_var (pv 2)))
    (b_nil)))
/-! told_letters -/
def b_told_letters : FS := fSeq (fRet (fIf (f2 (gIn false) (fC (.str [99])) (fComp (fIt (fV 0) kSeq) (gT 2 (gsC (gN 1) (gsC (gN 2) (gsN)))) (fYes) (fV 1) [1, 2])) (fC c_LETTERS) (fSl (fC c_LETTERS) none (some (f1 gNeg (fC (.int 1))))))) (fNxt)
def f_told_letters : FF := mkFn 1 3 b_told_letters
abbrev N_told_letters : List Str := ["splitting", "letter", "number"]
theorem sc_told_letters : FnScope N_told_letters ["splitting"] (defScope (topS 83)) := ⟨rfl, rfl, rfl, by decide +kernel, rfl, by decide +kernel, by decide +kernel⟩
theorem ok_told_letters (hX : XAok XA) (G : Tops K mg) : Fn P w K mg base XA "told_letters" ["splitting"] 1 f_told_letters := by
  obtain ⟨f, fd, F, hm⟩ := (G.fd "told_letters" 83 (by decide +kernel)).ex
  refine ⟨f, fd, hm, F.kp, F.bindsN (fun _ _ _ _ _ _ us hl => match us, hl with | [_], _ => rfl), fn_ok hX F sc_told_letters fun cdv A outer s H E hr => PSs.nox ?_⟩
  exact b_cons (s_ret (e_if (t_cmp (op_in2 (hu65 hr)) g_in (e_const pe_str fun _ _ => .str _) (e_comp (own := [("letter", 1), ("number", 2)]) rfl sc_told_letters.nd (i_seq (e_var (pv 0))) (show BlkOk N_told_letters (defScope (topS 83)) _ [("letter", 1), ("number", 2)] from ⟨rfl, by decide +kernel, by decide +kernel, by decide +kernel, by decide +kernel⟩) (gb_tup rfl (gbs_cons (gb_name fun _ _ _ _ _ => pg_name sc_told_letters.nd rfl (by first | exact .inl rfl | exact .inr rfl)) (gbs_cons (gb_name fun _ _ _ _ _ => pg_name sc_told_letters.nd rfl (by first | exact .inl rfl | exact .inr rfl)) (gbs_nil)))).ex (by decide) (fun _ _ _ _ _ => ts_nil) (fun _ _ _ _ _ => e_var (pv 1))) (by rfl)) (e_gc (G.c_LETTERS) rfl) (e_sl (e_gc (G.c_LETTERS) rfl) o_none (o_some (e_neg (e_const pe_int fun _ _ => .int _))))))
    (b_nil)
/-! look_at_most -/
def b_look_at_most : FS := fSeq (fIfS (f1 gNot (fCall f_is_int (aCons (fV 1) (aCons (fC (.int 1)) (aCons (fC c_MOST_LONG) (aNil)))))) (fSeq (fNever) (fNxt)) (fNxt)) (fSeq (fIfS (fAnd (f2 (gInt kGt) (fV 1) (fC c_MOST_WIDE)) (f2 (gIn false) (fC (.str [99])) (fComp (fIt (fV 0) kSeq) (gT 2 (gsC (gN 2) (gsC (gN 3) (gsN)))) (fYes) (fV 2) [2, 3]))) (fSeq (fNever) (fNxt)) (fNxt)) (fNxt))
def f_look_at_most : FF := mkFn 2 4 b_look_at_most
abbrev N_look_at_most : List Str := ["splitting", "most", "letter", "number"]
theorem sc_look_at_most : FnScope N_look_at_most ["splitting", "most"] (defScope (topS 84)) := ⟨rfl, rfl, rfl, by decide +kernel, rfl, by decide +kernel, by decide +kernel⟩
theorem ok_look_at_most (hX : XAok XA) (G : Tops K mg) : Fn P w K mg base XA "look_at_most" ["splitting", "most"] 2 f_look_at_most := by
  obtain ⟨f, fd, F, hm⟩ := (G.fd "look_at_most" 84 (by decide +kernel)).ex
  refine ⟨f, fd, hm, F.kp, F.bindsN (fun _ _ _ _ _ _ us hl => match us, hl with | [_, _], _ => rfl), fn_ok hX F sc_look_at_most fun cdv A outer s H E hr => PSs.nox ?_⟩
  exact b_cons (s_ifs (t_not (t_val (e_fn (ok_is_int hX G) hr (by decide) rfl (a_cons (e_var (pv 1)) (a_cons (e_const pe_int fun _ _ => .int _) (a_cons (e_gc (G.c_MOST_LONG) rfl) (a_nil)))) (by decide)))) (b_cons (s_never)
    (b_nil)) (b_nil))
    (b_cons (s_ifs (PW.pt (w_and (t_cmp op_gt g_gt (e_var (pv 1)) (e_gc (G.c_MOST_WIDE) rfl) (nomark _)) (pw_and1 (t_cmp (op_in2 (hu65 hr)) g_in (e_const pe_str fun _ _ => .str _) (e_comp (own := [("letter", 2), ("number", 3)]) rfl sc_look_at_most.nd (i_seq (e_var (pv 0))) (show BlkOk N_look_at_most (defScope (topS 84)) _ [("letter", 2), ("number", 3)] from ⟨rfl, by decide +kernel, by decide +kernel, by decide +kernel, by decide +kernel⟩) (gb_tup rfl (gbs_cons (gb_name fun _ _ _ _ _ => pg_name sc_look_at_most.nd rfl (by first | exact .inl rfl | exact .inr rfl)) (gbs_cons (gb_name fun _ _ _ _ _ => pg_name sc_look_at_most.nd rfl (by first | exact .inl rfl | exact .inr rfl)) (gbs_nil)))).ex (by decide) (fun _ _ _ _ _ => ts_nil) (fun _ _ _ _ _ => e_var (pv 2))) (by rfl))))) (b_cons (s_never)
    (b_nil)) (b_nil))
    (b_nil))
/-! first_wrong -/
def b_first_wrong : FS := fSeq (fAsg (gN 2) (fCall f_told_steps (aCons (fV 0) (aCons (fV 1) (aNil))))) (fSeq (fFor (fIt (fCall f_told_keys (aCons (fCall f_told_lyndon (aCons (fCall f_told_letters (aCons (fV 0) (aNil))) (aCons (fV 1) (aNil)))) (aNil))) kSeq) (gN 3) (fSeq (fAsg (gN 4) (fRecv isDic (fV 2) fun x => fBind (fV 3) fun y => fBind (fC c_NOUGHT) fun z _ st => ofO st (gDGet2 st x y z))) (fSeq (fIfS (f2 gNe (fV 4) (fN gTup (aCons (fC (.int 1)) (aCons (fCall f_told_factorial (aCons (fN gLen (aCons (fV 3) (aNil))) (aNil))) (aNil))))) (fSeq (fRet (fN gTup (aCons (fV 3) (aCons (fV 4) (aNil))))) (fNxt)) (fNxt)) (fNxt)))) (fSeq (fRet (fC .non)) (fNxt)))
def f_first_wrong : FF := mkFn 2 5 b_first_wrong
abbrev N_first_wrong : List Str := ["splitting", "most", "words", "word", "number"]
theorem sc_first_wrong : FnScope N_first_wrong ["splitting", "most"] (defScope (topS 85)) := ⟨rfl, rfl, rfl, by decide +kernel, rfl, by decide +kernel, by decide +kernel⟩
theorem ok_first_wrong (hX : XAok XA) (G : Tops K mg) : Fn P w K mg base XA "first_wrong" ["splitting", "most"] 7 f_first_wrong := by
  obtain ⟨f, fd, F, hm⟩ := (G.fd "first_wrong" 85 (by decide +kernel)).ex
  refine ⟨f, fd, hm, F.kp, F.bindsN (fun _ _ _ _ _ _ us hl => match us, hl with | [_, _], _ => rfl), fn_ok hX F sc_first_wrong fun cdv A outer s H E hr => PSs.nox ?_⟩
  exact b_cons (s_asg (e_fn (ok_told_steps hX G) hr (by decide) rfl (a_cons (e_var (pv 0)) (a_cons (e_var (pv 1)) (a_nil))) (by decide)) (gl_name (pg_name sc_first_wrong.nd rfl (by first | exact .inl rfl | exact .inr rfl))))
    (b_cons (s_for PassesOwn.never rfl (i_seq (e_fn (ok_told_keys hX G) hr (by decide) rfl (a_cons (e_fn (ok_told_lyndon hX G) hr (by decide) rfl (a_cons (e_fn (ok_told_letters hX G) hr (by decide) rfl (a_cons (e_var (pv 0)) (a_nil)) (by decide)) (a_cons (e_var (pv 1)) (a_nil))) (by decide)) (a_nil)) (by decide))) (gl_name (pg_name sc_first_wrong.nd rfl (by first | exact .inl rfl | exact .inr rfl))) (b_cons (s_asg (e_dget2 (hu_of hr) (e_var (pv 2)) (e_var (pv 3)) (e_gc (G.c_NOUGHT) rfl) ⟨rfl, rfl, rfl, rfl⟩) (gl_name (pg_name sc_first_wrong.nd rfl (by first | exact .inl rfl | exact .inr rfl))))
    (b_cons (s_ifs (t_cmp (op_neD hr.units) g_ne (e_var (pv 4)) (e_tup (a_cons (e_const pe_int fun _ _ => .int _) (a_cons (e_fn (ok_told_factorial hX G) hr (by decide) rfl (a_cons (e_callB call_len g_len rfl (G.fr _ (by decide +kernel)) boot_len (a_cons (e_var (pv 3)) (a_nil))) (a_nil)) (by decide)) (a_nil)))) (nomark _)) (b_cons (s_ret (e_tup (a_cons (e_var (pv 3)) (a_cons (e_var (pv 4)) (a_nil)))))
    (b_nil)) (b_nil))
    (b_nil))))
    (b_cons (s_ret (e_const pe_non fun _ _ => .non))
    (b_nil)))
/-! told_order -/
def b_told_order : FS := fSeq (fAsg (gN 2) (fCall f_first_wrong (aCons (fV 0) (aCons (fV 1) (aNil))))) (fSeq (fRet (fIf (f2 (gIsN false) (fV 2) (fC .non)) (fN gTup (aCons (fC c_LEAST) (aCons (fV 1) (aNil)))) (fN gTup (aCons (fC c_ORDER) (aCons (f2 (gInt kSub) (fN gLen (aCons (f2 gIx (fV 2) (fC (.int 0))) (aNil))) (fC (.int 1))) (aStar (fV 2) (aNil))))))) (fNxt))
def f_told_order : FF := mkFn 2 3 b_told_order
abbrev N_told_order : List Str := ["splitting", "most", "found"]
theorem sc_told_order : FnScope N_told_order ["splitting", "most"] (defScope (topS 86)) := ⟨rfl, rfl, rfl, by decide +kernel, rfl, by decide +kernel, by decide +kernel⟩
theorem ok_told_order (hX : XAok XA) (G : Tops K mg) : Fn P w K mg base XA "told_order" ["splitting", "most"] 8 f_told_order := by
  obtain ⟨f, fd, F, hm⟩ := (G.fd "told_order" 86 (by decide +kernel)).ex
  refine ⟨f, fd, hm, F.kp, F.bindsN (fun _ _ _ _ _ _ us hl => match us, hl with | [_, _], _ => rfl), fn_ok hX F sc_told_order fun cdv A outer s H E hr => PSs.nox ?_⟩
  exact b_cons (s_asg (e_fn (ok_first_wrong hX G) hr (by decide) rfl (a_cons (e_var (pv 0)) (a_cons (e_var (pv 1)) (a_nil))) (by decide)) (gl_name (pg_name sc_told_order.nd rfl (by first | exact .inl rfl | exact .inr rfl))))
    (b_cons (s_ret (e_if (t_cmp op_isN g_isN (e_var (pv 2)) (e_const pe_non fun _ _ => .non) (nomark _)) (e_tup (a_cons (e_gc (G.c_LEAST) rfl) (a_cons (e_var (pv 1)) (a_nil)))) (e_tup (a_cons (e_gc (G.c_ORDER) rfl) (a_cons (e_bin op_sub g_sub (e_callB call_len g_len rfl (G.fr _ (by decide +kernel)) boot_len (a_cons (e_ix ix_seq g_ix (e_var (pv 2)) (e_const pe_int fun _ _ => .int _) (fun _ _ => rfl)) (a_nil))) (e_const pe_int fun _ _ => .int _)) (a_star (e_var (pv 2)) (a_nil)))))))
    (b_nil))
/-! order_of -/
def b_order_of : FS := fSeq (fExpr (fCall f_look_at_steps (aCons (fV 0) (aNil)))) (fSeq (fExpr (fCall f_look_at_most (aCons (fV 0) (aCons (fV 1) (aNil))))) (fSeq (fRet (fCall f_told_order (aCons (fV 0) (aCons (fV 1) (aNil))))) (fNxt)))
def f_order_of : FF := mkFn 2 2 b_order_of
abbrev N_order_of : List Str := ["splitting", "most"]
theorem sc_order_of : FnScope N_order_of ["splitting", "most"] (defScope (topS 87)) := ⟨rfl, rfl, rfl, by decide +kernel, rfl, by decide +kernel, by decide +kernel⟩
theorem ok_order_of (hX : XAok XA) (G : Tops K mg) : Fn P w K mg base XA "order_of" ["splitting", "most"] 9 f_order_of := by
  obtain ⟨f, fd, F, hm⟩ := (G.fd "order_of" 87 (by decide +kernel)).ex
  refine ⟨f, fd, hm, F.kp, F.bindsN (fun _ _ _ _ _ _ us hl => match us, hl with | [_, _], _ => rfl), fn_ok hX F sc_order_of fun cdv A outer s H E hr => PSs.nox ?_⟩
  exact b_cons (s_expr (e_fn (ok_look_at_steps hX G) hr (by decide) rfl (a_cons (e_var (pv 0)) (a_nil)) (by decide)))
    (b_cons (s_expr (e_fn (ok_look_at_most hX G) hr (by decide) rfl (a_cons (e_var (pv 0)) (a_cons (e_var (pv 1)) (a_nil))) (by decide)))
    (b_cons (s_ret (e_fn (ok_told_order hX G) hr (by decide) rfl (a_cons (e_var (pv 0)) (a_cons (e_var (pv 1)) (a_nil))) (by decide)))
    (b_nil)))
/-! wrong_words -/
def b_wrong_words : FS := fSeq (fExpr (fCall f_look_at_steps (aCons (fV 0) (aNil)))) (fSeq (fExpr (fCall f_look_at_most (aCons (fV 0) (aCons (fV 1) (aNil))))) (fSeq (fPar 2 3 (fCall f_told_steps (aCons (fV 0) (aCons (fV 1) (aNil)))) (fN gTup (aCons (fC (.int 1)) (aCons (fCall f_told_factorial (aCons (fV 1) (aNil))) (aNil))))) (fSeq (fAsg (gN 4) (fComp (fIt (fCall f_told_lyndon (aCons (fCall f_told_letters (aCons (fV 0) (aNil))) (aCons (fV 1) (aNil)))) kSeq) (gN 5) (f2 gEq (fN gLen (aCons (fV 5) (aNil))) (fV 1)) (fV 5) [5])) (fSeq (fRet (fN gTupOf (aCons (fComp (fIt (fV 4) kSeq) (gN 5) (f2 gNe (fRecv isDic (fV 2) fun x => fBind (fV 5) fun y => fBind (fC c_NOUGHT) fun z _ st => ofO st (gDGet2 st x y z)) (fV 3)) (fN gTup (aCons (fV 5) (aCons (fRecv isDic (fV 2) fun x => fBind (fV 5) fun y => fBind (fC c_NOUGHT) fun z _ st => ofO st (gDGet2 st x y z)) (aNil)))) [5]) (aNil)))) (fNxt)))))
def f_wrong_words : FF := mkFn 2 6 b_wrong_words
abbrev N_wrong_words : List Str := ["splitting", "long", "words", "due", "some", "word"]
theorem sc_wrong_words : FnScope N_wrong_words ["splitting", "long"] (defScope (topS 88)) := ⟨rfl, rfl, rfl, by decide +kernel, rfl, by decide +kernel, by decide +kernel⟩
theorem ok_wrong_words (hX : XAok XA) (G : Tops K mg) : Fn P w K mg base XA "wrong_words" ["splitting", "long"] 7 f_wrong_words := by
  obtain ⟨f, fd, F, hm⟩ := (G.fd "wrong_words" 88 (by decide +kernel)).ex
  refine ⟨f, fd, hm, F.kp, F.bindsN (fun _ _ _ _ _ _ us hl => match us, hl with | [_, _], _ => rfl), fn_ok hX F sc_wrong_words fun cdv A outer s H E hr => PSs.nox ?_⟩
  exact b_cons (s_expr (e_fn (ok_look_at_steps hX G) hr (by decide) rfl (a_cons (e_var (pv 0)) (a_nil)) (by decide)))
    (b_cons (s_expr (e_fn (ok_look_at_most hX G) hr (by decide) rfl (a_cons (e_var (pv 0)) (a_cons (e_var (pv 1)) (a_nil))) (by decide)))
    (b_cons (s_par2 (i := 2) (j := 3) rfl (pg_name sc_wrong_words.nd rfl (by first | exact .inl rfl | exact .inr rfl)) (pg_name sc_wrong_words.nd rfl (by first | exact .inl rfl | exact .inr rfl)) (by decide) (e_fn (ok_told_steps hX G) hr (by decide) rfl (a_cons (e_var (pv 0)) (a_cons (e_var (pv 1)) (a_nil))) (by decide)) (e_tup (a_cons (e_const pe_int fun _ _ => .int _) (a_cons (e_fn (ok_told_factorial hX G) hr (by decide) rfl (a_cons (e_var (pv 1)) (a_nil)) (by decide)) (a_nil)))))
    (b_cons (s_comp (own := [("word", 5)]) rfl sc_wrong_words.nd rfl rfl (sw_true rfl rfl rfl rfl) (i_seq (e_fn (ok_told_lyndon hX G) hr (by decide) rfl (a_cons (e_fn (ok_told_letters hX G) hr (by decide) rfl (a_cons (e_var (pv 0)) (a_nil)) (by decide)) (a_cons (e_var (pv 1)) (a_nil))) (by decide))) (show BlkOk N_wrong_words (defScope (topS 88)) _ [("word", 5)] from ⟨rfl, by decide +kernel, by decide +kernel, by decide +kernel, by decide +kernel⟩) (gb_name fun _ _ _ _ _ => pg_name sc_wrong_words.nd rfl (by first | exact .inl rfl | exact .inr rfl)).ex (by decide) (fun _ _ _ _ _ => ts_one (t_cmp (op_eqD hr.units) g_eq (e_callB call_len g_len rfl (G.fr _ (by decide +kernel)) boot_len (a_cons (e_var (pv 5)) (a_nil))) (e_var (pv 1)) (nomark _))) (fun _ _ _ _ _ => e_var (pv 5)))
    (b_cons (s_ret (e_callTy call_tuple_of g_tupOf rfl (G.fr _ (by decide +kernel)) boot_tuple (a_cons (e_comp (own := [("word", 5)]) rfl sc_wrong_words.nd (i_seq (e_var (pv 4))) (show BlkOk N_wrong_words (defScope (topS 88)) _ [("word", 5)] from ⟨rfl, by decide +kernel, by decide +kernel, by decide +kernel, by decide +kernel⟩) (gb_name fun _ _ _ _ _ => pg_name sc_wrong_words.nd rfl (by first | exact .inl rfl | exact .inr rfl)).ex (by decide) (fun _ _ _ _ _ => ts_one (t_cmp (op_neD hr.units) g_ne (e_dget2 (hu_of hr) (e_var (pv 2)) (e_var (pv 5)) (e_gc (G.c_NOUGHT) rfl) ⟨rfl, rfl, rfl, rfl⟩) (e_var (pv 3)) (nomark _))) (fun _ _ _ _ _ => e_tup (a_cons (e_var (pv 5)) (a_cons (e_dget2 (hu_of hr) (e_var (pv 2)) (e_var (pv 5)) (e_gc (G.c_NOUGHT) rfl) ⟨rfl, rfl, rfl, rfl⟩) (a_nil))))) (a_nil))))
    (b_nil)))))
/-! misses -/
def b_misses : FS := fSeq (fExpr (fCall f_look_at_steps (aCons (fV 0) (aNil)))) (fSeq (fExpr (fCall f_look_at_most (aCons (fV 0) (aCons (fV 1) (aNil))))) (fSeq (fAsg (gN 2) (fCall f_told_logarithm (aCons (fCall f_told_steps (aCons (fV 0) (aCons (fV 1) (aNil)))) (aCons (fV 1) (aNil))))) (fSeq (fFor (fIt (fCall f_told_letters (aCons (fV 0) (aNil))) kSeq) (gN 3) (fSeq (fAsg (gN 2) (fCall q_told_added (aCons (fV 2) (aCons (fDisp [(fV 3, fC c_ONE)]) (aCons (fCall f_opposite (aCons (fC c_ONE) (aNil))) (aNil)))))) (fNxt))) (fSeq (fRet (fCall f_told_row (aCons (fV 2) (aNil)))) (fNxt)))))
def f_misses : FF := mkFn 2 4 b_misses
abbrev N_misses : List Str := ["splitting", "most", "found", "letter"]
theorem sc_misses : FnScope N_misses ["splitting", "most"] (defScope (topS 89)) := ⟨rfl, rfl, rfl, by decide +kernel, rfl, by decide +kernel, by decide +kernel⟩
theorem ok_misses (hX : XAok XA) (G : Tops K mg) : Fn P w K mg base XA "misses" ["splitting", "most"] 15 f_misses := by
  obtain ⟨f, fd, F, hm⟩ := (G.fd "misses" 89 (by decide +kernel)).ex
  refine ⟨f, fd, hm, F.kp, F.bindsN (fun _ _ _ _ _ _ us hl => match us, hl with | [_, _], _ => rfl), fn_ok hX F sc_misses fun cdv A outer s H E hr => PSs.nox ?_⟩
  exact b_cons (s_expr (e_fn (ok_look_at_steps hX G) hr (by decide) rfl (a_cons (e_var (pv 0)) (a_nil)) (by decide)))
    (b_cons (s_expr (e_fn (ok_look_at_most hX G) hr (by decide) rfl (a_cons (e_var (pv 0)) (a_cons (e_var (pv 1)) (a_nil))) (by decide)))
    (b_cons (s_asg (e_fn (ok_told_logarithm hX G) hr (by decide) rfl (a_cons (e_fn (ok_told_steps hX G) hr (by decide) rfl (a_cons (e_var (pv 0)) (a_cons (e_var (pv 1)) (a_nil))) (by decide)) (a_cons (e_var (pv 1)) (a_nil))) (by decide)) (gl_name (pg_name sc_misses.nd rfl (by first | exact .inl rfl | exact .inr rfl))))
    (b_cons (s_for PassesOwn.never rfl (i_seq (e_fn (ok_told_letters hX G) hr (by decide) rfl (a_cons (e_var (pv 0)) (a_nil)) (by decide))) (gl_name (pg_name sc_misses.nd rfl (by first | exact .inl rfl | exact .inr rfl))) (b_cons (s_asg (e_fn (ok_q_told_added hX G) hr (by decide) rfl (a_cons (e_var (pv 2)) (a_cons (e_disp (p_cons (e_var (pv 3)) (e_gc (G.c_ONE) rfl) (p_nil)) rfl rfl (by simp) (by decide)) (a_cons (e_fn (ok_opposite hX G) hr (by decide) rfl (a_cons (e_gc (G.c_ONE) rfl) (a_nil)) (by decide)) (a_nil)))) (by decide)) (gl_name (pg_name sc_misses.nd rfl (by first | exact .inl rfl | exact .inr rfl))))
    (b_nil)))
    (b_cons (s_ret (e_fn (ok_told_row hX G) hr (by decide) rfl (a_cons (e_var (pv 2)) (a_nil)) (by decide)))
    (b_nil)))))
/-! told_ring -/
def b_told_ring : FS := fSeq (fAsg (gN 1) (fCall f_told_plain (aCons (fV 0) (aNil)))) (fSeq (fRet (fIf (fAnd (f2 gNe (fSl (fV 1) none (some (fC (.int 1)))) (fN gTup (aNil))) (f2 gEq (f2 gIx (f2 gIx (fV 1) (fC (.int 0))) (fC (.int 0))) (fC (.str [98])))) (fN gTup (aCons (fN gTup (aCons (fC (.str [97])) (aCons (fC c_NOUGHT) (aNil)))) (aStar (fV 1) (aNil)))) (fV 1))) (fNxt))
def f_told_ring : FF := mkFn 1 2 b_told_ring
abbrev N_told_ring : List Str := ["splitting", "some"]
theorem sc_told_ring : FnScope N_told_ring ["splitting"] (defScope (topS 94)) := ⟨rfl, rfl, rfl, by decide +kernel, rfl, by decide +kernel, by decide +kernel⟩
theorem ok_told_ring (hX : XAok XA) (G : Tops K mg) : Fn P w K mg base XA "told_ring" ["splitting"] 5 f_told_ring := by
  obtain ⟨f, fd, F, hm⟩ := (G.fd "told_ring" 94 (by decide +kernel)).ex
  refine ⟨f, fd, hm, F.kp, F.bindsN (fun _ _ _ _ _ _ us hl => match us, hl with | [_], _ => rfl), fn_ok hX F sc_told_ring fun cdv A outer s H E hr => PSs.nox ?_⟩
  exact b_cons (s_asg (e_fn (ok_told_plain hX G) hr (by decide) rfl (a_cons (e_var (pv 0)) (a_nil)) (by decide)) (gl_name (pg_name sc_told_ring.nd rfl (by first | exact .inl rfl | exact .inr rfl))))
    (b_cons (s_ret (e_if (PW.pt (w_and (t_cmp (op_neD hr.units) g_ne (e_sl (e_var (pv 1)) o_none (o_some (e_const pe_int fun _ _ => .int _))) (e_tup (a_nil)) (nomark _)) (pw_and1 (t_cmp (op_eqD hr.units) g_eq (e_ix ix_seq g_ix (e_ix ix_seq g_ix (e_var (pv 1)) (e_const pe_int fun _ _ => .int _) (fun _ _ => rfl)) (e_const pe_int fun _ _ => .int _) (fun _ _ => rfl)) (e_const pe_str fun _ _ => .str _) (nomark _))))) (e_tup (a_cons (e_tup (a_cons (e_const pe_str fun _ _ => .str _) (a_cons (e_gc (G.c_NOUGHT) rfl) (a_nil)))) (a_star (e_var (pv 1)) (a_nil)))) (e_var (pv 1))))
    (b_nil))
/-! look_at_two -/
def b_look_at_two : FS := fSeq (fExpr (fCall f_look_at_steps (aCons (fV 0) (aNil)))) (fSeq (fIfS (f2 (gIn false) (fC (.str [99])) (fComp (fIt (fV 0) kSeq) (gT 2 (gsC (gN 2) (gsC (gN 3) (gsN)))) (fYes) (fV 2) [2, 3])) (fSeq (fNever) (fNxt)) (fNxt)) (fSeq (fAsg (gN 1) (fComp (fIt (fN gTup (aCons (fC (.str [97])) (aCons (fC (.str [98])) (aNil)))) kSeq) (gN 2) (fYes) (fCall f_added (aCons (fComp (fIt (fV 0) kSeq) (gT 2 (gsC (gN 4) (gsC (gN 3) (gsN)))) (f2 gEq (fV 4) (fV 2)) (fV 3) [4, 3]) (aNil))) [2])) (fSeq (fIfS (f2 gNe (f2 gIx (fV 1) (fC (.int 0))) (f2 gIx (fV 1) (fC (.int 1)))) (fSeq (fNever) (fNxt)) (fNxt)) (fNxt))))
def f_look_at_two : FF := mkFn 1 5 b_look_at_two
abbrev N_look_at_two : List Str := ["splitting", "sums", "letter", "number", "one"]
theorem sc_look_at_two : FnScope N_look_at_two ["splitting"] (defScope (topS 95)) := ⟨rfl, rfl, rfl, by decide +kernel, rfl, by decide +kernel, by decide +kernel⟩
theorem ok_look_at_two (hX : XAok XA) (G : Tops K mg) : Fn P w K mg base XA "look_at_two" ["splitting"] 6 f_look_at_two := by
  obtain ⟨f, fd, F, hm⟩ := (G.fd "look_at_two" 95 (by decide +kernel)).ex
  refine ⟨f, fd, hm, F.kp, F.bindsN (fun _ _ _ _ _ _ us hl => match us, hl with | [_], _ => rfl), fn_ok hX F sc_look_at_two fun cdv A outer s H E hr => PSs.nox ?_⟩
  exact b_cons (s_expr (e_fn (ok_look_at_steps hX G) hr (by decide) rfl (a_cons (e_var (pv 0)) (a_nil)) (by decide)))
    (b_cons (s_ifs (t_cmp (op_in2 (hu65 hr)) g_in (e_const pe_str fun _ _ => .str _) (e_comp (own := [("letter", 2), ("number", 3)]) rfl sc_look_at_two.nd (i_seq (e_var (pv 0))) (show BlkOk N_look_at_two (defScope (topS 95)) _ [("letter", 2), ("number", 3)] from ⟨rfl, by decide +kernel, by decide +kernel, by decide +kernel, by decide +kernel⟩) (gb_tup rfl (gbs_cons (gb_name fun _ _ _ _ _ => pg_name sc_look_at_two.nd rfl (by first | exact .inl rfl | exact .inr rfl)) (gbs_cons (gb_name fun _ _ _ _ _ => pg_name sc_look_at_two.nd rfl (by first | exact .inl rfl | exact .inr rfl)) (gbs_nil)))).ex (by decide) (fun _ _ _ _ _ => ts_nil) (fun _ _ _ _ _ => e_var (pv 2))) (by rfl)) (b_cons (s_never)
    (b_nil)) (b_nil))
    (b_cons (s_comp (own := [("letter", 2)]) rfl sc_look_at_two.nd rfl rfl (sw_true rfl rfl rfl rfl) (i_seq (e_tup (a_cons (e_const pe_str fun _ _ => .str _) (a_cons (e_const pe_str fun _ _ => .str _) (a_nil))))) (show BlkOk N_look_at_two (defScope (topS 95)) _ [("letter", 2)] from ⟨rfl, by decide +kernel, by decide +kernel, by decide +kernel, by decide +kernel⟩) (gb_name fun _ _ _ _ _ => pg_name sc_look_at_two.nd rfl (by first | exact .inl rfl | exact .inr rfl)).ex (by decide) (fun _ _ _ _ _ => ts_nil) (fun _ _ _ _ _ => e_fn (ok_added hX G) hr (by decide) rfl (a_cons (e_comp (own := [("one", 4), ("number", 3)]) rfl sc_look_at_two.nd (i_seq (e_var (pv 0))) (show BlkOk N_look_at_two (relS _ (defScope (topS 95))) _ [("one", 4), ("number", 3)] from ⟨rfl, by decide +kernel, by decide +kernel, by decide +kernel, by decide +kernel⟩) (gb_tup rfl (gbs_cons (gb_name fun _ _ _ _ _ => pg_name sc_look_at_two.nd rfl (by first | exact .inl rfl | exact .inr rfl)) (gbs_cons (gb_name fun _ _ _ _ _ => pg_name sc_look_at_two.nd rfl (by first | exact .inl rfl | exact .inr rfl)) (gbs_nil)))).ex (by decide) (fun _ _ _ _ _ => ts_one (t_cmp (op_eqD hr.units) g_eq (e_var (pv 4)) (e_var (pv 2)) (nomark _))) (fun _ _ _ _ _ => e_var (pv 3))) (a_nil)) (by decide)))
    (b_cons (s_ifs (t_cmp (op_neD hr.units) g_ne (e_ix ix_seq g_ix (e_var (pv 1)) (e_const pe_int fun _ _ => .int _) (fun _ _ => rfl)) (e_ix ix_seq g_ix (e_var (pv 1)) (e_const pe_int fun _ _ => .int _) (fun _ _ => rfl)) (nomark _)) (b_cons (s_never)
    (b_nil)) (b_nil))
    (b_nil))))
/-! told_parts -/
def b_told_parts : FS := fSeq (fAsg (gN 1) (fCell (fN gLst (aNil)))) (fSeq (fFor (fIt (fCall f_told_ring (aCons (fV 0) (aNil))) kSeq) (gT 2 (gsC (gN 2) (gsC (gN 3) (gsN)))) (fSeq (fExpr (fMut mAppend (fV 1) (aCons (fIf (f2 gNe (fV 1) (fN gLst (aNil))) (fCall f_minus (aCons (fV 3) (aCons (f2 gIx (fV 1) (f1 gNeg (fC (.int 1)))) (aNil)))) (fV 3)) (aNil)))) (fNxt))) (fSeq (fRet (fN gTupOf (aCons (fSl (fV 1) none (some (f1 gNeg (fC (.int 1))))) (aNil)))) (fNxt)))
def f_told_parts : FF := mkFn 1 4 b_told_parts
abbrev N_told_parts : List Str := ["splitting", "found", "letter", "number"]
theorem sc_told_parts : FnScope N_told_parts ["splitting"] (defScope (topS 96)) := ⟨rfl, rfl, rfl, by decide +kernel, rfl, by decide +kernel, by decide +kernel⟩
theorem ok_told_parts (hX : XAok XA) (G : Tops K mg) : Fn P w K mg base XA "told_parts" ["splitting"] 6 f_told_parts := by
  obtain ⟨f, fd, F, hm⟩ := (G.fd "told_parts" 96 (by decide +kernel)).ex
  refine ⟨f, fd, hm, F.kp, F.bindsN (fun _ _ _ _ _ _ us hl => match us, hl with | [_], _ => rfl), fn_ok hX F sc_told_parts fun cdv A outer s H E hr => PSs.nox ?_⟩
  exact b_cons (s_asg (e_cell (e_lst (a_nil))) (gl_name (pg_name sc_told_parts.nd rfl (by first | exact .inl rfl | exact .inr rfl))))
    (b_cons (s_for PassesOwn.never rfl (i_seq (e_fn (ok_told_ring hX G) hr (by decide) rfl (a_cons (e_var (pv 0)) (a_nil)) (by decide))) (gl_tup rfl (gls_cons (gl_name (pg_name sc_told_parts.nd rfl (by first | exact .inl rfl | exact .inr rfl))) (gls_cons (gl_name (pg_name sc_told_parts.nd rfl (by first | exact .inl rfl | exact .inr rfl))) (gls_nil)))) (b_cons (s_expr (e_mut PySem.F.slot_list_append PySem.F.type_list_append mt_append m_append (e_var (pv 1)) (a_cons (e_if (t_cmp (op_neD hr.units) g_ne (e_var (pv 1)) (e_lst (a_nil)) (nomark _)) (e_fn (ok_minus hX G) hr (by decide) rfl (a_cons (e_var (pv 3)) (a_cons (e_ix ix_seq g_ix (e_var (pv 1)) (e_neg (e_const pe_int fun _ _ => .int _)) (fun _ _ => rfl)) (a_nil))) (by decide)) (e_var (pv 3))) (a_nil))))
    (b_nil)))
    (b_cons (s_ret (e_callTy call_tuple_of g_tupOf rfl (G.fr _ (by decide +kernel)) boot_tuple (a_cons (e_sl (e_var (pv 1)) o_none (o_some (e_neg (e_const pe_int fun _ _ => .int _)))) (a_nil))))
    (b_nil)))
/-! sum_of_powers -/
def b_sum_of_powers : FS := fSeq (fExpr (fCall f_look_at_two (aCons (fV 0) (aNil)))) (fSeq (fIfS (f1 gNot (fCall f_is_int (aCons (fV 1) (aCons (fC (.int 0)) (aCons (fC c_THREE) (aNil)))))) (fSeq (fNever) (fNxt)) (fNxt)) (fSeq (fRet (fCall f_added (aCons (fComp (fIt (fCall f_told_parts (aCons (fV 0) (aNil))) kSeq) (gN 2) (fYes) (fCall f_power (aCons (fV 2) (aCons (fV 1) (aNil)))) [2]) (aNil)))) (fNxt)))
def f_sum_of_powers : FF := mkFn 2 3 b_sum_of_powers
abbrev N_sum_of_powers : List Str := ["splitting", "many", "part"]
theorem sc_sum_of_powers : FnScope N_sum_of_powers ["splitting", "many"] (defScope (topS 97)) := ⟨rfl, rfl, rfl, by decide +kernel, rfl, by decide +kernel, by decide +kernel⟩
theorem ok_sum_of_powers (hX : XAok XA) (G : Tops K mg) : Fn P w K mg base XA "sum_of_powers" ["splitting", "many"] 7 f_sum_of_powers := by
  obtain ⟨f, fd, F, hm⟩ := (G.fd "sum_of_powers" 97 (by decide +kernel)).ex
  refine ⟨f, fd, hm, F.kp, F.bindsN (fun _ _ _ _ _ _ us hl => match us, hl with | [_, _], _ => rfl), fn_ok hX F sc_sum_of_powers fun cdv A outer s H E hr => PSs.nox ?_⟩
  exact b_cons (s_expr (e_fn (ok_look_at_two hX G) hr (by decide) rfl (a_cons (e_var (pv 0)) (a_nil)) (by decide)))
    (b_cons (s_ifs (t_not (t_val (e_fn (ok_is_int hX G) hr (by decide) rfl (a_cons (e_var (pv 1)) (a_cons (e_const pe_int fun _ _ => .int _) (a_cons (e_gc (G.c_THREE) rfl) (a_nil)))) (by decide)))) (b_cons (s_never)
    (b_nil)) (b_nil))
    (b_cons (s_ret (e_fn (ok_added hX G) hr (by decide) rfl (a_cons (e_comp (own := [("part", 2)]) rfl sc_sum_of_powers.nd (i_seq (e_fn (ok_told_parts hX G) hr (by decide) rfl (a_cons (e_var (pv 0)) (a_nil)) (by decide))) (show BlkOk N_sum_of_powers (defScope (topS 97)) _ [("part", 2)] from ⟨rfl, by decide +kernel, by decide +kernel, by decide +kernel, by decide +kernel⟩) (gb_name fun _ _ _ _ _ => pg_name sc_sum_of_powers.nd rfl (by first | exact .inl rfl | exact .inr rfl)).ex (by decide) (fun _ _ _ _ _ => ts_nil) (fun _ _ _ _ _ => e_fn (ok_power hX G) hr (by decide) rfl (a_cons (e_var (pv 2)) (a_cons (e_var (pv 1)) (a_nil))) (by decide))) (a_nil)) (by decide)))
    (b_nil)))
/-! told_back -/
def b_told_back : FS := fSeq (fRet (fN gTupOf (aCons (fComp (fItA (aCons (fV 0) (aNil)) kEnumT) (gT 2 (gsC (gN 1) (gsC (gN 2) (gsN)))) (f2 (gInt kLt) (fCall f_told_sign (aCons (f2 gIx (fV 2) (fC (.int 1))) (aNil))) (fC (.int 0))) (fV 1) [1, 2]) (aNil)))) (fNxt)
def f_told_back : FF := mkFn 1 3 b_told_back
abbrev N_told_back : List Str := ["steps", "at", "step"]
theorem sc_told_back : FnScope N_told_back ["steps"] (defScope (topS 99)) := ⟨rfl, rfl, rfl, by decide +kernel, rfl, by decide +kernel, by decide +kernel⟩
theorem ok_told_back (hX : XAok XA) (G : Tops K mg) : Fn P w K mg base XA "told_back" ["steps"] 2 f_told_back := by
  obtain ⟨f, fd, F, hm⟩ := (G.fd "told_back" 99 (by decide +kernel)).ex
  refine ⟨f, fd, hm, F.kp, F.bindsN (fun _ _ _ _ _ _ us hl => match us, hl with | [_], _ => rfl), fn_ok hX F sc_told_back fun cdv A outer s H E hr => PSs.nox ?_⟩
  exact b_cons (s_ret (e_callTy call_tuple_of g_tupOf rfl (G.fr _ (by decide +kernel)) boot_tuple (a_cons (e_comp (own := [("at", 1), ("step", 2)]) rfl sc_told_back.nd (i_enumT rfl (G.fr _ (by decide +kernel)) (a_cons (e_var (pv 0)) (a_nil))) (show BlkOk N_told_back (defScope (topS 99)) _ [("at", 1), ("step", 2)] from ⟨rfl, by decide +kernel, by decide +kernel, by decide +kernel, by decide +kernel⟩) (gb_tup rfl (gbs_cons (gb_name fun _ _ _ _ _ => pg_name sc_told_back.nd rfl (by first | exact .inl rfl | exact .inr rfl)) (gbs_cons (gb_name fun _ _ _ _ _ => pg_name sc_told_back.nd rfl (by first | exact .inl rfl | exact .inr rfl)) (gbs_nil)))).ex (by decide) (fun _ _ _ _ _ => ts_one (t_cmp op_lt g_lt (e_fn (ok_told_sign hX G) hr (by decide) rfl (a_cons (e_ix ix_seq g_ix (e_var (pv 2)) (e_const pe_int fun _ _ => .int _) (fun _ _ => rfl)) (a_nil)) (by decide)) (e_const pe_int fun _ _ => .int _) (nomark _))) (fun _ _ _ _ _ => e_var (pv 1))) (a_nil))))
    (b_nil)
/-! back_places -/
def b_back_places : FS := fSeq (fExpr (fCall f_look_at_steps (aCons (fV 0) (aNil)))) (fSeq (fRet (fCall f_told_back (aCons (fCall f_told_plain (aCons (fV 0) (aNil))) (aNil)))) (fNxt))
def f_back_places : FF := mkFn 1 1 b_back_places
abbrev N_back_places : List Str := ["splitting"]
theorem sc_back_places : FnScope N_back_places ["splitting"] (defScope (topS 98)) := ⟨rfl, rfl, rfl, by decide +kernel, rfl, by decide +kernel, by decide +kernel⟩
theorem ok_back_places (hX : XAok XA) (G : Tops K mg) : Fn P w K mg base XA "back_places" ["splitting"] 6 f_back_places := by
  obtain ⟨f, fd, F, hm⟩ := (G.fd "back_places" 98 (by decide +kernel)).ex
  refine ⟨f, fd, hm, F.kp, F.bindsN (fun _ _ _ _ _ _ us hl => match us, hl with | [_], _ => rfl), fn_ok hX F sc_back_places fun cdv A outer s H E hr => PSs.nox ?_⟩
  exact b_cons (s_expr (e_fn (ok_look_at_steps hX G) hr (by decide) rfl (a_cons (e_var (pv 0)) (a_nil)) (by decide)))
    (b_cons (s_ret (e_fn (ok_told_back hX G) hr (by decide) rfl (a_cons (e_fn (ok_told_plain hX G) hr (by decide) rfl (a_cons (e_var (pv 0)) (a_nil)) (by decide)) (a_nil)) (by decide)))
    (b_nil))
/-! must_go_back -/
def b_must_go_back : FS := fSeq (fExpr (fCall f_look_at_two (aCons (fV 0) (aNil)))) (fSeq (fAsg (gN 1) (fCall f_told_order (aCons (fV 0) (aCons (fC c_THREE) (aNil))))) (fSeq (fIfS (f2 gNe (f2 gIx (fV 1) (fC (.int 0))) (fC (.str [97, 116, 32, 108, 101, 97, 115, 116]))) (fSeq (fRet (fN gTup (aCons (fC c_LOW) (aStar (fSl (fV 1) (some (fC (.int 1))) none) (aNil))))) (fNxt)) (fNxt)) (fSeq (fAsg (gN 2) (fCall f_told_plain (aCons (fV 0) (aNil)))) (fSeq (fAsg (gN 3) (fComp (fIt (fN gTup (aCons (fC (.str [97])) (aCons (fC (.str [98])) (aNil)))) kSeq) (gN 4) (fYes) (f2 gIx (fComp (fIt (fCall f_told_back (aCons (fV 2) (aNil))) kSeq) (gN 5) (f2 gEq (f2 gIx (f2 gIx (fV 2) (fV 5)) (fC (.int 0))) (fV 4)) (fV 5) [5]) (fC (.int 0))) [4])) (fSeq (fRet (fN gTup (aCons (fC c_BACK) (aStar (fV 3) (aNil))))) (fNxt))))))
def f_must_go_back : FF := mkFn 1 6 b_must_go_back
abbrev N_must_go_back : List Str := ["splitting", "found", "steps", "some", "letter", "at"]
theorem sc_must_go_back : FnScope N_must_go_back ["splitting"] (defScope (topS 100)) := ⟨rfl, rfl, rfl, by decide +kernel, rfl, by decide +kernel, by decide +kernel⟩
theorem ok_must_go_back (hX : XAok XA) (G : Tops K mg) : Fn P w K mg base XA "must_go_back" ["splitting"] 9 f_must_go_back := by
  obtain ⟨f, fd, F, hm⟩ := (G.fd "must_go_back" 100 (by decide +kernel)).ex
  refine ⟨f, fd, hm, F.kp, F.bindsN (fun _ _ _ _ _ _ us hl => match us, hl with | [_], _ => rfl), fn_ok hX F sc_must_go_back fun cdv A outer s H E hr => PSs.nox ?_⟩
  exact b_cons (s_expr (e_fn (ok_look_at_two hX G) hr (by decide) rfl (a_cons (e_var (pv 0)) (a_nil)) (by decide)))
    (b_cons (s_asg (e_fn (ok_told_order hX G) hr (by decide) rfl (a_cons (e_var (pv 0)) (a_cons (e_gc (G.c_THREE) rfl) (a_nil))) (by decide)) (gl_name (pg_name sc_must_go_back.nd rfl (by first | exact .inl rfl | exact .inr rfl))))
    (b_cons (s_ifs (t_cmp (op_neD hr.units) g_ne (e_ix ix_seq g_ix (e_var (pv 1)) (e_const pe_int fun _ _ => .int _) (fun _ _ => rfl)) (e_const pe_str fun _ _ => .str _) (nomark _)) (b_cons (s_ret (e_tup (a_cons (e_gc (G.c_LOW) rfl) (a_star (e_sl (e_var (pv 1)) (o_some (e_const pe_int fun _ _ => .int _)) o_none) (a_nil)))))
    (b_nil)) (b_nil))
    (b_cons (s_asg (e_fn (ok_told_plain hX G) hr (by decide) rfl (a_cons (e_var (pv 0)) (a_nil)) (by decide)) (gl_name (pg_name sc_must_go_back.nd rfl (by first | exact .inl rfl | exact .inr rfl))))
    (b_cons (s_comp (own := [("letter", 4)]) rfl sc_must_go_back.nd rfl rfl (sw_true rfl rfl rfl rfl) (i_seq (e_tup (a_cons (e_const pe_str fun _ _ => .str _) (a_cons (e_const pe_str fun _ _ => .str _) (a_nil))))) (show BlkOk N_must_go_back (defScope (topS 100)) _ [("letter", 4)] from ⟨rfl, by decide +kernel, by decide +kernel, by decide +kernel, by decide +kernel⟩) (gb_name fun _ _ _ _ _ => pg_name sc_must_go_back.nd rfl (by first | exact .inl rfl | exact .inr rfl)).ex (by decide) (fun _ _ _ _ _ => ts_nil) (fun _ _ _ _ _ => e_ix ix_seq g_ix (e_comp (own := [("at", 5)]) rfl sc_must_go_back.nd (i_seq (e_fn (ok_told_back hX G) hr (by decide) rfl (a_cons (e_var (pv 2)) (a_nil)) (by decide))) (show BlkOk N_must_go_back (relS _ (defScope (topS 100))) _ [("at", 5)] from ⟨rfl, by decide +kernel, by decide +kernel, by decide +kernel, by decide +kernel⟩) (gb_name fun _ _ _ _ _ => pg_name sc_must_go_back.nd rfl (by first | exact .inl rfl | exact .inr rfl)).ex (by decide) (fun _ _ _ _ _ => ts_one (t_cmp (op_eqD hr.units) g_eq (e_ix ix_seq g_ix (e_ix ix_seq g_ix (e_var (pv 2)) (e_var (pv 5)) (fun _ _ => rfl)) (e_const pe_int fun _ _ => .int _) (fun _ _ => rfl)) (e_var (pv 4)) (nomark _))) (fun _ _ _ _ _ => e_var (pv 5))) (e_const pe_int fun _ _ => .int _) (fun _ _ => rfl)))
    (b_cons (s_ret (e_tup (a_cons (e_gc (G.c_BACK) rfl) (a_star (e_var (pv 3)) (a_nil)))))
    (b_nil))))))
/-! is_forward -/
def b_is_forward : FS := fSeq (fExpr (fCall f_look_at_steps (aCons (fV 0) (aNil)))) (fSeq (fRet (f2 gEq (fCall f_told_back (aCons (fCall f_told_plain (aCons (fV 0) (aNil))) (aNil))) (fN gTup (aNil)))) (fNxt))
def f_is_forward : FF := mkFn 1 1 b_is_forward
abbrev N_is_forward : List Str := ["splitting"]
theorem sc_is_forward : FnScope N_is_forward ["splitting"] (defScope (topS 101)) := ⟨rfl, rfl, rfl, by decide +kernel, rfl, by decide +kernel, by decide +kernel⟩
theorem ok_is_forward (hX : XAok XA) (G : Tops K mg) : Fn P w K mg base XA "is_forward" ["splitting"] 6 f_is_forward := by
  obtain ⟨f, fd, F, hm⟩ := (G.fd "is_forward" 101 (by decide +kernel)).ex
  refine ⟨f, fd, hm, F.kp, F.bindsN (fun _ _ _ _ _ _ us hl => match us, hl with | [_], _ => rfl), fn_ok hX F sc_is_forward fun cdv A outer s H E hr => PSs.nox ?_⟩
  exact b_cons (s_expr (e_fn (ok_look_at_steps hX G) hr (by decide) rfl (a_cons (e_var (pv 0)) (a_nil)) (by decide)))
    (b_cons (s_ret (e_cmp (op_eqD hr.units) g_eq (e_fn (ok_told_back hX G) hr (by decide) rfl (a_cons (e_fn (ok_told_plain hX G) hr (by decide) rfl (a_cons (e_var (pv 0)) (a_nil)) (by decide)) (a_nil)) (by decide)) (e_tup (a_nil)) (nomark _)))
    (b_nil))
end
end M85

set_option Elab.async false
set_option maxRecDepth 100000
set_option maxHeartbeats 4000000
namespace M85
open PySem PySem.Spec PyProof.Rows L2 EV
noncomputable section
variable {P : Program} {w : World} {K : PySem.W.Frag} {mg : Str → Option Value} {base : Heap} {XA : XAT}
/-! halves -/
def b_halves : FS := fSeq (fIfS (f1 gNot (fCall f_is_int (aCons (fV 0) (aCons (fC (.int 1)) (aCons (f2 gMul (fC c_THREE) (fC c_THREE)) (aNil)))))) (fSeq (fNever) (fNxt)) (fNxt)) (fSeq (fAsg (gN 1) (fCell (fN gLst (aCons (fN gTup (aCons (fC (.str [97])) (aCons (fN gTup (aCons (fC (.int 1)) (aCons (f2 gMul (fC (.int 2)) (fV 0)) (aNil)))) (aNil)))) (aNil))))) (fSeq (fFor (fItA (aCons (fV 0) (aNil)) kR1) (gN 2) (fSeq (fExpr (fMut mExtend (fV 1) (aCons (fN gLst (aCons (fN gTup (aCons (fC (.str [98])) (aCons (fN gTup (aCons (fC (.int 1)) (aCons (fV 0) (aNil)))) (aNil)))) (aCons (fN gTup (aCons (fC (.str [97])) (aCons (fN gTup (aCons (fC (.int 1)) (aCons (fIf (f2 (gInt kLt) (fV 2) (f2 (gInt kSub) (fV 0) (fC (.int 1)))) (fV 0) (f2 gMul (fC (.int 2)) (fV 0))) (aNil)))) (aNil)))) (aNil)))) (aNil)))) (fNxt))) (fSeq (fRet (fN gTupOf (aCons (fV 1) (aNil)))) (fNxt))))
def f_halves : FF := mkFn 1 3 b_halves
abbrev N_halves : List Str := ["many", "found", "at"]
theorem sc_halves : FnScope N_halves ["many"] (defScope (topS 102)) := ⟨rfl, rfl, rfl, by decide +kernel, rfl, by decide +kernel, by decide +kernel⟩
theorem ok_halves (hX : XAok XA) (G : Tops K mg) : Fn P w K mg base XA "halves" ["many"] 2 f_halves := by
  obtain ⟨f, fd, F, hm⟩ := (G.fd "halves" 102 (by decide +kernel)).ex
  refine ⟨f, fd, hm, F.kp, F.bindsN (fun _ _ _ _ _ _ us hl => match us, hl with | [_], _ => rfl), fn_ok hX F sc_halves fun cdv A outer s H E hr => PSs.nox ?_⟩
  exact b_cons (s_ifs (t_not (t_val (e_fn (ok_is_int hX G) hr (by decide) rfl (a_cons (e_var (pv 0)) (a_cons (e_const pe_int fun _ _ => .int _) (a_cons (e_bin op_mulA g_mul (e_gc (G.c_THREE) rfl) (e_gc (G.c_THREE) rfl)) (a_nil)))) (by decide)))) (b_cons (s_never)
    (b_nil)) (b_nil))
    (b_cons (s_asg (e_cell (e_lst (a_cons (e_tup (a_cons (e_const pe_str fun _ _ => .str _) (a_cons (e_tup (a_cons (e_const pe_int fun _ _ => .int _) (a_cons (e_bin op_mulA g_mul (e_const pe_int fun _ _ => .int _) (e_var (pv 0))) (a_nil)))) (a_nil)))) (a_nil)))) (gl_name (pg_name sc_halves.nd rfl (by first | exact .inl rfl | exact .inr rfl))))
    (b_cons (s_for PassesOwn.never rfl (i_rng1 rfl (G.fr _ (by decide +kernel)) (a_cons (e_var (pv 0)) (a_nil))) (gl_name (pg_name sc_halves.nd rfl (by first | exact .inl rfl | exact .inr rfl))) (b_cons (s_expr (e_mut PySem.F.slot_list_extend PySem.F.type_list_extend mt_extend m_extend (e_var (pv 1)) (a_cons (e_lst (a_cons (e_tup (a_cons (e_const pe_str fun _ _ => .str _) (a_cons (e_tup (a_cons (e_const pe_int fun _ _ => .int _) (a_cons (e_var (pv 0)) (a_nil)))) (a_nil)))) (a_cons (e_tup (a_cons (e_const pe_str fun _ _ => .str _) (a_cons (e_tup (a_cons (e_const pe_int fun _ _ => .int _) (a_cons (e_if (t_cmp op_lt g_lt (e_var (pv 2)) (e_bin op_sub g_sub (e_var (pv 0)) (e_const pe_int fun _ _ => .int _)) (nomark _)) (e_var (pv 0)) (e_bin op_mulA g_mul (e_const pe_int fun _ _ => .int _) (e_var (pv 0)))) (a_nil)))) (a_nil)))) (a_nil)))) (a_nil))))
    (b_nil)))
    (b_cons (s_ret (e_callTy call_tuple_of g_tupOf rfl (G.fr _ (by decide +kernel)) boot_tuple (a_cons (e_var (pv 1)) (a_nil))))
    (b_nil))))
/-! sums_alike -/
def b_sums_alike : FS := fSeq (fExpr (fCall f_look_at_steps (aCons (fV 0) (aNil)))) (fSeq (fRet (fN gAll (aCons (fComp (fIt (fN gTup (aCons (fC (.str [97])) (aCons (fC (.str [98])) (aNil)))) kSeq) (gN 1) (fYes) (f2 gEq (fCall f_added (aCons (fComp (fIt (fV 0) kSeq) (gT 2 (gsC (gN 2) (gsC (gN 3) (gsN)))) (f2 gEq (fV 2) (fV 1)) (fV 3) [2, 3]) (aNil))) (fC c_ONE)) [1]) (aNil)))) (fNxt))
def f_sums_alike : FF := mkFn 1 4 b_sums_alike
abbrev N_sums_alike : List Str := ["splitting", "letter", "one", "number"]
theorem sc_sums_alike : FnScope N_sums_alike ["splitting"] (defScope (topS 103)) := ⟨rfl, rfl, rfl, by decide +kernel, rfl, by decide +kernel, by decide +kernel⟩
theorem ok_sums_alike (hX : XAok XA) (G : Tops K mg) : Fn P w K mg base XA "sums_alike" ["splitting"] 6 f_sums_alike := by
  obtain ⟨f, fd, F, hm⟩ := (G.fd "sums_alike" 103 (by decide +kernel)).ex
  refine ⟨f, fd, hm, F.kp, F.bindsN (fun _ _ _ _ _ _ us hl => match us, hl with | [_], _ => rfl), fn_ok hX F sc_sums_alike fun cdv A outer s H E hr => PSs.nox ?_⟩
  exact b_cons (s_expr (e_fn (ok_look_at_steps hX G) hr (by decide) rfl (a_cons (e_var (pv 0)) (a_nil)) (by decide)))
    (b_cons (s_ret (e_callB (cr_all rfl) g_all rfl (G.fr _ (by decide +kernel)) boot_all (a_cons (e_comp (own := [("letter", 1)]) rfl sc_sums_alike.nd (i_seq (e_tup (a_cons (e_const pe_str fun _ _ => .str _) (a_cons (e_const pe_str fun _ _ => .str _) (a_nil))))) (show BlkOk N_sums_alike (defScope (topS 103)) _ [("letter", 1)] from ⟨rfl, by decide +kernel, by decide +kernel, by decide +kernel, by decide +kernel⟩) (gb_name fun _ _ _ _ _ => pg_name sc_sums_alike.nd rfl (by first | exact .inl rfl | exact .inr rfl)).ex (by decide) (fun _ _ _ _ _ => ts_nil) (fun _ _ _ _ _ => e_cmp (op_eqD hr.units) g_eq (e_fn (ok_added hX G) hr (by decide) rfl (a_cons (e_comp (own := [("one", 2), ("number", 3)]) rfl sc_sums_alike.nd (i_seq (e_var (pv 0))) (show BlkOk N_sums_alike (relS _ (defScope (topS 103))) _ [("one", 2), ("number", 3)] from ⟨rfl, by decide +kernel, by decide +kernel, by decide +kernel, by decide +kernel⟩) (gb_tup rfl (gbs_cons (gb_name fun _ _ _ _ _ => pg_name sc_sums_alike.nd rfl (by first | exact .inl rfl | exact .inr rfl)) (gbs_cons (gb_name fun _ _ _ _ _ => pg_name sc_sums_alike.nd rfl (by first | exact .inl rfl | exact .inr rfl)) (gbs_nil)))).ex (by decide) (fun _ _ _ _ _ => ts_one (t_cmp (op_eqD hr.units) g_eq (e_var (pv 2)) (e_var (pv 1)) (nomark _))) (fun _ _ _ _ _ => e_var (pv 3))) (a_nil)) (by decide)) (e_gc (G.c_ONE) rfl) (nomark _))) (a_nil))))
    (b_nil))
/-! is_polynomial -/
def b_is_polynomial : FS := fSeq (fIfS (f1 gNot (fCall f_is_row (aCons (fV 0) (aCons (f2 gAdd (fC c_MOST_DEGREE) (fC (.int 1))) (aNil))))) (fSeq (fRet (fC (.bl false))) (fNxt)) (fNxt)) (fSeq (fRet (fOr (f2 gEq (fV 0) (fN gTup (aNil))) (f2 gNe (f2 gIx (fV 0) (f1 gNeg (fC (.int 1)))) (fC c_NOUGHT)))) (fNxt))
def f_is_polynomial : FF := mkFn 1 1 b_is_polynomial
abbrev N_is_polynomial : List Str := ["value"]
theorem sc_is_polynomial : FnScope N_is_polynomial ["value"] (defScope (topS 106)) := ⟨rfl, rfl, rfl, by decide +kernel, rfl, by decide +kernel, by decide +kernel⟩
theorem ok_is_polynomial (hX : XAok XA) (G : Tops K mg) : Fn P w K mg base XA "is_polynomial" ["value"] 5 f_is_polynomial := by
  obtain ⟨f, fd, F, hm⟩ := (G.fd "is_polynomial" 106 (by decide +kernel)).ex
  refine ⟨f, fd, hm, F.kp, F.bindsN (fun _ _ _ _ _ _ us hl => match us, hl with | [_], _ => rfl), fn_ok hX F sc_is_polynomial fun cdv A outer s H E hr => PSs.nox ?_⟩
  exact b_cons (s_ifs (t_not (t_val (e_fn (ok_is_row hX G) hr (by decide) rfl (a_cons (e_var (pv 0)) (a_cons (e_bin op_addA g_add (e_gc (G.c_MOST_DEGREE) rfl) (e_const pe_int fun _ _ => .int _)) (a_nil))) (by decide)))) (b_cons (s_ret (e_const pe_bl fun _ _ => .bl _))
    (b_nil)) (b_nil))
    (b_cons (s_ret (e_or (e_cmp (op_eqD hr.units) g_eq (e_var (pv 0)) (e_tup (a_nil)) (nomark _)) (pe_one (e_cmp (op_neD hr.units) g_ne (e_ix ix_seq g_ix (e_var (pv 0)) (e_neg (e_const pe_int fun _ _ => .int _)) (fun _ _ => rfl)) (e_gc (G.c_NOUGHT) rfl) (nomark _)))))
    (b_nil))
/-! look_at_polynomial -/
def b_look_at_polynomial : FS := fSeq (fIfS (f1 gNot (fCall f_is_polynomial (aCons (fV 0) (aNil)))) (fSeq (fNever) (fNxt)) (fNxt)) (fNxt)
def f_look_at_polynomial : FF := mkFn 1 1 b_look_at_polynomial
abbrev N_look_at_polynomial : List Str := ["value"]
theorem sc_look_at_polynomial : FnScope N_look_at_polynomial ["value"] (defScope (topS 107)) := ⟨rfl, rfl, rfl, by decide +kernel, rfl, by decide +kernel, by decide +kernel⟩
theorem ok_look_at_polynomial (hX : XAok XA) (G : Tops K mg) : Fn P w K mg base XA "look_at_polynomial" ["value"] 6 f_look_at_polynomial := by
  obtain ⟨f, fd, F, hm⟩ := (G.fd "look_at_polynomial" 107 (by decide +kernel)).ex
  refine ⟨f, fd, hm, F.kp, F.bindsN (fun _ _ _ _ _ _ us hl => match us, hl with | [_], _ => rfl), fn_ok hX F sc_look_at_polynomial fun cdv A outer s H E hr => PSs.nox ?_⟩
  exact b_cons (s_ifs (t_not (t_val (e_fn (ok_is_polynomial hX G) hr (by decide) rfl (a_cons (e_var (pv 0)) (a_nil)) (by decide)))) (b_cons (s_never)
    (b_nil)) (b_nil))
    (b_nil)
/-! poly_value -/
def b_poly_value : FS := fSeq (fAsg (gN 2) (fC c_NOUGHT)) (fSeq (fFor (fIt (f1 gRevT (fV 0)) kSeq) (gN 3) (fSeq (fAsg (gN 2) (fCall q_plus (aCons (fCall q_times (aCons (fV 2) (aCons (fV 1) (aNil)))) (aCons (fV 3) (aNil))))) (fNxt))) (fSeq (fRet (fV 2)) (fNxt)))
def f_poly_value : FF := mkFn 2 4 b_poly_value
abbrev N_poly_value : List Str := ["one", "place", "found", "part"]
theorem sc_poly_value : FnScope N_poly_value ["one", "place"] (defScope (topS 108)) := ⟨rfl, rfl, rfl, by decide +kernel, rfl, by decide +kernel, by decide +kernel⟩
theorem ok_poly_value (hX : XAok XA) (G : Tops K mg) : Fn P w K mg base XA "poly_value" ["one", "place"] 4 f_poly_value := by
  obtain ⟨f, fd, F, hm⟩ := (G.fd "poly_value" 108 (by decide +kernel)).ex
  refine ⟨f, fd, hm, F.kp, F.bindsN (fun _ _ _ _ _ _ us hl => match us, hl with | [_, _], _ => rfl), fn_ok hX F sc_poly_value fun cdv A outer s H E hr => PSs.nox ?_⟩
  exact b_cons (s_asg (e_gc (G.c_NOUGHT) rfl) (gl_name (pg_name sc_poly_value.nd rfl (by first | exact .inl rfl | exact .inr rfl))))
    (b_cons (s_for PassesOwn.never rfl (i_seq (e_revT (e_var (pv 0)))) (gl_name (pg_name sc_poly_value.nd rfl (by first | exact .inl rfl | exact .inr rfl))) (b_cons (s_asg (e_fn (ok_q_plus hX G) hr (by decide) rfl (a_cons (e_fn (ok_q_times hX G) hr (by decide) rfl (a_cons (e_var (pv 2)) (a_cons (e_var (pv 1)) (a_nil))) (by decide)) (a_cons (e_var (pv 3)) (a_nil))) (by decide)) (gl_name (pg_name sc_poly_value.nd rfl (by first | exact .inl rfl | exact .inr rfl))))
    (b_nil)))
    (b_cons (s_ret (e_var (pv 2)))
    (b_nil)))
/-! look_at_numbers -/
def b_look_at_numbers : FS := fSeq (fIfS (f1 gNot (fCall f_is_row (aCons (fV 0) (aCons (fC c_MOST_NUMBERS) (aNil))))) (fSeq (fNever) (fNxt)) (fNxt)) (fNxt)
def f_look_at_numbers : FF := mkFn 1 1 b_look_at_numbers
abbrev N_look_at_numbers : List Str := ["numbers"]
theorem sc_look_at_numbers : FnScope N_look_at_numbers ["numbers"] (defScope (topS 119)) := ⟨rfl, rfl, rfl, by decide +kernel, rfl, by decide +kernel, by decide +kernel⟩
theorem ok_look_at_numbers (hX : XAok XA) (G : Tops K mg) : Fn P w K mg base XA "look_at_numbers" ["numbers"] 5 f_look_at_numbers := by
  obtain ⟨f, fd, F, hm⟩ := (G.fd "look_at_numbers" 119 (by decide +kernel)).ex
  refine ⟨f, fd, hm, F.kp, F.bindsN (fun _ _ _ _ _ _ us hl => match us, hl with | [_], _ => rfl), fn_ok hX F sc_look_at_numbers fun cdv A outer s H E hr => PSs.nox ?_⟩
  exact b_cons (s_ifs (t_not (t_val (e_fn (ok_is_row hX G) hr (by decide) rfl (a_cons (e_var (pv 0)) (a_cons (e_gc (G.c_MOST_NUMBERS) rfl) (a_nil))) (by decide)))) (b_cons (s_never)
    (b_nil)) (b_nil))
    (b_nil)
/-! jump -/
def b_jump : FS := fSeq (fExpr (fCall f_look_at_steps (aCons (fV 0) (aNil)))) (fSeq (fExpr (fCall f_look_at_numbers (aCons (fV 1) (aNil)))) (fSeq (fAsg (gN 2) (fCall f_told_jump (aCons (fV 0) (aCons (fV 1) (aNil))))) (fSeq (fIfS (f1 gNot (fN gAll (aCons (fComp (fIt (fV 2) kSeq) (gT 2 (gsC (gN 3) (gsC (gN 4) (gsN)))) (fYes) (fCall f_is_fraction (aCons (fV 4) (aNil))) [3, 4]) (aNil)))) (fSeq (fNever) (fNxt)) (fNxt)) (fSeq (fIfS (f2 (gInt kGt) (fN gLen (aCons (fV 2) (aNil))) (fC c_MOST_STEPS)) (fSeq (fNever) (fNxt)) (fNxt)) (fSeq (fRet (fV 2)) (fNxt))))))
def f_jump : FF := mkFn 2 5 b_jump
abbrev N_jump : List Str := ["splitting", "numbers", "found", "letter", "part"]
theorem sc_jump : FnScope N_jump ["splitting", "numbers"] (defScope (topS 120)) := ⟨rfl, rfl, rfl, by decide +kernel, rfl, by decide +kernel, by decide +kernel⟩
theorem ok_jump (hX : XAok XA) (G : Tops K mg) : Fn P w K mg base XA "jump" ["splitting", "numbers"] 6 f_jump := by
  obtain ⟨f, fd, F, hm⟩ := (G.fd "jump" 120 (by decide +kernel)).ex
  refine ⟨f, fd, hm, F.kp, F.bindsN (fun _ _ _ _ _ _ us hl => match us, hl with | [_, _], _ => rfl), fn_ok hX F sc_jump fun cdv A outer s H E hr => PSs.nox ?_⟩
  exact b_cons (s_expr (e_fn (ok_look_at_steps hX G) hr (by decide) rfl (a_cons (e_var (pv 0)) (a_nil)) (by decide)))
    (b_cons (s_expr (e_fn (ok_look_at_numbers hX G) hr (by decide) rfl (a_cons (e_var (pv 1)) (a_nil)) (by decide)))
    (b_cons (s_asg (e_fn (ok_told_jump hX G) hr (by decide) rfl (a_cons (e_var (pv 0)) (a_cons (e_var (pv 1)) (a_nil))) (by decide)) (gl_name (pg_name sc_jump.nd rfl (by first | exact .inl rfl | exact .inr rfl))))
    (b_cons (s_ifs (t_not (t_val (e_callB (cr_all rfl) g_all rfl (G.fr _ (by decide +kernel)) boot_all (a_cons (e_comp (own := [("letter", 3), ("part", 4)]) rfl sc_jump.nd (i_seq (e_var (pv 2))) (show BlkOk N_jump (defScope (topS 120)) _ [("letter", 3), ("part", 4)] from ⟨rfl, by decide +kernel, by decide +kernel, by decide +kernel, by decide +kernel⟩) (gb_tup rfl (gbs_cons (gb_name fun _ _ _ _ _ => pg_name sc_jump.nd rfl (by first | exact .inl rfl | exact .inr rfl)) (gbs_cons (gb_name fun _ _ _ _ _ => pg_name sc_jump.nd rfl (by first | exact .inl rfl | exact .inr rfl)) (gbs_nil)))).ex (by decide) (fun _ _ _ _ _ => ts_nil) (fun _ _ _ _ _ => e_fn (ok_is_fraction hX G) hr (by decide) rfl (a_cons (e_var (pv 4)) (a_nil)) (by decide))) (a_nil))))) (b_cons (s_never)
    (b_nil)) (b_nil))
    (b_cons (s_ifs (t_cmp op_gt g_gt (e_callB call_len g_len rfl (G.fr _ (by decide +kernel)) boot_len (a_cons (e_var (pv 2)) (a_nil))) (e_gc (G.c_MOST_STEPS) rfl) (nomark _)) (b_cons (s_never)
    (b_nil)) (b_nil))
    (b_cons (s_ret (e_var (pv 2)))
    (b_nil))))))
/-! look_at_order -/
def b_look_at_order : FS := fSeq (fIfS (fOr (f1 gNot (fCall f_is_int (aCons (fV 0) (aCons (fC (.int 2)) (aCons (f2 (gInt kSub) (fC c_MOST_POWER) (fC (.int 1))) (aNil)))))) (f2 gEq (f2 (gInt kMod) (fV 0) (fC (.int 2))) (fC (.int 1)))) (fSeq (fNever) (fNxt)) (fNxt)) (fNxt)
def f_look_at_order : FF := mkFn 1 1 b_look_at_order
abbrev N_look_at_order : List Str := ["order"]
theorem sc_look_at_order : FnScope N_look_at_order ["order"] (defScope (topS 121)) := ⟨rfl, rfl, rfl, by decide +kernel, rfl, by decide +kernel, by decide +kernel⟩
theorem ok_look_at_order (hX : XAok XA) (G : Tops K mg) : Fn P w K mg base XA "look_at_order" ["order"] 2 f_look_at_order := by
  obtain ⟨f, fd, F, hm⟩ := (G.fd "look_at_order" 121 (by decide +kernel)).ex
  refine ⟨f, fd, hm, F.kp, F.bindsN (fun _ _ _ _ _ _ us hl => match us, hl with | [_], _ => rfl), fn_ok hX F sc_look_at_order fun cdv A outer s H E hr => PSs.nox ?_⟩
  exact b_cons (s_ifs (PW.pt (w_or (t_not (t_val (e_fn (ok_is_int hX G) hr (by decide) rfl (a_cons (e_var (pv 0)) (a_cons (e_const pe_int fun _ _ => .int _) (a_cons (e_bin op_sub g_sub (e_gc (G.c_MOST_POWER) rfl) (e_const pe_int fun _ _ => .int _)) (a_nil)))) (by decide)))) (pw_or1 (t_cmp (op_eqD hr.units) g_eq (e_bin op_mod g_mod (e_var (pv 0)) (e_const pe_int fun _ _ => .int _)) (e_const pe_int fun _ _ => .int _) (nomark _))))) (b_cons (s_never)
    (b_nil)) (b_nil))
    (b_nil)
/-! does_raise -/
def b_does_raise : FS := fSeq (fExpr (fCall f_look_at_order (aCons (fV 0) (aNil)))) (fSeq (fExpr (fCall f_look_at_numbers (aCons (fV 1) (aNil)))) (fSeq (fFor (fIt (fN gTup (aCons (fN gTup (aCons (fC (.int 1)) (aCons (fC c_ONE) (aNil)))) (aCons (fN gTup (aCons (f2 gAdd (fV 0) (fC (.int 1))) (aCons (fC c_NOUGHT) (aNil)))) (aNil)))) kSeq) (gT 2 (gsC (gN 2) (gsC (gN 3) (gsN)))) (fSeq (fAsg (gN 4) (fCall f_added (aCons (fComp (fIt (fV 1) kSeq) (gN 5) (fYes) (fCall f_power (aCons (fV 5) (aCons (fV 2) (aNil)))) [5]) (aNil)))) (fSeq (fIfS (f2 gNe (fV 4) (fV 3)) (fSeq (fRet (fN gTup (aCons (fC c_NOT) (aCons (fV 2) (aCons (fV 4) (aNil)))))) (fNxt)) (fNxt)) (fNxt)))) (fSeq (fRet (fN gTup (aCons (fC c_SO) (aNil)))) (fNxt))))
def f_does_raise : FF := mkFn 2 6 b_does_raise
abbrev N_does_raise : List Str := ["order", "numbers", "many", "due", "found", "number"]
theorem sc_does_raise : FnScope N_does_raise ["order", "numbers"] (defScope (topS 122)) := ⟨rfl, rfl, rfl, by decide +kernel, rfl, by decide +kernel, by decide +kernel⟩
theorem ok_does_raise (hX : XAok XA) (G : Tops K mg) : Fn P w K mg base XA "does_raise" ["order", "numbers"] 6 f_does_raise := by
  obtain ⟨f, fd, F, hm⟩ := (G.fd "does_raise" 122 (by decide +kernel)).ex
  refine ⟨f, fd, hm, F.kp, F.bindsN (fun _ _ _ _ _ _ us hl => match us, hl with | [_, _], _ => rfl), fn_ok hX F sc_does_raise fun cdv A outer s H E hr => PSs.nox ?_⟩
  exact b_cons (s_expr (e_fn (ok_look_at_order hX G) hr (by decide) rfl (a_cons (e_var (pv 0)) (a_nil)) (by decide)))
    (b_cons (s_expr (e_fn (ok_look_at_numbers hX G) hr (by decide) rfl (a_cons (e_var (pv 1)) (a_nil)) (by decide)))
    (b_cons (s_for PassesOwn.never rfl (i_seq (e_tup (a_cons (e_tup (a_cons (e_const pe_int fun _ _ => .int _) (a_cons (e_gc (G.c_ONE) rfl) (a_nil)))) (a_cons (e_tup (a_cons (e_bin op_addA g_add (e_var (pv 0)) (e_const pe_int fun _ _ => .int _)) (a_cons (e_gc (G.c_NOUGHT) rfl) (a_nil)))) (a_nil))))) (gl_tup rfl (gls_cons (gl_name (pg_name sc_does_raise.nd rfl (by first | exact .inl rfl | exact .inr rfl))) (gls_cons (gl_name (pg_name sc_does_raise.nd rfl (by first | exact .inl rfl | exact .inr rfl))) (gls_nil)))) (b_cons (s_asg (e_fn (ok_added hX G) hr (by decide) rfl (a_cons (e_comp (own := [("number", 5)]) rfl sc_does_raise.nd (i_seq (e_var (pv 1))) (show BlkOk N_does_raise (defScope (topS 122)) _ [("number", 5)] from ⟨rfl, by decide +kernel, by decide +kernel, by decide +kernel, by decide +kernel⟩) (gb_name fun _ _ _ _ _ => pg_name sc_does_raise.nd rfl (by first | exact .inl rfl | exact .inr rfl)).ex (by decide) (fun _ _ _ _ _ => ts_nil) (fun _ _ _ _ _ => e_fn (ok_power hX G) hr (by decide) rfl (a_cons (e_var (pv 5)) (a_cons (e_var (pv 2)) (a_nil))) (by decide))) (a_nil)) (by decide)) (gl_name (pg_name sc_does_raise.nd rfl (by first | exact .inl rfl | exact .inr rfl))))
    (b_cons (s_ifs (t_cmp (op_neD hr.units) g_ne (e_var (pv 4)) (e_var (pv 3)) (nomark _)) (b_cons (s_ret (e_tup (a_cons (e_gc (G.c_NOT) rfl) (a_cons (e_var (pv 2)) (a_cons (e_var (pv 4)) (a_nil))))))
    (b_nil)) (b_nil))
    (b_nil))))
    (b_cons (s_ret (e_tup (a_cons (e_gc (G.c_SO) rfl) (a_nil))))
    (b_nil))))
/-! told_rest_power -/
def b_told_rest_power : FS := fSeq (fAsg (gN 2) (fCell (fN gLst (aCons (fC (.int 1)) (aNil))))) (fSeq (fFor (fItA (aCons (fV 0) (aNil)) kR1) (gN 3) (fSeq (fAsg (gN 2) (fCell (fComp (fItA (aCons (fN gLst (aStar (fV 2) (aCons (fC (.int 0)) (aNil)))) (aCons (fN gLst (aCons (fC (.int 0)) (aStar (fV 2) (aNil)))) (aNil))) kZipL) (gT 2 (gsC (gN 4) (gsC (gN 5) (gsN)))) (fYes) (f2 (gInt kSub) (fV 4) (f2 gMul (fV 1) (fV 5))) [4, 5]))) (fNxt))) (fSeq (fRet (fV 2)) (fNxt)))
def f_told_rest_power : FF := mkFn 2 6 b_told_rest_power
abbrev N_told_rest_power : List Str := ["many", "times_x", "found", "lap", "one", "other"]
theorem sc_told_rest_power : FnScope N_told_rest_power ["many", "times_x"] (defScope (topS 123)) := ⟨rfl, rfl, rfl, by decide +kernel, rfl, by decide +kernel, by decide +kernel⟩
theorem ok_told_rest_power (hX : XAok XA) (G : Tops K mg) : Fn P w K mg base XA "told_rest_power" ["many", "times_x"] 1 f_told_rest_power := by
  obtain ⟨f, fd, F, hm⟩ := (G.fd "told_rest_power" 123 (by decide +kernel)).ex
  refine ⟨f, fd, hm, F.kp, F.bindsN (fun _ _ _ _ _ _ us hl => match us, hl with | [_, _], _ => rfl), fn_ok hX F sc_told_rest_power fun cdv A outer s H E hr => PSs.nox ?_⟩
  exact b_cons (s_asg (e_cell (e_lst (a_cons (e_const pe_int fun _ _ => .int _) (a_nil)))) (gl_name (pg_name sc_told_rest_power.nd rfl (by first | exact .inl rfl | exact .inr rfl))))
    (b_cons (s_for PassesOwn.never rfl (i_rng1 rfl (G.fr _ (by decide +kernel)) (a_cons (e_var (pv 0)) (a_nil))) (gl_name (pg_name sc_told_rest_power.nd rfl (by first | exact .inl rfl | exact .inr rfl))) (b_cons (s_compC (own := [("one", 4), ("other", 5)]) rfl sc_told_rest_power.nd rfl rfl (sw_true rfl rfl rfl rfl) (i_zipL rfl (G.fr _ (by decide +kernel)) (a_cons (e_lst (a_star (e_var (pv 2)) (a_cons (e_const pe_int fun _ _ => .int _) (a_nil)))) (a_cons (e_lst (a_cons (e_const pe_int fun _ _ => .int _) (a_star (e_var (pv 2)) (a_nil)))) (a_nil)))) (show BlkOk N_told_rest_power (defScope (topS 123)) _ [("one", 4), ("other", 5)] from ⟨rfl, by decide +kernel, by decide +kernel, by decide +kernel, by decide +kernel⟩) (gb_tup rfl (gbs_cons (gb_name fun _ _ _ _ _ => pg_name sc_told_rest_power.nd rfl (by first | exact .inl rfl | exact .inr rfl)) (gbs_cons (gb_name fun _ _ _ _ _ => pg_name sc_told_rest_power.nd rfl (by first | exact .inl rfl | exact .inr rfl)) (gbs_nil)))).ex (by decide) (fun _ _ _ _ _ => ts_nil) (fun _ _ _ _ _ => e_bin op_sub g_sub (e_var (pv 4)) (e_bin op_mulA g_mul (e_var (pv 1)) (e_var (pv 5)))))
    (b_nil)))
    (b_cons (s_ret (e_var (pv 2)))
    (b_nil)))
/-! told_bare -/
def b_told_bare : FS := fSeq (fAsg (gN 1) (fCell (fN gListOf (aCons (fV 0) (aNil))))) (fSeq (fWhile 1000000 (fAnd (f2 gNe (fV 1) (fN gLst (aNil))) (f2 gEq (f2 gIx (fV 1) (f1 gNeg (fC (.int 1)))) (fC (.int 0)))) (fSeq (fExpr (fMut mPop (fV 1) aNil)) (fNxt))) (fSeq (fRet (fV 1)) (fNxt)))
def f_told_bare : FF := mkFn 1 2 b_told_bare
abbrev N_told_bare : List Str := ["ints", "found"]
theorem sc_told_bare : FnScope N_told_bare ["ints"] (defScope (topS 125)) := ⟨rfl, rfl, rfl, by decide +kernel, rfl, by decide +kernel, by decide +kernel⟩
theorem ok_told_bare (hX : XAok XA) (G : Tops K mg) : Fn P w K mg base XA "told_bare" ["ints"] 1 f_told_bare := by
  obtain ⟨f, fd, F, hm⟩ := (G.fd "told_bare" 125 (by decide +kernel)).ex
  refine ⟨f, fd, hm, F.kp, F.bindsN (fun _ _ _ _ _ _ us hl => match us, hl with | [_], _ => rfl), fn_ok hX F sc_told_bare fun cdv A outer s H E hr => PSs.nox ?_⟩
  exact b_cons (s_asg (e_cell (e_callTy call_list_of g_listOf rfl (G.fr _ (by decide +kernel)) boot_list (a_cons (e_var (pv 0)) (a_nil)))) (gl_name (pg_name sc_told_bare.nd rfl (by first | exact .inl rfl | exact .inr rfl))))
    (b_cons (s_while 1000000 PassesOwn.never (PW.pt (w_and (t_cmp (op_neD hr.units) g_ne (e_var (pv 1)) (e_lst (a_nil)) (nomark _)) (pw_and1 (t_cmp (op_eqD hr.units) g_eq (e_ix ix_seq g_ix (e_var (pv 1)) (e_neg (e_const pe_int fun _ _ => .int _)) (fun _ _ => rfl)) (e_const pe_int fun _ _ => .int _) (nomark _))))) (b_cons (s_expr (e_mut0 PySem.F.slot_list_pop PySem.F.type_list_pop mt_pop m_pop (e_var (pv 1))))
    (b_nil)))
    (b_cons (s_ret (e_var (pv 1)))
    (b_nil)))
/-! jump_polynomial -/
def b_jump_polynomial : FS := fSeq (fExpr (fCall f_look_at_order (aCons (fV 0) (aNil)))) (fSeq (fIfS (f1 gNot (fCall f_is_int (aCons (fV 1) (aCons (fC (.int 1)) (aCons (fC c_MOST_OUTER) (aNil)))))) (fSeq (fNever) (fNxt)) (fNxt)) (fSeq (fAsg (gN 2) (fCell (fCall f_told_rest_power (aCons (f2 gAdd (fV 0) (fC (.int 1))) (aCons (fV 1) (aNil)))))) (fSeq (fAugS (gInt fun i j => some (.int (i + j))) (fV 2) (f1 gNeg (fC (.int 1))) (fV 1)) (fSeq (fRet (fN gTupOf (aCons (fComp (fIt (fCall f_told_bare (aCons (fV 2) (aNil))) kSeq) (gN 3) (fYes) (fN gTup (aCons (fV 3) (aCons (fC (.int 1)) (aNil)))) [3]) (aNil)))) (fNxt)))))
def f_jump_polynomial : FF := mkFn 2 4 b_jump_polynomial
abbrev N_jump_polynomial : List Str := ["order", "many", "found", "one"]
theorem sc_jump_polynomial : FnScope N_jump_polynomial ["order", "many"] (defScope (topS 124)) := ⟨rfl, rfl, rfl, by decide +kernel, rfl, by decide +kernel, by decide +kernel⟩
theorem ok_jump_polynomial (hX : XAok XA) (G : Tops K mg) : Fn P w K mg base XA "jump_polynomial" ["order", "many"] 3 f_jump_polynomial := by
  obtain ⟨f, fd, F, hm⟩ := (G.fd "jump_polynomial" 124 (by decide +kernel)).ex
  refine ⟨f, fd, hm, F.kp, F.bindsN (fun _ _ _ _ _ _ us hl => match us, hl with | [_, _], _ => rfl), fn_ok hX F sc_jump_polynomial fun cdv A outer s H E hr => PSs.nox ?_⟩
  exact b_cons (s_expr (e_fn (ok_look_at_order hX G) hr (by decide) rfl (a_cons (e_var (pv 0)) (a_nil)) (by decide)))
    (b_cons (s_ifs (t_not (t_val (e_fn (ok_is_int hX G) hr (by decide) rfl (a_cons (e_var (pv 1)) (a_cons (e_const pe_int fun _ _ => .int _) (a_cons (e_gc (G.c_MOST_OUTER) rfl) (a_nil)))) (by decide)))) (b_cons (s_never)
    (b_nil)) (b_nil))
    (b_cons (s_asg (e_cell (e_fn (ok_told_rest_power hX G) hr (by decide) rfl (a_cons (e_bin op_addA g_add (e_var (pv 0)) (e_const pe_int fun _ _ => .int _)) (a_cons (e_var (pv 1)) (a_nil))) (by decide))) (gl_name (pg_name sc_jump_polynomial.nd rfl (by first | exact .inl rfl | exact .inr rfl))))
    (b_cons (s_augS (e_var (pv 2)) (e_neg (e_const pe_int fun _ _ => .int _)) (e_var (pv 1)) iop_add g_addI)
    (b_cons (s_ret (e_callTy call_tuple_of g_tupOf rfl (G.fr _ (by decide +kernel)) boot_tuple (a_cons (e_comp (own := [("one", 3)]) rfl sc_jump_polynomial.nd (i_seq (e_fn (ok_told_bare hX G) hr (by decide) rfl (a_cons (e_var (pv 2)) (a_nil)) (by decide))) (show BlkOk N_jump_polynomial (defScope (topS 124)) _ [("one", 3)] from ⟨rfl, by decide +kernel, by decide +kernel, by decide +kernel, by decide +kernel⟩) (gb_name fun _ _ _ _ _ => pg_name sc_jump_polynomial.nd rfl (by first | exact .inl rfl | exact .inr rfl)).ex (by decide) (fun _ _ _ _ _ => ts_nil) (fun _ _ _ _ _ => e_tup (a_cons (e_var (pv 3)) (a_cons (e_const pe_int fun _ _ => .int _) (a_nil))))) (a_nil))))
    (b_nil)))))
/-! told_ints -/
def b_told_ints : FS := fSeq (fAsg (gN 1) (fC (.int 1))) (fSeq (fFor (fIt (fV 0) kSeq) (gN 2) (fSeq (fAsg (gN 1) (f2 gMul (f2 (gInt kDiv) (fV 1) (fCall q_told_divisor (aCons (fV 1) (aCons (f2 gIx (fV 2) (fC (.int 1))) (aNil))))) (f2 gIx (fV 2) (fC (.int 1))))) (fNxt))) (fSeq (fAsg (gN 3) (fComp (fIt (fV 0) kSeq) (gN 2) (fYes) (f2 gMul (f2 gIx (fV 2) (fC (.int 0))) (f2 (gInt kDiv) (fV 1) (f2 gIx (fV 2) (fC (.int 1))))) [2])) (fSeq (fAsg (gN 4) (fC (.int 0))) (fSeq (fFor (fIt (fV 3) kSeq) (gN 5) (fSeq (fAsg (gN 4) (fCall q_told_divisor (aCons (fV 4) (aCons (fV 5) (aNil))))) (fNxt))) (fSeq (fRet (fComp (fIt (fV 3) kSeq) (gN 5) (fYes) (f2 (gInt kDiv) (fV 5) (fV 4)) [5])) (fNxt))))))
def f_told_ints : FF := mkFn 1 6 b_told_ints
abbrev N_told_ints : List Str := ["polynomial", "bottom", "part", "found", "shared", "one"]
theorem sc_told_ints : FnScope N_told_ints ["polynomial"] (defScope (topS 126)) := ⟨rfl, rfl, rfl, by decide +kernel, rfl, by decide +kernel, by decide +kernel⟩
theorem ok_told_ints (hX : XAok XA) (G : Tops K mg) : Fn P w K mg base XA "told_ints" ["polynomial"] 2 f_told_ints := by
  obtain ⟨f, fd, F, hm⟩ := (G.fd "told_ints" 126 (by decide +kernel)).ex
  refine ⟨f, fd, hm, F.kp, F.bindsN (fun _ _ _ _ _ _ us hl => match us, hl with | [_], _ => rfl), fn_ok hX F sc_told_ints fun cdv A outer s H E hr => PSs.nox ?_⟩
  exact b_cons (s_asg (e_const pe_int fun _ _ => .int _) (gl_name (pg_name sc_told_ints.nd rfl (by first | exact .inl rfl | exact .inr rfl))))
    (b_cons (s_for PassesOwn.never rfl (i_seq (e_var (pv 0))) (gl_name (pg_name sc_told_ints.nd rfl (by first | exact .inl rfl | exact .inr rfl))) (b_cons (s_asg (e_bin op_mulA g_mul (e_bin op_fdivZ g_div (e_var (pv 1)) (e_fn (ok_q_told_divisor hX G) hr (by decide) rfl (a_cons (e_var (pv 1)) (a_cons (e_ix ix_seq g_ix (e_var (pv 2)) (e_const pe_int fun _ _ => .int _) (fun _ _ => rfl)) (a_nil))) (by decide))) (e_ix ix_seq g_ix (e_var (pv 2)) (e_const pe_int fun _ _ => .int _) (fun _ _ => rfl))) (gl_name (pg_name sc_told_ints.nd rfl (by first | exact .inl rfl | exact .inr rfl))))
    (b_nil)))
    (b_cons (s_comp (own := [("part", 2)]) rfl sc_told_ints.nd rfl rfl (sw_true rfl rfl rfl rfl) (i_seq (e_var (pv 0))) (show BlkOk N_told_ints (defScope (topS 126)) _ [("part", 2)] from ⟨rfl, by decide +kernel, by decide +kernel, by decide +kernel, by decide +kernel⟩) (gb_name fun _ _ _ _ _ => pg_name sc_told_ints.nd rfl (by first | exact .inl rfl | exact .inr rfl)).ex (by decide) (fun _ _ _ _ _ => ts_nil) (fun _ _ _ _ _ => e_bin op_mulA g_mul (e_ix ix_seq g_ix (e_var (pv 2)) (e_const pe_int fun _ _ => .int _) (fun _ _ => rfl)) (e_bin op_fdivZ g_div (e_var (pv 1)) (e_ix ix_seq g_ix (e_var (pv 2)) (e_const pe_int fun _ _ => .int _) (fun _ _ => rfl)))))
    (b_cons (s_asg (e_const pe_int fun _ _ => .int _) (gl_name (pg_name sc_told_ints.nd rfl (by first | exact .inl rfl | exact .inr rfl))))
    (b_cons (s_for PassesOwn.never rfl (i_seq (e_var (pv 3))) (gl_name (pg_name sc_told_ints.nd rfl (by first | exact .inl rfl | exact .inr rfl))) (b_cons (s_asg (e_fn (ok_q_told_divisor hX G) hr (by decide) rfl (a_cons (e_var (pv 4)) (a_cons (e_var (pv 5)) (a_nil))) (by decide)) (gl_name (pg_name sc_told_ints.nd rfl (by first | exact .inl rfl | exact .inr rfl))))
    (b_nil)))
    (b_cons (s_ret (e_comp (own := [("one", 5)]) rfl sc_told_ints.nd (i_seq (e_var (pv 3))) (show BlkOk N_told_ints (defScope (topS 126)) _ [("one", 5)] from ⟨rfl, by decide +kernel, by decide +kernel, by decide +kernel, by decide +kernel⟩) (gb_name fun _ _ _ _ _ => pg_name sc_told_ints.nd rfl (by first | exact .inl rfl | exact .inr rfl)).ex (by decide) (fun _ _ _ _ _ => ts_nil) (fun _ _ _ _ _ => e_bin op_fdivZ g_div (e_var (pv 5)) (e_var (pv 4)))))
    (b_nil))))))
/-! told_divisors -/
def b_told_divisors : FS := fSeq (fPar 1 2 (fCell (fN gLst (aNil))) (fC (.int 1))) (fSeq (fWhile 1000000 (f2 (gInt kLe) (f2 gMul (fV 2) (fV 2)) (fN gAbs (aCons (fV 0) (aNil)))) (fSeq (fIfS (f2 gEq (f2 (gInt kMod) (fV 0) (fV 2)) (fC (.int 0))) (fSeq (fExpr (fMut mExtend (fV 1) (aCons (fIf (f2 gEq (f2 gMul (fV 2) (fV 2)) (fN gAbs (aCons (fV 0) (aNil)))) (fN gLst (aCons (fV 2) (aNil))) (fN gLst (aCons (fV 2) (aCons (f2 (gInt kDiv) (fN gAbs (aCons (fV 0) (aNil))) (fV 2)) (aNil))))) (aNil)))) (fNxt)) (fNxt)) (fSeq (fAug 2 (gInt fun i j => some (.int (i + j))) (fC (.int 1))) (fNxt)))) (fSeq (fRet (fN gSorted (aCons (fV 1) (aNil)))) (fNxt)))
def f_told_divisors : FF := mkFn 1 3 b_told_divisors
abbrev N_told_divisors : List Str := ["number", "found", "part"]
theorem sc_told_divisors : FnScope N_told_divisors ["number"] (defScope (topS 127)) := ⟨rfl, rfl, rfl, by decide +kernel, rfl, by decide +kernel, by decide +kernel⟩
theorem ok_told_divisors (hX : XAok XA) (G : Tops K mg) : Fn P w K mg base XA "told_divisors" ["number"] 1 f_told_divisors := by
  obtain ⟨f, fd, F, hm⟩ := (G.fd "told_divisors" 127 (by decide +kernel)).ex
  refine ⟨f, fd, hm, F.kp, F.bindsN (fun _ _ _ _ _ _ us hl => match us, hl with | [_], _ => rfl), fn_ok hX F sc_told_divisors fun cdv A outer s H E hr => PSs.nox ?_⟩
  exact b_cons (s_par (i := 1) (j := 2) (fun ta h => ps_par rfl sc_told_divisors.nd rfl rfl (by decide) rfl rfl h rfl) (e_cell (e_lst (a_nil))) (e_const pe_int fun _ _ => .int _))
    (b_cons (s_while 1000000 PassesOwn.never (t_cmp op_le g_le (e_bin op_mulA g_mul (e_var (pv 2)) (e_var (pv 2))) (e_callB call_abs g_abs rfl (G.fr _ (by decide +kernel)) boot_abs (a_cons (e_var (pv 0)) (a_nil))) (nomark _)) (b_cons (s_ifs (t_cmp (op_eqD hr.units) g_eq (e_bin op_mod g_mod (e_var (pv 0)) (e_var (pv 2))) (e_const pe_int fun _ _ => .int _) (nomark _)) (b_cons (s_expr (e_mut PySem.F.slot_list_extend PySem.F.type_list_extend mt_extend m_extend (e_var (pv 1)) (a_cons (e_if (t_cmp (op_eqD hr.units) g_eq (e_bin op_mulA g_mul (e_var (pv 2)) (e_var (pv 2))) (e_callB call_abs g_abs rfl (G.fr _ (by decide +kernel)) boot_abs (a_cons (e_var (pv 0)) (a_nil))) (nomark _)) (e_lst (a_cons (e_var (pv 2)) (a_nil))) (e_lst (a_cons (e_var (pv 2)) (a_cons (e_bin op_fdivZ g_div (e_callB call_abs g_abs rfl (G.fr _ (by decide +kernel)) boot_abs (a_cons (e_var (pv 0)) (a_nil))) (e_var (pv 2))) (a_nil))))) (a_nil))))
    (b_nil)) (b_nil))
    (b_cons (s_aug (i := 2) sc_told_divisors.nd rfl (by first | exact .inl rfl | exact .inr rfl) (e_const pe_int fun _ _ => .int _) iop_add g_addI)
    (b_nil))))
    (b_cons (s_ret (e_callB (cr_sortD hr.units) g_sorted rfl (G.fr _ (by decide +kernel)) boot_sorted (a_cons (e_var (pv 1)) (a_nil))))
    (b_nil)))
/-! told_rising -/
def b_told_rising : FS := fSeq (fAsg (gN 1) (fCell (fN gLst (aNil)))) (fSeq (fFor (fIt (fV 0) kSeq) (gN 2) (fSeq (fPar 3 4 (fC (.int 0)) (fN gLen (aCons (fV 1) (aNil)))) (fSeq (fWhile 1000000 (f2 (gInt kLt) (fV 3) (fV 4)) (fSeq (fAsg (gN 5) (f2 (gInt kDiv) (f2 gAdd (fV 3) (fV 4)) (fC (.int 2)))) (fSeq (fIfS (f2 (gInt kLt) (f2 gMul (f2 gIx (f2 gIx (fV 1) (fV 5)) (fC (.int 0))) (f2 gIx (fV 2) (fC (.int 1)))) (f2 gMul (f2 gIx (fV 2) (fC (.int 0))) (f2 gIx (f2 gIx (fV 1) (fV 5)) (fC (.int 1))))) (fSeq (fAsg (gN 3) (f2 gAdd (fV 5) (fC (.int 1)))) (fNxt)) (fSeq (fAsg (gN 4) (fV 5)) (fNxt))) (fNxt)))) (fSeq (fExpr (fMut mInsert (fV 1) (aCons (fV 3) (aCons (fV 2) (aNil))))) (fNxt))))) (fSeq (fRet (fV 1)) (fNxt)))
def f_told_rising : FF := mkFn 1 6 b_told_rising
abbrev N_told_rising : List Str := ["some", "found", "one", "low", "high", "middle"]
theorem sc_told_rising : FnScope N_told_rising ["some"] (defScope (topS 129)) := ⟨rfl, rfl, rfl, by decide +kernel, rfl, by decide +kernel, by decide +kernel⟩
theorem ok_told_rising (hX : XAok XA) (G : Tops K mg) : Fn P w K mg base XA "told_rising" ["some"] 1 f_told_rising := by
  obtain ⟨f, fd, F, hm⟩ := (G.fd "told_rising" 129 (by decide +kernel)).ex
  refine ⟨f, fd, hm, F.kp, F.bindsN (fun _ _ _ _ _ _ us hl => match us, hl with | [_], _ => rfl), fn_ok hX F sc_told_rising fun cdv A outer s H E hr => PSs.nox ?_⟩
  exact b_cons (s_asg (e_cell (e_lst (a_nil))) (gl_name (pg_name sc_told_rising.nd rfl (by first | exact .inl rfl | exact .inr rfl))))
    (b_cons (s_for PassesOwn.never rfl (i_seq (e_var (pv 0))) (gl_name (pg_name sc_told_rising.nd rfl (by first | exact .inl rfl | exact .inr rfl))) (b_cons (s_par (i := 3) (j := 4) (fun ta h => ps_par rfl sc_told_rising.nd rfl rfl (by decide) rfl rfl h rfl) (e_const pe_int fun _ _ => .int _) (e_callB call_len g_len rfl (G.fr _ (by decide +kernel)) boot_len (a_cons (e_var (pv 1)) (a_nil))))
    (b_cons (s_while 1000000 PassesOwn.never (t_cmp op_lt g_lt (e_var (pv 3)) (e_var (pv 4)) (nomark _)) (b_cons (s_asg (e_bin op_fdivZ g_div (e_bin op_addA g_add (e_var (pv 3)) (e_var (pv 4))) (e_const pe_int fun _ _ => .int _)) (gl_name (pg_name sc_told_rising.nd rfl (by first | exact .inl rfl | exact .inr rfl))))
    (b_cons (s_ifs (t_cmp op_lt g_lt (e_bin op_mulA g_mul (e_ix ix_seq g_ix (e_ix ix_seq g_ix (e_var (pv 1)) (e_var (pv 5)) (fun _ _ => rfl)) (e_const pe_int fun _ _ => .int _) (fun _ _ => rfl)) (e_ix ix_seq g_ix (e_var (pv 2)) (e_const pe_int fun _ _ => .int _) (fun _ _ => rfl))) (e_bin op_mulA g_mul (e_ix ix_seq g_ix (e_var (pv 2)) (e_const pe_int fun _ _ => .int _) (fun _ _ => rfl)) (e_ix ix_seq g_ix (e_ix ix_seq g_ix (e_var (pv 1)) (e_var (pv 5)) (fun _ _ => rfl)) (e_const pe_int fun _ _ => .int _) (fun _ _ => rfl))) (nomark _)) (b_cons (s_asg (e_bin op_addA g_add (e_var (pv 5)) (e_const pe_int fun _ _ => .int _)) (gl_name (pg_name sc_told_rising.nd rfl (by first | exact .inl rfl | exact .inr rfl))))
    (b_nil)) (b_cons (s_asg (e_var (pv 5)) (gl_name (pg_name sc_told_rising.nd rfl (by first | exact .inl rfl | exact .inr rfl))))
    (b_nil)))
    (b_nil))))
    (b_cons (s_expr (e_mut PySem.F.slot_list_insert PySem.F.type_list_insert mt_insert m_insert (e_var (pv 1)) (a_cons (e_var (pv 3)) (a_cons (e_var (pv 2)) (a_nil)))))
    (b_nil)))))
    (b_cons (s_ret (e_var (pv 1)))
    (b_nil)))
/-! look_at_rooted -/
def b_look_at_rooted : FS := fSeq (fExpr (fCall f_look_at_polynomial (aCons (fV 0) (aNil)))) (fSeq (fIfS (f2 gEq (fV 0) (fN gTup (aNil))) (fSeq (fNever) (fNxt)) (fNxt)) (fNxt))
def f_look_at_rooted : FF := mkFn 1 1 b_look_at_rooted
abbrev N_look_at_rooted : List Str := ["polynomial"]
theorem sc_look_at_rooted : FnScope N_look_at_rooted ["polynomial"] (defScope (topS 130)) := ⟨rfl, rfl, rfl, by decide +kernel, rfl, by decide +kernel, by decide +kernel⟩
theorem ok_look_at_rooted (hX : XAok XA) (G : Tops K mg) : Fn P w K mg base XA "look_at_rooted" ["polynomial"] 7 f_look_at_rooted := by
  obtain ⟨f, fd, F, hm⟩ := (G.fd "look_at_rooted" 130 (by decide +kernel)).ex
  refine ⟨f, fd, hm, F.kp, F.bindsN (fun _ _ _ _ _ _ us hl => match us, hl with | [_], _ => rfl), fn_ok hX F sc_look_at_rooted fun cdv A outer s H E hr => PSs.nox ?_⟩
  exact b_cons (s_expr (e_fn (ok_look_at_polynomial hX G) hr (by decide) rfl (a_cons (e_var (pv 0)) (a_nil)) (by decide)))
    (b_cons (s_ifs (t_cmp (op_eqD hr.units) g_eq (e_var (pv 0)) (e_tup (a_nil)) (nomark _)) (b_cons (s_never)
    (b_nil)) (b_nil))
    (b_nil))
/-! turned_between -/
def b_turned_between : FS := fSeq (fExpr (fCall f_look_at_polynomial (aCons (fV 0) (aNil)))) (fSeq (fFor (fIt (fN gTup (aCons (fV 1) (aCons (fV 2) (aNil)))) kSeq) (gN 4) (fSeq (fIfS (f1 gNot (fCall f_is_fraction (aCons (fV 4) (aNil)))) (fSeq (fNever) (fNxt)) (fNxt)) (fNxt))) (fSeq (fIfS (f1 gNot (fCall f_is_int (aCons (fV 3) (aCons (fC (.int 0)) (aCons (fC c_MOST_HALVES) (aNil)))))) (fSeq (fNever) (fNxt)) (fNxt)) (fSeq (fAsg (gN 5) (fComp (fIt (fN gTup (aCons (fV 1) (aCons (fV 2) (aNil)))) kSeq) (gN 4) (fYes) (fCall f_told_sign (aCons (fCall f_poly_value (aCons (fV 0) (aCons (fV 4) (aNil)))) (aNil))) [4])) (fSeq (fIfS (fOr (f2 (gInt kGe) (f2 gMul (f2 gIx (fV 1) (fC (.int 0))) (f2 gIx (fV 2) (fC (.int 1)))) (f2 gMul (f2 gIx (fV 2) (fC (.int 0))) (f2 gIx (fV 1) (fC (.int 1))))) (f2 gNe (f2 gMul (f2 gIx (fV 5) (fC (.int 0))) (f2 gIx (fV 5) (fC (.int 1)))) (f1 gNeg (fC (.int 1))))) (fSeq (fNever) (fNxt)) (fNxt)) (fSeq (fFor (fItA (aCons (fV 3) (aNil)) kR1) (gN 6) (fSeq (fAsg (gN 7) (fCall q_times (aCons (fCall q_plus (aCons (fV 1) (aCons (fV 2) (aNil)))) (aCons (fN gTup (aCons (fC (.int 1)) (aCons (fC (.int 2)) (aNil)))) (aNil))))) (fSeq (fAsg (gN 8) (fCall f_told_sign (aCons (fCall f_poly_value (aCons (fV 0) (aCons (fV 7) (aNil)))) (aNil)))) (fSeq (fIfS (f2 gEq (fV 8) (fC (.int 0))) (fSeq (fRet (fN gTup (aCons (fV 7) (aCons (fV 7) (aNil))))) (fNxt)) (fNxt)) (fSeq (fAsg (gT 2 (gsC (gN 1) (gsC (gN 2) (gsN)))) (fIf (f2 gEq (fV 8) (f2 gIx (fV 5) (fC (.int 0)))) (fN gTup (aCons (fV 7) (aCons (fV 2) (aNil)))) (fN gTup (aCons (fV 1) (aCons (fV 7) (aNil)))))) (fNxt)))))) (fSeq (fRet (fN gTup (aCons (fV 1) (aCons (fV 2) (aNil))))) (fNxt)))))))
def f_turned_between : FF := mkFn 4 9 b_turned_between
abbrev N_turned_between : List Str := ["polynomial", "low", "high", "many", "number", "signs", "lap", "middle", "sign"]
theorem sc_turned_between : FnScope N_turned_between ["polynomial", "low", "high", "many"] (defScope (topS 133)) := ⟨rfl, rfl, rfl, by decide +kernel, rfl, by decide +kernel, by decide +kernel⟩
theorem ok_turned_between (hX : XAok XA) (G : Tops K mg) : Fn P w K mg base XA "turned_between" ["polynomial", "low", "high", "many"] 7 f_turned_between := by
  obtain ⟨f, fd, F, hm⟩ := (G.fd "turned_between" 133 (by decide +kernel)).ex
  refine ⟨f, fd, hm, F.kp, F.bindsN (fun _ _ _ _ _ _ us hl => match us, hl with | [_, _, _, _], _ => rfl), fn_ok hX F sc_turned_between fun cdv A outer s H E hr => PSs.nox ?_⟩
  exact b_cons (s_expr (e_fn (ok_look_at_polynomial hX G) hr (by decide) rfl (a_cons (e_var (pv 0)) (a_nil)) (by decide)))
    (b_cons (s_for PassesOwn.never rfl (i_seq (e_tup (a_cons (e_var (pv 1)) (a_cons (e_var (pv 2)) (a_nil))))) (gl_name (pg_name sc_turned_between.nd rfl (by first | exact .inl rfl | exact .inr rfl))) (b_cons (s_ifs (t_not (t_val (e_fn (ok_is_fraction hX G) hr (by decide) rfl (a_cons (e_var (pv 4)) (a_nil)) (by decide)))) (b_cons (s_never)
    (b_nil)) (b_nil))
    (b_nil)))
    (b_cons (s_ifs (t_not (t_val (e_fn (ok_is_int hX G) hr (by decide) rfl (a_cons (e_var (pv 3)) (a_cons (e_const pe_int fun _ _ => .int _) (a_cons (e_gc (G.c_MOST_HALVES) rfl) (a_nil)))) (by decide)))) (b_cons (s_never)
    (b_nil)) (b_nil))
    (b_cons (s_comp (own := [("number", 4)]) rfl sc_turned_between.nd rfl rfl (sw_true rfl rfl rfl rfl) (i_seq (e_tup (a_cons (e_var (pv 1)) (a_cons (e_var (pv 2)) (a_nil))))) (show BlkOk N_turned_between (defScope (topS 133)) _ [("number", 4)] from ⟨rfl, by decide +kernel, by decide +kernel, by decide +kernel, by decide +kernel⟩) (gb_name fun _ _ _ _ _ => pg_name sc_turned_between.nd rfl (by first | exact .inl rfl | exact .inr rfl)).ex (by decide) (fun _ _ _ _ _ => ts_nil) (fun _ _ _ _ _ => e_fn (ok_told_sign hX G) hr (by decide) rfl (a_cons (e_fn (ok_poly_value hX G) hr (by decide) rfl (a_cons (e_var (pv 0)) (a_cons (e_var (pv 4)) (a_nil))) (by decide)) (a_nil)) (by decide)))
    (b_cons (s_ifs (PW.pt (w_or (t_cmp op_ge g_ge (e_bin op_mulA g_mul (e_ix ix_seq g_ix (e_var (pv 1)) (e_const pe_int fun _ _ => .int _) (fun _ _ => rfl)) (e_ix ix_seq g_ix (e_var (pv 2)) (e_const pe_int fun _ _ => .int _) (fun _ _ => rfl))) (e_bin op_mulA g_mul (e_ix ix_seq g_ix (e_var (pv 2)) (e_const pe_int fun _ _ => .int _) (fun _ _ => rfl)) (e_ix ix_seq g_ix (e_var (pv 1)) (e_const pe_int fun _ _ => .int _) (fun _ _ => rfl))) (nomark _)) (pw_or1 (t_cmp (op_neD hr.units) g_ne (e_bin op_mulA g_mul (e_ix ix_seq g_ix (e_var (pv 5)) (e_const pe_int fun _ _ => .int _) (fun _ _ => rfl)) (e_ix ix_seq g_ix (e_var (pv 5)) (e_const pe_int fun _ _ => .int _) (fun _ _ => rfl))) (e_neg (e_const pe_int fun _ _ => .int _)) (nomark _))))) (b_cons (s_never)
    (b_nil)) (b_nil))
    (b_cons (s_for PassesOwn.never rfl (i_rng1 rfl (G.fr _ (by decide +kernel)) (a_cons (e_var (pv 3)) (a_nil))) (gl_name (pg_name sc_turned_between.nd rfl (by first | exact .inl rfl | exact .inr rfl))) (b_cons (s_asg (e_fn (ok_q_times hX G) hr (by decide) rfl (a_cons (e_fn (ok_q_plus hX G) hr (by decide) rfl (a_cons (e_var (pv 1)) (a_cons (e_var (pv 2)) (a_nil))) (by decide)) (a_cons (e_tup (a_cons (e_const pe_int fun _ _ => .int _) (a_cons (e_const pe_int fun _ _ => .int _) (a_nil)))) (a_nil))) (by decide)) (gl_name (pg_name sc_turned_between.nd rfl (by first | exact .inl rfl | exact .inr rfl))))
    (b_cons (s_asg (e_fn (ok_told_sign hX G) hr (by decide) rfl (a_cons (e_fn (ok_poly_value hX G) hr (by decide) rfl (a_cons (e_var (pv 0)) (a_cons (e_var (pv 7)) (a_nil))) (by decide)) (a_nil)) (by decide)) (gl_name (pg_name sc_turned_between.nd rfl (by first | exact .inl rfl | exact .inr rfl))))
    (b_cons (s_ifs (t_cmp (op_eqD hr.units) g_eq (e_var (pv 8)) (e_const pe_int fun _ _ => .int _) (nomark _)) (b_cons (s_ret (e_tup (a_cons (e_var (pv 7)) (a_cons (e_var (pv 7)) (a_nil)))))
    (b_nil)) (b_nil))
    (b_cons (s_asg (e_if (t_cmp (op_eqD hr.units) g_eq (e_var (pv 8)) (e_ix ix_seq g_ix (e_var (pv 5)) (e_const pe_int fun _ _ => .int _) (fun _ _ => rfl)) (nomark _)) (e_tup (a_cons (e_var (pv 7)) (a_cons (e_var (pv 2)) (a_nil)))) (e_tup (a_cons (e_var (pv 1)) (a_cons (e_var (pv 7)) (a_nil))))) (gl_tup rfl (gls_cons (gl_name (pg_name sc_turned_between.nd rfl (by first | exact .inl rfl | exact .inr rfl))) (gls_cons (gl_name (pg_name sc_turned_between.nd rfl (by first | exact .inl rfl | exact .inr rfl))) (gls_nil)))))
    (b_nil))))))
    (b_cons (s_ret (e_tup (a_cons (e_var (pv 1)) (a_cons (e_var (pv 2)) (a_nil)))))
    (b_nil)))))))
/-! _law_pot -/
def b_law_pot : FS := fSeq (fAsg (gN 2) (fIf (f2 (gInt kLt) (fV 1) (fN gLen (aCons (fV 0) (aNil)))) (f2 gIx (fV 0) (fV 1)) (f2 gAdd (f2 gAdd (f2 (gInt kMod) (fN gIntOf (aCons (fN gSum (aCons (fSl (fV 0) none (some (fC (.int 1)))) (aNil))) (aNil))) (fC (.int 1000381))) (f2 gMul (fC (.int 5077)) (fV 1))) (fC (.int 3121))))) (fSeq (fAsg (gN 3) (f2 gMul (f2 (gInt kMod) (fN gIntOf (aCons (fN gAbs (aCons (fV 2) (aNil))) (aNil))) (f2 (gInt kPowW) (f2 (gInt kPowW) (fC (.int 10)) (fC (.int 60))) (fC (.int 5)))) (fN gIntOf (aCons (f2 (gInt kGe) (fN gAbs (aCons (fV 2) (aNil))) (f2 (gInt kPowW) (fC (.int 10)) (fC (.int 18)))) (aNil))))) (fSeq (fAsg (gN 4) (f2 (gInt kMod) (fN gIntOf (aCons (fV 2) (aNil))) (fC (.int 2305843009213693921)))) (fSeq (fRet (fN gLst (aCons (fV 3) (aCons (f2 (gInt kMod) (fN gIntOf (aCons (f2 gAdd (f2 gAdd (f2 gMul (fV 4) (fC (.int 70207))) (f2 gMul (f2 gMul (fC (.int 13099)) (fV 1)) (fV 1))) (fC (.int 2957))) (aNil))) (fC (.int 2305843009213693921))) (aCons (fC (.int 0)) (aNil)))))) (fNxt))))
def f_law_pot : FF := mkFn 2 5 b_law_pot
abbrev N_law_pot : List Str := ["script", "place", "cell", "own", "small"]
theorem sc_law_pot : FnScope N_law_pot ["script", "place"] (defScope (topS 135)) := ⟨rfl, rfl, rfl, by decide +kernel, rfl, by decide +kernel, by decide +kernel⟩
theorem ok_law_pot (hX : XAok XA) (G : Tops K mg) : Fn P w K mg base XA "_law_pot" ["script", "place"] 1 f_law_pot := by
  obtain ⟨f, fd, F, hm⟩ := (G.fd "_law_pot" 135 (by decide +kernel)).ex
  refine ⟨f, fd, hm, F.kp, F.bindsN (fun _ _ _ _ _ _ us hl => match us, hl with | [_, _], _ => rfl), fn_ok hX F sc_law_pot fun cdv A outer s H E hr => PSs.nox ?_⟩
  exact b_cons (s_asg (e_if (t_cmp op_lt g_lt (e_var (pv 1)) (e_callB call_len g_len rfl (G.fr _ (by decide +kernel)) boot_len (a_cons (e_var (pv 0)) (a_nil))) (nomark _)) (e_ix ix_seq g_ix (e_var (pv 0)) (e_var (pv 1)) (fun _ _ => rfl)) (e_bin op_addA g_add (e_bin op_addA g_add (e_bin op_mod g_mod (e_callTy call_int1 g_intOf rfl (G.fr _ (by decide +kernel)) boot_int (a_cons (e_callB (cr_sum rfl) g_sum rfl (G.fr _ (by decide +kernel)) boot_sum (a_cons (e_sl (e_var (pv 0)) o_none (o_some (e_const pe_int fun _ _ => .int _))) (a_nil))) (a_nil))) (e_const pe_int fun _ _ => .int _)) (e_bin op_mulA g_mul (e_const pe_int fun _ _ => .int _) (e_var (pv 1)))) (e_const pe_int fun _ _ => .int _))) (gl_name (pg_name sc_law_pot.nd rfl (by first | exact .inl rfl | exact .inr rfl))))
    (b_cons (s_asg (e_bin op_mulA g_mul (e_bin op_mod g_mod (e_callTy call_int1 g_intOf rfl (G.fr _ (by decide +kernel)) boot_int (a_cons (e_callB call_abs g_abs rfl (G.fr _ (by decide +kernel)) boot_abs (a_cons (e_var (pv 2)) (a_nil))) (a_nil))) (e_bin op_powW g_powW (e_bin op_powW g_powW (e_const pe_int fun _ _ => .int _) (e_const pe_int fun _ _ => .int _)) (e_const pe_int fun _ _ => .int _))) (e_callTy call_int1 g_intOf rfl (G.fr _ (by decide +kernel)) boot_int (a_cons (e_cmp op_ge g_ge (e_callB call_abs g_abs rfl (G.fr _ (by decide +kernel)) boot_abs (a_cons (e_var (pv 2)) (a_nil))) (e_bin op_powW g_powW (e_const pe_int fun _ _ => .int _) (e_const pe_int fun _ _ => .int _)) (nomark _)) (a_nil)))) (gl_name (pg_name sc_law_pot.nd rfl (by first | exact .inl rfl | exact .inr rfl))))
    (b_cons (s_asg (e_bin op_mod g_mod (e_callTy call_int1 g_intOf rfl (G.fr _ (by decide +kernel)) boot_int (a_cons (e_var (pv 2)) (a_nil))) (e_const pe_int fun _ _ => .int _)) (gl_name (pg_name sc_law_pot.nd rfl (by first | exact .inl rfl | exact .inr rfl))))
    (b_cons (s_ret (e_lst (a_cons (e_var (pv 3)) (a_cons (e_bin op_mod g_mod (e_callTy call_int1 g_intOf rfl (G.fr _ (by decide +kernel)) boot_int (a_cons (e_bin op_addA g_add (e_bin op_addA g_add (e_bin op_mulA g_mul (e_var (pv 4)) (e_const pe_int fun _ _ => .int _)) (e_bin op_mulA g_mul (e_bin op_mulA g_mul (e_const pe_int fun _ _ => .int _) (e_var (pv 1))) (e_var (pv 1)))) (e_const pe_int fun _ _ => .int _)) (a_nil))) (e_const pe_int fun _ _ => .int _)) (a_cons (e_const pe_int fun _ _ => .int _) (a_nil))))))
    (b_nil))))
/-! _law_take -/
def b_law_take : FS := fSeq (fIfS (f2 (gInt kGt) (f2 gIx (fV 0) (fC (.int 0))) (fC (.int 0))) (fSeq (fAsg (gN 4) (f2 (gInt kMod) (fN gIntOf (aCons (f2 gIx (fV 0) (fC (.int 0))) (aNil))) (fV 1))) (fSeq (fPut setL (fV 0) (fC (.int 0)) (f2 (gInt kDiv) (f2 gIx (fV 0) (fC (.int 0))) (fV 1))) (fSeq (fRet (fV 4)) (fNxt)))) (fNxt)) (fSeq (fPut setL (fV 0) (fC (.int 2)) (f2 gAdd (f2 gIx (fV 0) (fC (.int 2))) (fC (.int 1)))) (fSeq (fAsg (gN 2) (f2 gIx (fN gLst (aCons (fC (.int 2147483647)) (aCons (fC (.int 2147483629)) (aCons (fC (.int 2147483587)) (aCons (fC (.int 2147483579)) (aCons (fC (.int 2147483563)) (aNil))))))) (f2 (gInt kMod) (fN gIntOf (aCons (f2 gIx (fV 0) (fC (.int 2))) (aNil))) (fC (.int 5))))) (fSeq (fAsg (gN 3) (f2 (gInt kMod) (fN gIntOf (aCons (f2 (gInt kPowW) (fN gIntOf (aCons (f2 gAdd (f2 gAdd (f2 gIx (fV 0) (fC (.int 1))) (f2 gMul (f2 gMul (fC (.int 90007)) (f2 gIx (fV 0) (fC (.int 2)))) (f2 gIx (fV 0) (fC (.int 2))))) (fC (.int 3011))) (aNil))) (fC (.int 3))) (aNil))) (fV 2))) (fSeq (fAsg (gN 3) (f2 (gInt kMod) (fN gIntOf (aCons (f2 gMul (fV 3) (f2 gAdd (f2 (gInt kMod) (fN gIntOf (aCons (fV 3) (aNil))) (fC (.int 13729))) (f2 gMul (fC (.int 433)) (f2 gIx (fV 0) (fC (.int 2)))))) (aNil))) (fC (.int 2305843009213693907)))) (fSeq (fRet (f2 (gInt kMod) (fN gIntOf (aCons (f2 (gInt kDiv) (fV 3) (fC (.int 239))) (aNil))) (fV 1))) (fNxt))))))
def f_law_take : FF := mkFn 2 5 b_law_take
abbrev N_law_take : List Str := ["pot", "upto", "prime", "mixture", "digit"]
theorem sc_law_take : FnScope N_law_take ["pot", "upto"] (defScope (topS 136)) := ⟨rfl, rfl, rfl, by decide +kernel, rfl, by decide +kernel, by decide +kernel⟩
theorem ok_law_take (hX : XAok XA) (G : Tops K mg) : Fn P w K mg base XA "_law_take" ["pot", "upto"] 1 f_law_take := by
  obtain ⟨f, fd, F, hm⟩ := (G.fd "_law_take" 136 (by decide +kernel)).ex
  refine ⟨f, fd, hm, F.kp, F.bindsN (fun _ _ _ _ _ _ us hl => match us, hl with | [_, _], _ => rfl), fn_ok hX F sc_law_take fun cdv A outer s H E hr => PSs.nox ?_⟩
  exact b_cons (s_ifs (t_cmp op_gt g_gt (e_ix ix_seq g_ix (e_var (pv 0)) (e_const pe_int fun _ _ => .int _) (fun _ _ => rfl)) (e_const pe_int fun _ _ => .int _) (nomark _)) (b_cons (s_asg (e_bin op_mod g_mod (e_callTy call_int1 g_intOf rfl (G.fr _ (by decide +kernel)) boot_int (a_cons (e_ix ix_seq g_ix (e_var (pv 0)) (e_const pe_int fun _ _ => .int _) (fun _ _ => rfl)) (a_nil))) (e_var (pv 1))) (gl_name (pg_name sc_law_take.nd rfl (by first | exact .inl rfl | exact .inr rfl))))
    (b_cons (s_setL (e_var (pv 0)) (e_const pe_int fun _ _ => .int _) (e_bin op_fdivZ g_div (e_ix ix_seq g_ix (e_var (pv 0)) (e_const pe_int fun _ _ => .int _) (fun _ _ => rfl)) (e_var (pv 1))))
    (b_cons (s_ret (e_var (pv 4)))
    (b_nil)))) (b_nil))
    (b_cons (s_setL (e_var (pv 0)) (e_const pe_int fun _ _ => .int _) (e_bin op_addA g_add (e_ix ix_seq g_ix (e_var (pv 0)) (e_const pe_int fun _ _ => .int _) (fun _ _ => rfl)) (e_const pe_int fun _ _ => .int _)))
    (b_cons (s_asg (e_ix ix_seq g_ix (e_lst (a_cons (e_const pe_int fun _ _ => .int _) (a_cons (e_const pe_int fun _ _ => .int _) (a_cons (e_const pe_int fun _ _ => .int _) (a_cons (e_const pe_int fun _ _ => .int _) (a_cons (e_const pe_int fun _ _ => .int _) (a_nil))))))) (e_bin op_mod g_mod (e_callTy call_int1 g_intOf rfl (G.fr _ (by decide +kernel)) boot_int (a_cons (e_ix ix_seq g_ix (e_var (pv 0)) (e_const pe_int fun _ _ => .int _) (fun _ _ => rfl)) (a_nil))) (e_const pe_int fun _ _ => .int _)) (fun _ _ => rfl)) (gl_name (pg_name sc_law_take.nd rfl (by first | exact .inl rfl | exact .inr rfl))))
    (b_cons (s_asg (e_bin op_mod g_mod (e_callTy call_int1 g_intOf rfl (G.fr _ (by decide +kernel)) boot_int (a_cons (e_bin op_powW g_powW (e_callTy call_int1 g_intOf rfl (G.fr _ (by decide +kernel)) boot_int (a_cons (e_bin op_addA g_add (e_bin op_addA g_add (e_ix ix_seq g_ix (e_var (pv 0)) (e_const pe_int fun _ _ => .int _) (fun _ _ => rfl)) (e_bin op_mulA g_mul (e_bin op_mulA g_mul (e_const pe_int fun _ _ => .int _) (e_ix ix_seq g_ix (e_var (pv 0)) (e_const pe_int fun _ _ => .int _) (fun _ _ => rfl))) (e_ix ix_seq g_ix (e_var (pv 0)) (e_const pe_int fun _ _ => .int _) (fun _ _ => rfl)))) (e_const pe_int fun _ _ => .int _)) (a_nil))) (e_const pe_int fun _ _ => .int _)) (a_nil))) (e_var (pv 2))) (gl_name (pg_name sc_law_take.nd rfl (by first | exact .inl rfl | exact .inr rfl))))
    (b_cons (s_asg (e_bin op_mod g_mod (e_callTy call_int1 g_intOf rfl (G.fr _ (by decide +kernel)) boot_int (a_cons (e_bin op_mulA g_mul (e_var (pv 3)) (e_bin op_addA g_add (e_bin op_mod g_mod (e_callTy call_int1 g_intOf rfl (G.fr _ (by decide +kernel)) boot_int (a_cons (e_var (pv 3)) (a_nil))) (e_const pe_int fun _ _ => .int _)) (e_bin op_mulA g_mul (e_const pe_int fun _ _ => .int _) (e_ix ix_seq g_ix (e_var (pv 0)) (e_const pe_int fun _ _ => .int _) (fun _ _ => rfl))))) (a_nil))) (e_const pe_int fun _ _ => .int _)) (gl_name (pg_name sc_law_take.nd rfl (by first | exact .inl rfl | exact .inr rfl))))
    (b_cons (s_ret (e_bin op_mod g_mod (e_callTy call_int1 g_intOf rfl (G.fr _ (by decide +kernel)) boot_int (a_cons (e_bin op_fdivZ g_div (e_var (pv 3)) (e_const pe_int fun _ _ => .int _)) (a_nil))) (e_var (pv 1))))
    (b_nil))))))
/-! _law_cells -/
def b_law_cells : FS := fSeq (fRet (f1 gListR (fN gMax (aCons (fC (.int 1)) (aCons (fN gMin (aCons (fV 1) (aCons (fN gLen (aCons (fV 0) (aNil))) (aNil)))) (aNil)))))) (fNxt)
def f_law_cells : FF := mkFn 2 2 b_law_cells
abbrev N_law_cells : List Str := ["script", "most"]
theorem sc_law_cells : FnScope N_law_cells ["script", "most"] (defScope (topS 137)) := ⟨rfl, rfl, rfl, by decide +kernel, rfl, by decide +kernel, by decide +kernel⟩
theorem ok_law_cells (hX : XAok XA) (G : Tops K mg) : Fn P w K mg base XA "_law_cells" ["script", "most"] 1 f_law_cells := by
  obtain ⟨f, fd, F, hm⟩ := (G.fd "_law_cells" 137 (by decide +kernel)).ex
  refine ⟨f, fd, hm, F.kp, F.bindsN (fun _ _ _ _ _ _ us hl => match us, hl with | [_, _], _ => rfl), fn_ok hX F sc_law_cells fun cdv A outer s H E hr => PSs.nox ?_⟩
  exact b_cons (s_ret (e_listR rfl rfl (G.fr _ (by decide +kernel)) rfl (G.fr _ (by decide +kernel)) (e_callB (call_max2 rfl) g_max rfl (G.fr _ (by decide +kernel)) boot_max (a_cons (e_const pe_int fun _ _ => .int _) (a_cons (e_callB (call_min2 rfl) g_min rfl (G.fr _ (by decide +kernel)) boot_min (a_cons (e_var (pv 1)) (a_cons (e_callB call_len g_len rfl (G.fr _ (by decide +kernel)) boot_len (a_cons (e_var (pv 0)) (a_nil))) (a_nil)))) (a_nil))))))
    (b_nil)
/-! _law_frac -/
def b_law_frac : FS := fSeq (fPar 2 3 (fN gAbs (aCons (fV 0) (aNil))) (fN gAbs (aCons (fV 1) (aNil)))) (fSeq (fWhile 1000000 (f2 gNe (fV 3) (fC (.int 0))) (fSeq (fPar 2 3 (fV 3) (f2 (gInt kMod) (fV 2) (fV 3))) (fNxt))) (fSeq (fAsg (gN 4) (fIf (f2 (gInt kLt) (fV 1) (fC (.int 0))) (f1 gNeg (fC (.int 1))) (fC (.int 1)))) (fSeq (fRet (fN gTup (aCons (f2 (gInt kDiv) (f2 gMul (fV 4) (fV 0)) (fV 2)) (aCons (f2 (gInt kDiv) (f2 gMul (fV 4) (fV 1)) (fV 2)) (aNil))))) (fNxt))))
def f_law_frac : FF := mkFn 2 5 b_law_frac
abbrev N_law_frac : List Str := ["top", "bottom", "one", "other", "sign"]
theorem sc_law_frac : FnScope N_law_frac ["top", "bottom"] (defScope (topS 138)) := ⟨rfl, rfl, rfl, by decide +kernel, rfl, by decide +kernel, by decide +kernel⟩
theorem ok_law_frac (hX : XAok XA) (G : Tops K mg) : Fn P w K mg base XA "_law_frac" ["top", "bottom"] 1 f_law_frac := by
  obtain ⟨f, fd, F, hm⟩ := (G.fd "_law_frac" 138 (by decide +kernel)).ex
  refine ⟨f, fd, hm, F.kp, F.bindsN (fun _ _ _ _ _ _ us hl => match us, hl with | [_, _], _ => rfl), fn_ok hX F sc_law_frac fun cdv A outer s H E hr => PSs.nox ?_⟩
  exact b_cons (s_par (i := 2) (j := 3) (fun ta h => ps_par rfl sc_law_frac.nd rfl rfl (by decide) rfl rfl h rfl) (e_callB call_abs g_abs rfl (G.fr _ (by decide +kernel)) boot_abs (a_cons (e_var (pv 0)) (a_nil))) (e_callB call_abs g_abs rfl (G.fr _ (by decide +kernel)) boot_abs (a_cons (e_var (pv 1)) (a_nil))))
    (b_cons (s_while 1000000 PassesOwn.never (t_cmp (op_neD hr.units) g_ne (e_var (pv 3)) (e_const pe_int fun _ _ => .int _) (nomark _)) (b_cons (s_par (i := 2) (j := 3) (fun ta h => ps_par rfl sc_law_frac.nd rfl rfl (by decide) rfl rfl h rfl) (e_var (pv 3)) (e_bin op_mod g_mod (e_var (pv 2)) (e_var (pv 3))))
    (b_nil)))
    (b_cons (s_asg (e_if (t_cmp op_lt g_lt (e_var (pv 1)) (e_const pe_int fun _ _ => .int _) (nomark _)) (e_neg (e_const pe_int fun _ _ => .int _)) (e_const pe_int fun _ _ => .int _)) (gl_name (pg_name sc_law_frac.nd rfl (by first | exact .inl rfl | exact .inr rfl))))
    (b_cons (s_ret (e_tup (a_cons (e_bin op_fdivZ g_div (e_bin op_mulA g_mul (e_var (pv 4)) (e_var (pv 0))) (e_var (pv 2))) (a_cons (e_bin op_fdivZ g_div (e_bin op_mulA g_mul (e_var (pv 4)) (e_var (pv 1))) (e_var (pv 2))) (a_nil)))))
    (b_nil))))
/-! _law_times -/
def b_law_times : FS := fSeq (fRet (fCall f_law_frac (aCons (f2 gMul (f2 gIx (fV 0) (fC (.int 0))) (f2 gIx (fV 1) (fC (.int 0)))) (aCons (f2 gMul (f2 gIx (fV 0) (fC (.int 1))) (f2 gIx (fV 1) (fC (.int 1)))) (aNil))))) (fNxt)
def f_law_times : FF := mkFn 2 2 b_law_times
abbrev N_law_times : List Str := ["one", "other"]
theorem sc_law_times : FnScope N_law_times ["one", "other"] (defScope (topS 139)) := ⟨rfl, rfl, rfl, by decide +kernel, rfl, by decide +kernel, by decide +kernel⟩
theorem ok_law_times (hX : XAok XA) (G : Tops K mg) : Fn P w K mg base XA "_law_times" ["one", "other"] 2 f_law_times := by
  obtain ⟨f, fd, F, hm⟩ := (G.fd "_law_times" 139 (by decide +kernel)).ex
  refine ⟨f, fd, hm, F.kp, F.bindsN (fun _ _ _ _ _ _ us hl => match us, hl with | [_, _], _ => rfl), fn_ok hX F sc_law_times fun cdv A outer s H E hr => PSs.nox ?_⟩
  exact b_cons (s_ret (e_fn (ok_law_frac hX G) hr (by decide) rfl (a_cons (e_bin op_mulA g_mul (e_ix ix_seq g_ix (e_var (pv 0)) (e_const pe_int fun _ _ => .int _) (fun _ _ => rfl)) (e_ix ix_seq g_ix (e_var (pv 1)) (e_const pe_int fun _ _ => .int _) (fun _ _ => rfl))) (a_cons (e_bin op_mulA g_mul (e_ix ix_seq g_ix (e_var (pv 0)) (e_const pe_int fun _ _ => .int _) (fun _ _ => rfl)) (e_ix ix_seq g_ix (e_var (pv 1)) (e_const pe_int fun _ _ => .int _) (fun _ _ => rfl))) (a_nil))) (by decide)))
    (b_nil)
/-! _law_less -/
def b_law_less : FS := fSeq (fRet (fCall f_law_frac (aCons (f2 (gInt kSub) (f2 gMul (f2 gIx (fV 0) (fC (.int 0))) (f2 gIx (fV 1) (fC (.int 1)))) (f2 gMul (f2 gIx (fV 1) (fC (.int 0))) (f2 gIx (fV 0) (fC (.int 1))))) (aCons (f2 gMul (f2 gIx (fV 0) (fC (.int 1))) (f2 gIx (fV 1) (fC (.int 1)))) (aNil))))) (fNxt)
def f_law_less : FF := mkFn 2 2 b_law_less
abbrev N_law_less : List Str := ["one", "other"]
theorem sc_law_less : FnScope N_law_less ["one", "other"] (defScope (topS 140)) := ⟨rfl, rfl, rfl, by decide +kernel, rfl, by decide +kernel, by decide +kernel⟩
theorem ok_law_less (hX : XAok XA) (G : Tops K mg) : Fn P w K mg base XA "_law_less" ["one", "other"] 2 f_law_less := by
  obtain ⟨f, fd, F, hm⟩ := (G.fd "_law_less" 140 (by decide +kernel)).ex
  refine ⟨f, fd, hm, F.kp, F.bindsN (fun _ _ _ _ _ _ us hl => match us, hl with | [_, _], _ => rfl), fn_ok hX F sc_law_less fun cdv A outer s H E hr => PSs.nox ?_⟩
  exact b_cons (s_ret (e_fn (ok_law_frac hX G) hr (by decide) rfl (a_cons (e_bin op_sub g_sub (e_bin op_mulA g_mul (e_ix ix_seq g_ix (e_var (pv 0)) (e_const pe_int fun _ _ => .int _) (fun _ _ => rfl)) (e_ix ix_seq g_ix (e_var (pv 1)) (e_const pe_int fun _ _ => .int _) (fun _ _ => rfl))) (e_bin op_mulA g_mul (e_ix ix_seq g_ix (e_var (pv 1)) (e_const pe_int fun _ _ => .int _) (fun _ _ => rfl)) (e_ix ix_seq g_ix (e_var (pv 0)) (e_const pe_int fun _ _ => .int _) (fun _ _ => rfl)))) (a_cons (e_bin op_mulA g_mul (e_ix ix_seq g_ix (e_var (pv 0)) (e_const pe_int fun _ _ => .int _) (fun _ _ => rfl)) (e_ix ix_seq g_ix (e_var (pv 1)) (e_const pe_int fun _ _ => .int _) (fun _ _ => rfl))) (a_nil))) (by decide)))
    (b_nil)
/-! _law_right -/
def b_law_right : FS := fSeq (fPar 1 2 (fN gTup (aCons (fN gTup (aCons (fC (.str [97])) (aCons (fN gTup (aCons (fC (.int 1)) (aCons (fC (.int 2)) (aNil)))) (aNil)))) (aCons (fN gTup (aCons (fC (.str [98])) (aCons (fN gTup (aCons (fC (.int 1)) (aCons (fC (.int 1)) (aNil)))) (aNil)))) (aCons (fN gTup (aCons (fC (.str [97])) (aCons (fN gTup (aCons (fC (.int 1)) (aCons (fC (.int 2)) (aNil)))) (aNil)))) (aNil))))) (fN gIntOf (aCons (f2 gAdd (fC (.int 1)) (fCall f_law_take (aCons (fV 0) (aCons (fC (.int 9)) (aNil))))) (aNil)))) (fSeq (fAsg (gN 3) (fCall f_halves (aCons (fV 2) (aNil)))) (fSeq (fIfS (fOr (f1 gNot (fCall f_sums_alike (aCons (fV 3) (aNil)))) (fOr (f1 gNot (fCall f_is_own_turned (aCons (fV 3) (aNil)))) (fOr (f1 gNot (fCall f_is_forward (aCons (fV 3) (aNil)))) (f2 gNe (fSl (fCall f_order_of (aCons (fV 3) (aCons (fC (.int 4)) (aNil)))) none (some (fC (.int 2)))) (fN gTup (aCons (fC (.str [111, 114, 100, 101, 114])) (aCons (fC (.int 2)) (aNil)))))))) (fSeq (fRet (fC (.bl false))) (fNxt)) (fNxt)) (fSeq (fIfS (f2 gNe (fCall f_misses (aCons (fV 3) (aCons (fC (.int 4)) (aNil)))) (fCall f_row_taken (aCons (fCall f_misses (aCons (fV 1) (aCons (fC (.int 4)) (aNil)))) (aCons (fCall f_law_frac (aCons (fC (.int 1)) (aCons (f2 gMul (fV 2) (fV 2)) (aNil)))) (aNil))))) (fSeq (fRet (fC (.bl false))) (fNxt)) (fNxt)) (fSeq (fIfS (f1 gNot (fCall f_are_same (aCons (fV 3) (aCons (fCall f_jump (aCons (fV 1) (aCons (f2 gMul (fN gTup (aCons (fCall f_law_frac (aCons (fC (.int 1)) (aCons (fV 2) (aNil)))) (aNil))) (fV 2)) (aNil)))) (aNil))))) (fSeq (fRet (fC (.bl false))) (fNxt)) (fNxt)) (fSeq (fIfS (fOr (f2 gNe (fCall f_sum_of_powers (aCons (fV 3) (aCons (fC (.int 3)) (aNil)))) (fCall f_law_frac (aCons (fC (.int 1)) (aCons (f2 gMul (f2 gMul (fC (.int 4)) (fV 2)) (fV 2)) (aNil))))) (f2 gNe (fCall f_sum_of_powers (aCons (fV 3) (aCons (fC (.int 1)) (aNil)))) (fN gTup (aCons (fC (.int 1)) (aCons (fC (.int 1)) (aNil)))))) (fSeq (fRet (fC (.bl false))) (fNxt)) (fNxt)) (fSeq (fAsg (gN 4) (fN gIntOf (aCons (f2 gAdd (fC (.int 1)) (fCall f_law_take (aCons (fV 0) (aCons (fC (.int 20)) (aNil))))) (aNil)))) (fSeq (fAsg (gT 2 (gsC (gN 5) (gsC (gN 6) (gsN)))) (fCall f_turned_between (aCons (fCall f_jump_polynomial (aCons (fC (.int 2)) (aCons (fC (.int 2)) (aNil)))) (aCons (fN gTup (aCons (fC (.int 1)) (aCons (fC (.int 1)) (aNil)))) (aCons (fN gTup (aCons (fC (.int 2)) (aCons (fC (.int 1)) (aNil)))) (aCons (fV 4) (aNil))))))) (fSeq (fAsg (gN 7) (fC (.int 1))) (fSeq (fFor (fItA (aCons (fV 4) (aNil)) kR1) (gN 8) (fSeq (fAsg (gN 7) (f2 gMul (fV 7) (fC (.int 2)))) (fNxt))) (fSeq (fIfS (f2 gNe (fCall f_law_less (aCons (fV 6) (aCons (fV 5) (aNil)))) (fN gTup (aCons (fC (.int 1)) (aCons (fV 7) (aNil))))) (fSeq (fRet (fC (.bl false))) (fNxt)) (fNxt)) (fSeq (fRet (f2 gEq (f2 gIx (fCall f_does_raise (aCons (fC (.int 2)) (aCons (fN gTup (aCons (fV 5) (aCons (fCall f_law_less (aCons (fN gTup (aCons (fC (.int 1)) (aCons (fC (.int 1)) (aNil)))) (aCons (fCall f_law_times (aCons (fN gTup (aCons (fC (.int 2)) (aCons (fC (.int 1)) (aNil)))) (aCons (fV 5) (aNil)))) (aNil)))) (aCons (fV 5) (aNil))))) (aNil)))) (fC (.int 0))) (fC (.str [110, 111, 116])))) (fNxt))))))))))))
def f_law_right : FF := mkFn 1 9 b_law_right
abbrev N_law_right : List Str := ["pot", "strang", "many", "told", "laps", "low", "high", "power_v", "lap"]
theorem sc_law_right : FnScope N_law_right ["pot"] (defScope (topS 141)) := ⟨rfl, rfl, rfl, by decide +kernel, rfl, by decide +kernel, by decide +kernel⟩
theorem ok_law_right (hX : XAok XA) (G : Tops K mg) : Fn P w K mg base XA "_law_right" ["pot"] 16 f_law_right := by
  obtain ⟨f, fd, F, hm⟩ := (G.fd "_law_right" 141 (by decide +kernel)).ex
  refine ⟨f, fd, hm, F.kp, F.bindsN (fun _ _ _ _ _ _ us hl => match us, hl with | [_], _ => rfl), fn_ok hX F sc_law_right fun cdv A outer s H E hr => PSs.nox ?_⟩
  exact b_cons (s_par (i := 1) (j := 2) (fun ta h => ps_par rfl sc_law_right.nd rfl rfl (by decide) rfl rfl h rfl) (e_tup (a_cons (e_tup (a_cons (e_const pe_str fun _ _ => .str _) (a_cons (e_tup (a_cons (e_const pe_int fun _ _ => .int _) (a_cons (e_const pe_int fun _ _ => .int _) (a_nil)))) (a_nil)))) (a_cons (e_tup (a_cons (e_const pe_str fun _ _ => .str _) (a_cons (e_tup (a_cons (e_const pe_int fun _ _ => .int _) (a_cons (e_const pe_int fun _ _ => .int _) (a_nil)))) (a_nil)))) (a_cons (e_tup (a_cons (e_const pe_str fun _ _ => .str _) (a_cons (e_tup (a_cons (e_const pe_int fun _ _ => .int _) (a_cons (e_const pe_int fun _ _ => .int _) (a_nil)))) (a_nil)))) (a_nil))))) (e_callTy call_int1 g_intOf rfl (G.fr _ (by decide +kernel)) boot_int (a_cons (e_bin op_addA g_add (e_const pe_int fun _ _ => .int _) (e_fn (ok_law_take hX G) hr (by decide) rfl (a_cons (e_var (pv 0)) (a_cons (e_const pe_int fun _ _ => .int _) (a_nil))) (by decide))) (a_nil))))
    (b_cons (s_asg (e_fn (ok_halves hX G) hr (by decide) rfl (a_cons (e_var (pv 2)) (a_nil)) (by decide)) (gl_name (pg_name sc_law_right.nd rfl (by first | exact .inl rfl | exact .inr rfl))))
    (b_cons (s_ifs (PW.pt (w_or (t_not (t_val (e_fn (ok_sums_alike hX G) hr (by decide) rfl (a_cons (e_var (pv 3)) (a_nil)) (by decide)))) (w_or (t_not (t_val (e_fn (ok_is_own_turned hX G) hr (by decide) rfl (a_cons (e_var (pv 3)) (a_nil)) (by decide)))) (w_or (t_not (t_val (e_fn (ok_is_forward hX G) hr (by decide) rfl (a_cons (e_var (pv 3)) (a_nil)) (by decide)))) (pw_or1 (t_cmp (op_neD hr.units) g_ne (e_sl (e_fn (ok_order_of hX G) hr (by decide) rfl (a_cons (e_var (pv 3)) (a_cons (e_const pe_int fun _ _ => .int _) (a_nil))) (by decide)) o_none (o_some (e_const pe_int fun _ _ => .int _))) (e_tup (a_cons (e_const pe_str fun _ _ => .str _) (a_cons (e_const pe_int fun _ _ => .int _) (a_nil)))) (nomark _))))))) (b_cons (s_ret (e_const pe_bl fun _ _ => .bl _))
    (b_nil)) (b_nil))
    (b_cons (s_ifs (t_cmp (op_neD hr.units) g_ne (e_fn (ok_misses hX G) hr (by decide) rfl (a_cons (e_var (pv 3)) (a_cons (e_const pe_int fun _ _ => .int _) (a_nil))) (by decide)) (e_fn (ok_row_taken hX G) hr (by decide) rfl (a_cons (e_fn (ok_misses hX G) hr (by decide) rfl (a_cons (e_var (pv 1)) (a_cons (e_const pe_int fun _ _ => .int _) (a_nil))) (by decide)) (a_cons (e_fn (ok_law_frac hX G) hr (by decide) rfl (a_cons (e_const pe_int fun _ _ => .int _) (a_cons (e_bin op_mulA g_mul (e_var (pv 2)) (e_var (pv 2))) (a_nil))) (by decide)) (a_nil))) (by decide)) (nomark _)) (b_cons (s_ret (e_const pe_bl fun _ _ => .bl _))
    (b_nil)) (b_nil))
    (b_cons (s_ifs (t_not (t_val (e_fn (ok_are_same hX G) hr (by decide) rfl (a_cons (e_var (pv 3)) (a_cons (e_fn (ok_jump hX G) hr (by decide) rfl (a_cons (e_var (pv 1)) (a_cons (e_bin op_mulA g_mul (e_tup (a_cons (e_fn (ok_law_frac hX G) hr (by decide) rfl (a_cons (e_const pe_int fun _ _ => .int _) (a_cons (e_var (pv 2)) (a_nil))) (by decide)) (a_nil))) (e_var (pv 2))) (a_nil))) (by decide)) (a_nil))) (by decide)))) (b_cons (s_ret (e_const pe_bl fun _ _ => .bl _))
    (b_nil)) (b_nil))
    (b_cons (s_ifs (PW.pt (w_or (t_cmp (op_neD hr.units) g_ne (e_fn (ok_sum_of_powers hX G) hr (by decide) rfl (a_cons (e_var (pv 3)) (a_cons (e_const pe_int fun _ _ => .int _) (a_nil))) (by decide)) (e_fn (ok_law_frac hX G) hr (by decide) rfl (a_cons (e_const pe_int fun _ _ => .int _) (a_cons (e_bin op_mulA g_mul (e_bin op_mulA g_mul (e_const pe_int fun _ _ => .int _) (e_var (pv 2))) (e_var (pv 2))) (a_nil))) (by decide)) (nomark _)) (pw_or1 (t_cmp (op_neD hr.units) g_ne (e_fn (ok_sum_of_powers hX G) hr (by decide) rfl (a_cons (e_var (pv 3)) (a_cons (e_const pe_int fun _ _ => .int _) (a_nil))) (by decide)) (e_tup (a_cons (e_const pe_int fun _ _ => .int _) (a_cons (e_const pe_int fun _ _ => .int _) (a_nil)))) (nomark _))))) (b_cons (s_ret (e_const pe_bl fun _ _ => .bl _))
    (b_nil)) (b_nil))
    (b_cons (s_asg (e_callTy call_int1 g_intOf rfl (G.fr _ (by decide +kernel)) boot_int (a_cons (e_bin op_addA g_add (e_const pe_int fun _ _ => .int _) (e_fn (ok_law_take hX G) hr (by decide) rfl (a_cons (e_var (pv 0)) (a_cons (e_const pe_int fun _ _ => .int _) (a_nil))) (by decide))) (a_nil))) (gl_name (pg_name sc_law_right.nd rfl (by first | exact .inl rfl | exact .inr rfl))))
    (b_cons (s_asg (e_fn (ok_turned_between hX G) hr (by decide) rfl (a_cons (e_fn (ok_jump_polynomial hX G) hr (by decide) rfl (a_cons (e_const pe_int fun _ _ => .int _) (a_cons (e_const pe_int fun _ _ => .int _) (a_nil))) (by decide)) (a_cons (e_tup (a_cons (e_const pe_int fun _ _ => .int _) (a_cons (e_const pe_int fun _ _ => .int _) (a_nil)))) (a_cons (e_tup (a_cons (e_const pe_int fun _ _ => .int _) (a_cons (e_const pe_int fun _ _ => .int _) (a_nil)))) (a_cons (e_var (pv 4)) (a_nil))))) (by decide)) (gl_tup rfl (gls_cons (gl_name (pg_name sc_law_right.nd rfl (by first | exact .inl rfl | exact .inr rfl))) (gls_cons (gl_name (pg_name sc_law_right.nd rfl (by first | exact .inl rfl | exact .inr rfl))) (gls_nil)))))
    (b_cons (s_asg (e_const pe_int fun _ _ => .int _) (gl_name (pg_name sc_law_right.nd rfl (by first | exact .inl rfl | exact .inr rfl))))
    (b_cons (s_for PassesOwn.never rfl (i_rng1 rfl (G.fr _ (by decide +kernel)) (a_cons (e_var (pv 4)) (a_nil))) (gl_name (pg_name sc_law_right.nd rfl (by first | exact .inl rfl | exact .inr rfl))) (b_cons (s_asg (e_bin op_mulA g_mul (e_var (pv 7)) (e_const pe_int fun _ _ => .int _)) (gl_name (pg_name sc_law_right.nd rfl (by first | exact .inl rfl | exact .inr rfl))))
    (b_nil)))
    (b_cons (s_ifs (t_cmp (op_neD hr.units) g_ne (e_fn (ok_law_less hX G) hr (by decide) rfl (a_cons (e_var (pv 6)) (a_cons (e_var (pv 5)) (a_nil))) (by decide)) (e_tup (a_cons (e_const pe_int fun _ _ => .int _) (a_cons (e_var (pv 7)) (a_nil)))) (nomark _)) (b_cons (s_ret (e_const pe_bl fun _ _ => .bl _))
    (b_nil)) (b_nil))
    (b_cons (s_ret (e_cmp (op_eqD hr.units) g_eq (e_ix ix_seq g_ix (e_fn (ok_does_raise hX G) hr (by decide) rfl (a_cons (e_const pe_int fun _ _ => .int _) (a_cons (e_tup (a_cons (e_var (pv 5)) (a_cons (e_fn (ok_law_less hX G) hr (by decide) rfl (a_cons (e_tup (a_cons (e_const pe_int fun _ _ => .int _) (a_cons (e_const pe_int fun _ _ => .int _) (a_nil)))) (a_cons (e_fn (ok_law_times hX G) hr (by decide) rfl (a_cons (e_tup (a_cons (e_const pe_int fun _ _ => .int _) (a_cons (e_const pe_int fun _ _ => .int _) (a_nil)))) (a_cons (e_var (pv 5)) (a_nil))) (by decide)) (a_nil))) (by decide)) (a_cons (e_var (pv 5)) (a_nil))))) (a_nil))) (by decide)) (e_const pe_int fun _ _ => .int _) (fun _ _ => rfl)) (e_const pe_str fun _ _ => .str _) (nomark _)))
    (b_nil))))))))))))
end
end M85

set_option Elab.async false
set_option maxRecDepth 100000
set_option maxHeartbeats 4000000
namespace M85
open PySem PySem.Spec PyProof.Rows L2 EV
noncomputable section
variable {P : Program} {w : World} {K : PySem.W.Frag} {mg : Str → Option Value} {base : Heap} {XA : XAT}
/-! told_rising -/
def b_told_rising_x : FS := fSeq (fAsg (gN 1) (fCell (fN gLst (aNil)))) (fSeq (fForX 0 (gN 2) (fSeq (fPar 3 4 (fC (.int 0)) (fN gLen (aCons (fV 1) (aNil)))) (fSeq (fWhile 1000000 (f2 (gInt kLt) (fV 3) (fV 4)) (fSeq (fAsg (gN 5) (f2 (gInt kDiv) (f2 gAdd (fV 3) (fV 4)) (fC (.int 2)))) (fSeq (fIfS (f2 (gInt kLt) (f2 gMul (f2 gIx (f2 gIx (fV 1) (fV 5)) (fC (.int 0))) (f2 gIx (fV 2) (fC (.int 1)))) (f2 gMul (f2 gIx (fV 2) (fC (.int 0))) (f2 gIx (f2 gIx (fV 1) (fV 5)) (fC (.int 1))))) (fSeq (fAsg (gN 3) (f2 gAdd (fV 5) (fC (.int 1)))) (fNxt)) (fSeq (fAsg (gN 4) (fV 5)) (fNxt))) (fNxt)))) (fSeq (fExpr (fMut mInsert (fV 1) (aCons (fV 3) (aCons (fV 2) (aNil))))) (fNxt))))) (fSeq (fRet (fV 1)) (fNxt)))
def f_told_rising_x : FF := mkFn 1 6 b_told_rising_x
abbrev N_told_rising_x : List Str := ["some", "found", "one", "low", "high", "middle"]
theorem sc_told_rising_x : FnScope N_told_rising_x ["some"] (defScope (topS 129)) := ⟨rfl, rfl, rfl, by decide +kernel, rfl, by decide +kernel, by decide +kernel⟩
theorem ok_told_rising_x (hX : XAok XA) (G : Tops K mg) : Fn P w K mg base XA "told_rising" ["some"] 1 f_told_rising_x := by
  obtain ⟨f, fd, F, hm⟩ := (G.fd "told_rising" 129 (by decide +kernel)).ex
  refine ⟨f, fd, hm, F.kp, F.bindsN (fun _ _ _ _ _ _ us hl => match us, hl with | [_], _ => rfl), fn_ok hX F sc_told_rising_x fun cdv A outer s H E hr => PSs.nox ?_⟩
  exact b_cons (s_asg (e_cell (e_lst (a_nil))) (gl_name (pg_name sc_told_rising_x.nd rfl (by first | exact .inl rfl | exact .inr rfl))))
    (b_cons (s_forX PassesOwn.never rfl (pv 0) (gl_name (pg_name sc_told_rising_x.nd rfl (by first | exact .inl rfl | exact .inr rfl))) (b_cons (s_par (i := 3) (j := 4) (fun ta h => ps_par rfl sc_told_rising_x.nd rfl rfl (by decide) rfl rfl h rfl) (e_const pe_int fun _ _ => .int _) (e_callB call_len g_len rfl (G.fr _ (by decide +kernel)) boot_len (a_cons (e_var (pv 1)) (a_nil))))
    (b_cons (s_while 1000000 PassesOwn.never (t_cmp op_lt g_lt (e_var (pv 3)) (e_var (pv 4)) (nomark _)) (b_cons (s_asg (e_bin op_fdivZ g_div (e_bin op_addA g_add (e_var (pv 3)) (e_var (pv 4))) (e_const pe_int fun _ _ => .int _)) (gl_name (pg_name sc_told_rising_x.nd rfl (by first | exact .inl rfl | exact .inr rfl))))
    (b_cons (s_ifs (t_cmp op_lt g_lt (e_bin op_mulA g_mul (e_ix ix_seq g_ix (e_ix ix_seq g_ix (e_var (pv 1)) (e_var (pv 5)) (fun _ _ => rfl)) (e_const pe_int fun _ _ => .int _) (fun _ _ => rfl)) (e_ix ix_seq g_ix (e_var (pv 2)) (e_const pe_int fun _ _ => .int _) (fun _ _ => rfl))) (e_bin op_mulA g_mul (e_ix ix_seq g_ix (e_var (pv 2)) (e_const pe_int fun _ _ => .int _) (fun _ _ => rfl)) (e_ix ix_seq g_ix (e_ix ix_seq g_ix (e_var (pv 1)) (e_var (pv 5)) (fun _ _ => rfl)) (e_const pe_int fun _ _ => .int _) (fun _ _ => rfl))) (nomark _)) (b_cons (s_asg (e_bin op_addA g_add (e_var (pv 5)) (e_const pe_int fun _ _ => .int _)) (gl_name (pg_name sc_told_rising_x.nd rfl (by first | exact .inl rfl | exact .inr rfl))))
    (b_nil)) (b_cons (s_asg (e_var (pv 5)) (gl_name (pg_name sc_told_rising_x.nd rfl (by first | exact .inl rfl | exact .inr rfl))))
    (b_nil)))
    (b_nil))))
    (b_cons (s_expr (e_mut PySem.F.slot_list_insert PySem.F.type_list_insert mt_insert m_insert (e_var (pv 1)) (a_cons (e_var (pv 3)) (a_cons (e_var (pv 2)) (a_nil)))))
    (b_nil)))))
    (b_cons (s_ret (e_var (pv 1)))
    (b_nil)))
/-! told_candidates -/
def b_told_candidates : FS := fSeq (fAsg (gN 1) (fCall f_told_ints (aCons (fV 0) (aNil)))) (fSeq (fWhile 1000000 (f2 gEq (f2 gIx (fV 1) (fC (.int 0))) (fC (.int 0))) (fSeq (fAsg (gN 1) (fSl (fV 1) (some (fC (.int 1))) none)) (fNxt))) (fSeq (fIfS (f2 (gInt kGt) (fN gMax (aCons (fN gAbs (aCons (f2 gIx (fV 1) (fC (.int 0))) (aNil))) (aCons (fN gAbs (aCons (f2 gIx (fV 1) (f1 gNeg (fC (.int 1)))) (aNil))) (aNil)))) (fC c_MOST_ENDS)) (fSeq (fNever) (fNxt)) (fNxt)) (fSeq (fAsg (gN 2) (fCell (fDisp0X))) (fSeq (fFor (fIt (fCall f_told_divisors (aCons (f2 gIx (fV 1) (fC (.int 0))) (aNil))) kSeq) (gN 3) (fSeq (fFor (fIt (fCall f_told_divisors (aCons (f2 gIx (fV 1) (f1 gNeg (fC (.int 1)))) (aNil))) kSeq) (gN 4) (fSeq (fExpr (fUpdX (fV 2) (fDispX [fCall q_told_fraction (aCons (fV 3) (aCons (fV 4) (aNil))), fCall q_told_fraction (aCons (f1 gNeg (fV 3)) (aCons (fV 4) (aNil)))]))) (fNxt))) (fNxt))) (fSeq (fRet (fCall f_told_rising_x (aCons (fV 2) (aNil)))) (fNxt))))))
def f_told_candidates : FF := mkFn 1 5 b_told_candidates
abbrev N_told_candidates : List Str := ["polynomial", "ints", "found", "top", "bottom"]
theorem sc_told_candidates : FnScope N_told_candidates ["polynomial"] (defScope (topS 128)) := ⟨rfl, rfl, rfl, by decide +kernel, rfl, by decide +kernel, by decide +kernel⟩
theorem ok_told_candidates (hX : XAok XA) (G : Tops K mg) : Fn P w K mg base XA "told_candidates" ["polynomial"] 3 f_told_candidates := by
  obtain ⟨f, fd, F, hm⟩ := (G.fd "told_candidates" 128 (by decide +kernel)).ex
  refine ⟨f, fd, hm, F.kp, F.bindsN (fun _ _ _ _ _ _ us hl => match us, hl with | [_], _ => rfl), fn_ok hX F sc_told_candidates fun cdv A outer s H E hr => PSs.nox ?_⟩
  exact b_cons (s_asg (e_fn (ok_told_ints hX G) hr (by decide) rfl (a_cons (e_var (pv 0)) (a_nil)) (by decide)) (gl_name (pg_name sc_told_candidates.nd rfl (by first | exact .inl rfl | exact .inr rfl))))
    (b_cons (s_while 1000000 PassesOwn.never (t_cmp (op_eqD hr.units) g_eq (e_ix ix_seq g_ix (e_var (pv 1)) (e_const pe_int fun _ _ => .int _) (fun _ _ => rfl)) (e_const pe_int fun _ _ => .int _) (nomark _)) (b_cons (s_asg (e_sl (e_var (pv 1)) (o_some (e_const pe_int fun _ _ => .int _)) o_none) (gl_name (pg_name sc_told_candidates.nd rfl (by first | exact .inl rfl | exact .inr rfl))))
    (b_nil)))
    (b_cons (s_ifs (t_cmp op_gt g_gt (e_callB (call_max2 rfl) g_max rfl (G.fr _ (by decide +kernel)) boot_max (a_cons (e_callB call_abs g_abs rfl (G.fr _ (by decide +kernel)) boot_abs (a_cons (e_ix ix_seq g_ix (e_var (pv 1)) (e_const pe_int fun _ _ => .int _) (fun _ _ => rfl)) (a_nil))) (a_cons (e_callB call_abs g_abs rfl (G.fr _ (by decide +kernel)) boot_abs (a_cons (e_ix ix_seq g_ix (e_var (pv 1)) (e_neg (e_const pe_int fun _ _ => .int _)) (fun _ _ => rfl)) (a_nil))) (a_nil)))) (e_gc (G.c_MOST_ENDS) rfl) (nomark _)) (b_cons (s_never)
    (b_nil)) (b_nil))
    (b_cons (s_asg (e_cell (e_disp0X)) (gl_name (pg_name sc_told_candidates.nd rfl (by first | exact .inl rfl | exact .inr rfl))))
    (b_cons (s_for PassesOwn.never rfl (i_seq (e_fn (ok_told_divisors hX G) hr (by decide) rfl (a_cons (e_ix ix_seq g_ix (e_var (pv 1)) (e_const pe_int fun _ _ => .int _) (fun _ _ => rfl)) (a_nil)) (by decide))) (gl_name (pg_name sc_told_candidates.nd rfl (by first | exact .inl rfl | exact .inr rfl))) (b_cons (s_for PassesOwn.never rfl (i_seq (e_fn (ok_told_divisors hX G) hr (by decide) rfl (a_cons (e_ix ix_seq g_ix (e_var (pv 1)) (e_neg (e_const pe_int fun _ _ => .int _)) (fun _ _ => rfl)) (a_nil)) (by decide))) (gl_name (pg_name sc_told_candidates.nd rfl (by first | exact .inl rfl | exact .inr rfl))) (b_cons (s_expr (e_updX (hu_of hr) (e_var (pv 2)) (e_dispX (ps := [fCall q_told_fraction (aCons (fV 3) (aCons (fV 4) (aNil))), fCall q_told_fraction (aCons (f1 gNeg (fV 3)) (aCons (fV 4) (aNil)))]) (Nat.lt_of_succ_lt (hu_of hr)) (p_cons (e_fn (ok_q_told_fraction hX G) hr (by decide) rfl (a_cons (e_var (pv 3)) (a_cons (e_var (pv 4)) (a_nil))) (by decide)) (e_const pe_bl fun _ _ => .bl _) (p_cons (e_fn (ok_q_told_fraction hX G) hr (by decide) rfl (a_cons (e_neg (e_var (pv 3))) (a_cons (e_var (pv 4)) (a_nil))) (by decide)) (e_const pe_bl fun _ _ => .bl _) (p_nil))) rfl rfl (by simp) (by decide)) ⟨rfl, rfl, rfl, rfl⟩))
    (b_nil)))
    (b_nil)))
    (b_cons (s_ret (e_fn (ok_told_rising_x hX G) hr (by decide) rfl (a_cons (e_var (pv 2)) (a_nil)) (by decide)))
    (b_nil))))))
/-! fraction_roots -/
def b_fraction_roots : FS := fSeq (fExpr (fCall f_look_at_rooted (aCons (fV 0) (aNil)))) (fSeq (fAsg (gN 1) (fCall f_told_rising (aCons (fN gLst (aCons (fC c_NOUGHT) (aStar (fCall f_told_candidates (aCons (fV 0) (aNil))) (aNil)))) (aNil)))) (fSeq (fRet (fN gTupOf (aCons (fComp (fIt (fV 1) kSeq) (gN 2) (f2 gEq (fCall f_poly_value (aCons (fV 0) (aCons (fV 2) (aNil)))) (fC c_NOUGHT)) (fV 2) [2]) (aNil)))) (fNxt)))
def f_fraction_roots : FF := mkFn 1 3 b_fraction_roots
abbrev N_fraction_roots : List Str := ["polynomial", "some", "one"]
theorem sc_fraction_roots : FnScope N_fraction_roots ["polynomial"] (defScope (topS 131)) := ⟨rfl, rfl, rfl, by decide +kernel, rfl, by decide +kernel, by decide +kernel⟩
theorem ok_fraction_roots (hX : XAok XA) (G : Tops K mg) : Fn P w K mg base XA "fraction_roots" ["polynomial"] 8 f_fraction_roots := by
  obtain ⟨f, fd, F, hm⟩ := (G.fd "fraction_roots" 131 (by decide +kernel)).ex
  refine ⟨f, fd, hm, F.kp, F.bindsN (fun _ _ _ _ _ _ us hl => match us, hl with | [_], _ => rfl), fn_ok hX F sc_fraction_roots fun cdv A outer s H E hr => PSs.nox ?_⟩
  exact b_cons (s_expr (e_fn (ok_look_at_rooted hX G) hr (by decide) rfl (a_cons (e_var (pv 0)) (a_nil)) (by decide)))
    (b_cons (s_asg (e_fn (ok_told_rising hX G) hr (by decide) rfl (a_cons (e_lst (a_cons (e_gc (G.c_NOUGHT) rfl) (a_star (e_fn (ok_told_candidates hX G) hr (by decide) rfl (a_cons (e_var (pv 0)) (a_nil)) (by decide)) (a_nil)))) (a_nil)) (by decide)) (gl_name (pg_name sc_fraction_roots.nd rfl (by first | exact .inl rfl | exact .inr rfl))))
    (b_cons (s_ret (e_callTy call_tuple_of g_tupOf rfl (G.fr _ (by decide +kernel)) boot_tuple (a_cons (e_comp (own := [("one", 2)]) rfl sc_fraction_roots.nd (i_seq (e_var (pv 1))) (show BlkOk N_fraction_roots (defScope (topS 131)) _ [("one", 2)] from ⟨rfl, by decide +kernel, by decide +kernel, by decide +kernel, by decide +kernel⟩) (gb_name fun _ _ _ _ _ => pg_name sc_fraction_roots.nd rfl (by first | exact .inl rfl | exact .inr rfl)).ex (by decide) (fun _ _ _ _ _ => ts_one (t_cmp (op_eqD hr.units) g_eq (e_fn (ok_poly_value hX G) hr (by decide) rfl (a_cons (e_var (pv 0)) (a_cons (e_var (pv 2)) (a_nil))) (by decide)) (e_gc (G.c_NOUGHT) rfl) (nomark _))) (fun _ _ _ _ _ => e_var (pv 2))) (a_nil))))
    (b_nil)))
/-! outer_number -/
def b_outer_number : FS := fSeq (fAsg (gN 2) (fCall f_jump_polynomial (aCons (fV 0) (aCons (fV 1) (aNil))))) (fSeq (fAsg (gN 3) (fCall f_fraction_roots (aCons (fV 2) (aNil)))) (fSeq (fRet (fIf (f2 gNe (fV 3) (fN gTup (aNil))) (fN gTup (aCons (fC c_ROOTS) (aCons (fV 3) (aNil)))) (fN gTup (aCons (fC c_NONE) (aCons (fN gTupOf (aCons (fCall f_told_candidates (aCons (fV 2) (aNil))) (aNil))) (aNil)))))) (fNxt)))
def f_outer_number : FF := mkFn 2 4 b_outer_number
abbrev N_outer_number : List Str := ["order", "many", "polynomial", "found"]
theorem sc_outer_number : FnScope N_outer_number ["order", "many"] (defScope (topS 132)) := ⟨rfl, rfl, rfl, by decide +kernel, rfl, by decide +kernel, by decide +kernel⟩
theorem ok_outer_number (hX : XAok XA) (G : Tops K mg) : Fn P w K mg base XA "outer_number" ["order", "many"] 9 f_outer_number := by
  obtain ⟨f, fd, F, hm⟩ := (G.fd "outer_number" 132 (by decide +kernel)).ex
  refine ⟨f, fd, hm, F.kp, F.bindsN (fun _ _ _ _ _ _ us hl => match us, hl with | [_, _], _ => rfl), fn_ok hX F sc_outer_number fun cdv A outer s H E hr => PSs.nox ?_⟩
  exact b_cons (s_asg (e_fn (ok_jump_polynomial hX G) hr (by decide) rfl (a_cons (e_var (pv 0)) (a_cons (e_var (pv 1)) (a_nil))) (by decide)) (gl_name (pg_name sc_outer_number.nd rfl (by first | exact .inl rfl | exact .inr rfl))))
    (b_cons (s_asg (e_fn (ok_fraction_roots hX G) hr (by decide) rfl (a_cons (e_var (pv 2)) (a_nil)) (by decide)) (gl_name (pg_name sc_outer_number.nd rfl (by first | exact .inl rfl | exact .inr rfl))))
    (b_cons (s_ret (e_if (t_cmp (op_neD hr.units) g_ne (e_var (pv 3)) (e_tup (a_nil)) (nomark _)) (e_tup (a_cons (e_gc (G.c_ROOTS) rfl) (a_cons (e_var (pv 3)) (a_nil)))) (e_tup (a_cons (e_gc (G.c_NONE) rfl) (a_cons (e_callTy call_tuple_of g_tupOf rfl (G.fr _ (by decide +kernel)) boot_tuple (a_cons (e_fn (ok_told_candidates hX G) hr (by decide) rfl (a_cons (e_var (pv 2)) (a_nil)) (by decide)) (a_nil))) (a_nil))))))
    (b_nil)))
/-! told_row -/
def b_told_row_X : FS := fSeqX (fPar 1 2 (fDCompD 0 itItems (gT 2 (gsC (gN 3) (gsC (gN 4) (gsN)))) (f2 gNe (fV 4) (fC c_NOUGHT)) (fV 3) (fV 4) [3, 4]) (fCell (fN gLst (aNil)))) (fSeqX (fWhile 1000000 (f2 gNeD (fV 1) (fDisp0)) (fSeq (fAsg (gN 3) (f2 gIx (fCall f_told_keys_d (aCons (fV 1) (aNil))) (fC (.int 0)))) (fSeq (fIfS (f1 gNot (fCall f_is_told_lyndon (aCons (fV 3) (aNil)))) (fSeq (fRet (fC .non)) (fNxt)) (fNxt)) (fSeq (fExpr (fMut mAppend (fV 2) (aCons (fN gTup (aCons (fV 3) (aCons (f2 gDGet (fV 1) (fV 3)) (aNil)))) (aNil)))) (fSeq (fAsg (gN 1) (fCall q_told_added (aCons (fV 1) (aCons (fCall f_told_bracket (aCons (fV 3) (aNil))) (aCons (fCall f_opposite (aCons (f2 gDGet (fV 1) (fV 3)) (aNil))) (aNil)))))) (fSeq (fAsg (gN 1) (fDCompD 1 itItems (gT 2 (gsC (gN 5) (gsC (gN 4) (gsN)))) (f2 gNe (fV 4) (fC c_NOUGHT)) (fV 5) (fV 4) [5, 4])) (fNxt))))))) (fRetX (fTupX (fV 2))))
def f_told_row_X : FF := mkFnX 1 6 b_told_row_X
abbrev N_told_row_X : List Str := ["words", "rest", "found", "word", "part", "one"]
theorem sc_told_row_X : FnScope N_told_row_X ["words"] (defScope (topS 62)) := ⟨rfl, rfl, rfl, by decide +kernel, rfl, by decide +kernel, by decide +kernel⟩
theorem ok_told_row_X (hX : XAok XA) (G : Tops K mg) : FnX P w K mg base XA "told_row" ["words"] 14 f_told_row_X := by
  obtain ⟨f, fd, F, hm⟩ := (G.fd "told_row" 62 (by decide +kernel)).ex
  refine ⟨f, fd, hm, F.kp, F.bindsN (fun _ _ _ _ _ _ us hl => match us, hl with | [_], _ => rfl), fn_okX hX F sc_told_row_X fun cdv A outer s H E hr => PSs.nox ?_⟩
  exact b_consX (s_par (i := 1) (j := 2) (fun ta h => ps_par rfl sc_told_row_X.nd rfl rfl (by decide) rfl rfl h rfl) (e_dcompD (own := [("word", 3), ("part", 4)]) rfl sc_told_row_X.nd (id_items (pv 0)) (show BlkOk N_told_row_X (defScope (topS 62)) _ [("word", 3), ("part", 4)] from ⟨rfl, by decide +kernel, by decide +kernel, by decide +kernel, by decide +kernel⟩) (gb_tup rfl (gbs_cons (gb_name fun _ _ _ _ _ => pg_name sc_told_row_X.nd rfl (by first | exact .inl rfl | exact .inr rfl)) (gbs_cons (gb_name fun _ _ _ _ _ => pg_name sc_told_row_X.nd rfl (by first | exact .inl rfl | exact .inr rfl)) (gbs_nil)))).ex (by decide) (fun _ _ _ _ _ => ts_one (t_cmp (op_neD hr.units) g_ne (e_var (pv 4)) (e_gc (G.c_NOUGHT) rfl) (nomark _))) (fun _ _ _ _ _ => e_var (pv 3)) (fun _ _ _ _ _ => e_var (pv 4))) (e_cell (e_lst (a_nil))))
    (b_consX (s_while 1000000 PassesOwn.never (t_cmp (op_neDL hr.units0) g_neD (e_var (pv 1)) (e_disp0) (nomark _)) (b_cons (s_asg (e_ix ix_seq g_ix (e_fn (ok_told_keys_d hX G) hr (by decide) rfl (a_cons (e_var (pv 1)) (a_nil)) (by decide)) (e_const pe_int fun _ _ => .int _) (fun _ _ => rfl)) (gl_name (pg_name sc_told_row_X.nd rfl (by first | exact .inl rfl | exact .inr rfl))))
    (b_cons (s_ifs (t_not (t_val (e_fn (ok_is_told_lyndon hX G) hr (by decide) rfl (a_cons (e_var (pv 3)) (a_nil)) (by decide)))) (b_cons (s_ret (e_const pe_non fun _ _ => .non))
    (b_nil)) (b_nil))
    (b_cons (s_expr (e_mut PySem.F.slot_list_append PySem.F.type_list_append mt_append m_append (e_var (pv 2)) (a_cons (e_tup (a_cons (e_var (pv 3)) (a_cons (e_dget (hu_of hr) (e_var (pv 1)) (e_var (pv 3)) (fun _ _ => rfl)) (a_nil)))) (a_nil))))
    (b_cons (s_asg (e_fn (ok_q_told_added hX G) hr (by decide) rfl (a_cons (e_var (pv 1)) (a_cons (e_fn (ok_told_bracket hX G) hr (by decide) rfl (a_cons (e_var (pv 3)) (a_nil)) (by decide)) (a_cons (e_fn (ok_opposite hX G) hr (by decide) rfl (a_cons (e_dget (hu_of hr) (e_var (pv 1)) (e_var (pv 3)) (fun _ _ => rfl)) (a_nil)) (by decide)) (a_nil)))) (by decide)) (gl_name (pg_name sc_told_row_X.nd rfl (by first | exact .inl rfl | exact .inr rfl))))
    (b_cons (s_dcompD (own := [("one", 5), ("part", 4)]) rfl sc_told_row_X.nd rfl rfl (sw_trueD rfl rfl rfl rfl) (id_items (pv 1)) (show BlkOk N_told_row_X (defScope (topS 62)) _ [("one", 5), ("part", 4)] from ⟨rfl, by decide +kernel, by decide +kernel, by decide +kernel, by decide +kernel⟩) (gb_tup rfl (gbs_cons (gb_name fun _ _ _ _ _ => pg_name sc_told_row_X.nd rfl (by first | exact .inl rfl | exact .inr rfl)) (gbs_cons (gb_name fun _ _ _ _ _ => pg_name sc_told_row_X.nd rfl (by first | exact .inl rfl | exact .inr rfl)) (gbs_nil)))).ex (by decide) (fun _ _ _ _ _ => ts_one (t_cmp (op_neD hr.units) g_ne (e_var (pv 4)) (e_gc (G.c_NOUGHT) rfl) (nomark _))) (fun _ _ _ _ _ => e_var (pv 5)) (fun _ _ _ _ _ => e_var (pv 4)))
    (b_nil)))))))
    (b_oneX (s_retX (e_tupX rfl (G.fr _ (by decide +kernel)) boot_tuple (e_var (pv 2))))))
/-! joined_log -/
def b_joined_log_X : FS := fSeqX (fExpr (fCall f_look_at_brackets (aCons (fV 0) (aNil)))) (fSeqX (fExpr (fCall f_look_at_brackets (aCons (fV 1) (aNil)))) (fSeqX (fExpr (fCall f_look_at_long (aCons (fV 2) (aNil)))) (fSeqX (fExpr (fCall f_look_at_letters (aCons (fN gTup (aCons (fV 0) (aCons (fV 1) (aNil)))) (aCons (fV 2) (aNil))))) (fSeqX (fAsg (gN 3) (fComp (fIt (fN gTup (aCons (fV 0) (aCons (fV 1) (aNil)))) kSeq) (gN 4) (fYes) (fCall f_told_exponential (aCons (fCall f_told_words (aCons (fV 4) (aCons (fV 2) (aNil)))) (aCons (fV 2) (aNil)))) [4])) (fRetX (fCall f_told_row_X (aCons (fCall f_told_logarithm (aCons (fCall q_told_joined (aCons (f2 gIx (fV 3) (fC (.int 0))) (aCons (f2 gIx (fV 3) (fC (.int 1))) (aCons (fV 2) (aNil))))) (aCons (fV 2) (aNil)))) (aNil))))))))
def f_joined_log_X : FF := mkFnX 3 5 b_joined_log_X
abbrev N_joined_log_X : List Str := ["one", "other", "long", "parts", "row"]
theorem sc_joined_log_X : FnScope N_joined_log_X ["one", "other", "long"] (defScope (topS 72)) := ⟨rfl, rfl, rfl, by decide +kernel, rfl, by decide +kernel, by decide +kernel⟩
theorem ok_joined_log_X (hX : XAok XA) (G : Tops K mg) : FnX P w K mg base XA "joined_log" ["one", "other", "long"] 15 f_joined_log_X := by
  obtain ⟨f, fd, F, hm⟩ := (G.fd "joined_log" 72 (by decide +kernel)).ex
  refine ⟨f, fd, hm, F.kp, F.bindsN (fun _ _ _ _ _ _ us hl => match us, hl with | [_, _, _], _ => rfl), fn_okX hX F sc_joined_log_X fun cdv A outer s H E hr => PSs.nox ?_⟩
  exact b_consX (s_expr (e_fn (ok_look_at_brackets hX G) hr (by decide) rfl (a_cons (e_var (pv 0)) (a_nil)) (by decide)))
    (b_consX (s_expr (e_fn (ok_look_at_brackets hX G) hr (by decide) rfl (a_cons (e_var (pv 1)) (a_nil)) (by decide)))
    (b_consX (s_expr (e_fn (ok_look_at_long hX G) hr (by decide) rfl (a_cons (e_var (pv 2)) (a_nil)) (by decide)))
    (b_consX (s_expr (e_fn (ok_look_at_letters hX G) hr (by decide) rfl (a_cons (e_tup (a_cons (e_var (pv 0)) (a_cons (e_var (pv 1)) (a_nil)))) (a_cons (e_var (pv 2)) (a_nil))) (by decide)))
    (b_consX (s_comp (own := [("row", 4)]) rfl sc_joined_log_X.nd rfl rfl (sw_true rfl rfl rfl rfl) (i_seq (e_tup (a_cons (e_var (pv 0)) (a_cons (e_var (pv 1)) (a_nil))))) (show BlkOk N_joined_log_X (defScope (topS 72)) _ [("row", 4)] from ⟨rfl, by decide +kernel, by decide +kernel, by decide +kernel, by decide +kernel⟩) (gb_name fun _ _ _ _ _ => pg_name sc_joined_log_X.nd rfl (by first | exact .inl rfl | exact .inr rfl)).ex (by decide) (fun _ _ _ _ _ => ts_nil) (fun _ _ _ _ _ => e_fn (ok_told_exponential hX G) hr (by decide) rfl (a_cons (e_fn (ok_told_words hX G) hr (by decide) rfl (a_cons (e_var (pv 4)) (a_cons (e_var (pv 2)) (a_nil))) (by decide)) (a_cons (e_var (pv 2)) (a_nil))) (by decide)))
    (b_oneX (s_retX (e_fnX (ok_told_row_X hX G) hr (by decide) rfl (a_cons (e_fn (ok_told_logarithm hX G) hr (by decide) rfl (a_cons (e_fn (ok_q_told_joined hX G) hr (by decide) rfl (a_cons (e_ix ix_seq g_ix (e_var (pv 3)) (e_const pe_int fun _ _ => .int _) (fun _ _ => rfl)) (a_cons (e_ix ix_seq g_ix (e_var (pv 3)) (e_const pe_int fun _ _ => .int _) (fun _ _ => rfl)) (a_cons (e_var (pv 2)) (a_nil)))) (by decide)) (a_cons (e_var (pv 2)) (a_nil))) (by decide)) (a_nil)) (by decide))))))))
/-! law -/
def b_law : FS := fSeq (fAsg (gN 1) (fN gTup (aCons (fN gTup (aCons (fC (.str [97])) (aCons (fN gTup (aCons (fC (.int 1)) (aCons (fC (.int 2)) (aNil)))) (aNil)))) (aCons (fN gTup (aCons (fC (.str [98])) (aCons (fN gTup (aCons (fC (.int 1)) (aCons (fC (.int 1)) (aNil)))) (aNil)))) (aCons (fN gTup (aCons (fC (.str [97])) (aCons (fN gTup (aCons (fC (.int 1)) (aCons (fC (.int 2)) (aNil)))) (aNil)))) (aNil)))))) (fSeq (fIfS (fOr (f2 gNe (fCall f_misses (aCons (fV 1) (aCons (fC (.int 4)) (aNil)))) (fN gTup (aCons (fN gTup (aCons (fC (.str [97, 97, 98])) (aCons (fN gTup (aCons (f1 gNeg (fC (.int 1))) (aCons (fC (.int 24)) (aNil)))) (aNil)))) (aCons (fN gTup (aCons (fC (.str [97, 98, 98])) (aCons (fN gTup (aCons (fC (.int 1)) (aCons (fC (.int 12)) (aNil)))) (aNil)))) (aNil))))) (f2 gNe (f2 gIx (fCall f_order_of (aCons (fV 1) (aCons (fC (.int 6)) (aNil)))) (fC (.int 1))) (fC (.int 2)))) (fSeq (fRet (fC (.bl false))) (fNxt)) (fNxt)) (fSeq (fAsg (gN 2) (fSl (fCall f_misses (aCons (fV 1) (aCons (fC (.int 5)) (aNil)))) (some (fC (.int 2))) none)) (fSeq (fIfS (f2 gNe (fComp (fIt (fV 2) kSeq) (gT 2 (gsC (gN 10) (gsC (gN 11) (gsN)))) (fYes) (fV 10) [10, 11]) (fN gLst (aCons (fC (.str [97, 97, 97, 97, 98])) (aCons (fC (.str [97, 97, 97, 98, 98])) (aCons (fC (.str [97, 97, 98, 97, 98])) (aCons (fC (.str [97, 97, 98, 98, 98])) (aCons (fC (.str [97, 98, 97, 98, 98])) (aCons (fC (.str [97, 98, 98, 98, 98])) (aNil))))))))) (fSeq (fRet (fC (.bl false))) (fNxt)) (fNxt)) (fSeq (fIfS (f2 gNe (f2 gIx (f2 gIx (fV 2) (fC (.int 0))) (fC (.int 1))) (fN gTup (aCons (fC (.int 7)) (aCons (fC (.int 5760)) (aNil))))) (fSeq (fRet (fC (.bl false))) (fNxt)) (fNxt)) (fSeq (fIfS (fOr (f2 gNe (f2 gIx (f2 gIx (fV 2) (f1 gNeg (fC (.int 1)))) (fC (.int 1))) (fN gTup (aCons (f1 gNeg (fC (.int 1))) (aCons (fC (.int 720)) (aNil))))) (f2 gNe (fComp (fIt (fN gTup (aCons (fC (.int 1)) (aCons (fC (.int 2)) (aCons (fC (.int 3)) (aNil))))) kSeq) (gN 9) (fYes) (fN gLen (aCons (fCall f_wrong_words (aCons (fV 1) (aCons (fV 9) (aNil)))) (aNil))) [9]) (fN gLst (aCons (fC (.int 0)) (aCons (fC (.int 0)) (aCons (fC (.int 2)) (aNil))))))) (fSeq (fRet (fC (.bl false))) (fNxt)) (fNxt)) (fSeq (fAsg (gN 3) (fN gTup (aCons (fN gTup (aCons (fC (.str [97])) (aCons (fN gTup (aCons (fC (.int 7)) (aCons (fC (.int 24)) (aNil)))) (aNil)))) (aCons (fN gTup (aCons (fC (.str [98])) (aCons (fN gTup (aCons (fC (.int 2)) (aCons (fC (.int 3)) (aNil)))) (aNil)))) (aCons (fN gTup (aCons (fC (.str [97])) (aCons (fN gTup (aCons (fC (.int 3)) (aCons (fC (.int 4)) (aNil)))) (aNil)))) (aCons (fN gTup (aCons (fC (.str [98])) (aCons (fN gTup (aCons (f1 gNeg (fC (.int 2))) (aCons (fC (.int 3)) (aNil)))) (aNil)))) (aCons (fN gTup (aCons (fC (.str [97])) (aCons (fN gTup (aCons (f1 gNeg (fC (.int 1))) (aCons (fC (.int 24)) (aNil)))) (aNil)))) (aCons (fN gTup (aCons (fC (.str [98])) (aCons (fN gTup (aCons (fC (.int 1)) (aCons (fC (.int 1)) (aNil)))) (aNil)))) (aNil))))))))) (fSeq (fIfS (fOr (f2 gNe (fSl (fCall f_order_of (aCons (fV 3) (aCons (fC (.int 5)) (aNil)))) none (some (fC (.int 2)))) (fN gTup (aCons (fC (.str [111, 114, 100, 101, 114])) (aCons (fC (.int 3)) (aNil))))) (fOr (f2 gNe (fCall f_back_places (aCons (fV 3) (aNil))) (fN gTup (aCons (fC (.int 3)) (aCons (fC (.int 4)) (aNil))))) (f2 gNe (fCall f_must_go_back (aCons (fV 3) (aNil))) (fN gTup (aCons (fC (.str [98, 97, 99, 107])) (aCons (fC (.int 4)) (aCons (fC (.int 3)) (aNil)))))))) (fSeq (fRet (fC (.bl false))) (fNxt)) (fNxt)) (fSeq (fIfS (fOr (f2 gNe (fCall f_sum_of_powers (aCons (fV 3) (aCons (fC (.int 3)) (aNil)))) (fN gTup (aCons (fC (.int 0)) (aCons (fC (.int 1)) (aNil))))) (f2 gNe (fCall f_order_of (aCons (f1 gRevT (fV 3)) (aCons (fC (.int 3)) (aNil)))) (fN gTup (aCons (fC (.str [97, 116, 32, 108, 101, 97, 115, 116])) (aCons (fC (.int 3)) (aNil)))))) (fSeq (fRet (fC (.bl false))) (fNxt)) (fNxt)) (fSeq (fAsg (gN 4) (f2 gAdd (fCall f_scaled (aCons (fV 3) (aCons (fN gTup (aCons (fC (.int 1)) (aCons (fC (.int 2)) (aNil)))) (aNil)))) (fCall f_scaled (aCons (f1 gRevT (fV 3)) (aCons (fN gTup (aCons (fC (.int 1)) (aCons (fC (.int 2)) (aNil)))) (aNil)))))) (fSeq (fIfS (fOr (f2 gNe (fCall f_order_of (aCons (fV 4) (aCons (fC (.int 4)) (aNil)))) (fN gTup (aCons (fC (.str [97, 116, 32, 108, 101, 97, 115, 116])) (aCons (fC (.int 4)) (aNil))))) (f1 gNot (fCall f_is_own_turned (aCons (fV 4) (aNil))))) (fSeq (fRet (fC (.bl false))) (fNxt)) (fNxt)) (fSeq (fAsg (gN 5) (fComp (fItA (aCons (fC (.int 1)) (aCons (fC (.int 7)) (aNil))) kR2) (gN 9) (fYes) (fCall f_how_many_lyndon (aCons (fC (.int 2)) (aCons (fV 9) (aNil)))) [9])) (fSeq (fIfS (f2 gNe (fComp (fItA (aCons (fC (.int 1)) (aCons (fC (.int 7)) (aNil))) kR2) (gN 9) (fYes) (fN gLen (aCons (fComp (fIt (fCall f_lyndon_words (aCons (fC (.int 2)) (aCons (fC (.int 6)) (aNil)))) kSeq) (gN 10) (f2 gEq (fN gLen (aCons (fV 10) (aNil))) (fV 9)) (fV 10) [10]) (aNil))) [9]) (fV 5)) (fSeq (fRet (fC (.bl false))) (fNxt)) (fNxt)) (fSeq (fIfS (fOr (f2 gNe (fCall f_corrections (aCons (fV 1) (aCons (fC (.int 3)) (aNil)))) (fN gTup (aCons (fN gTup (aNil)) (aCons (fN gTup (aNil)) (aCons (fN gTup (aCons (fN gTup (aCons (fC (.str [97, 97, 98])) (aCons (fN gTup (aCons (fC (.int 1)) (aCons (fC (.int 24)) (aNil)))) (aNil)))) (aCons (fN gTup (aCons (fC (.str [97, 98, 98])) (aCons (fN gTup (aCons (f1 gNeg (fC (.int 1))) (aCons (fC (.int 12)) (aNil)))) (aNil)))) (aNil)))) (aNil)))))) (f2 gNe (f2 gIx (fCall f_outer_number (aCons (fC (.int 2)) (aCons (fC (.int 2)) (aNil)))) (fC (.int 0))) (fC (.str [110, 111, 110, 101])))) (fSeq (fRet (fC (.bl false))) (fNxt)) (fNxt)) (fSeq (fPar 6 7 (fN gTup (aCons (fN gTup (aCons (fC (.str [97])) (aCons (fN gTup (aCons (fC (.int 1)) (aCons (fC (.int 1)) (aNil)))) (aNil)))) (aNil))) (fN gTup (aCons (fN gTup (aCons (fC (.str [98])) (aCons (fN gTup (aCons (fC (.int 1)) (aCons (fC (.int 1)) (aNil)))) (aNil)))) (aNil)))) (fSeq (fIfS (f2 gNe (fCall f_joined_log (aCons (fV 6) (aCons (fV 7) (aCons (fC (.int 6)) (aNil))))) (fCall f_log_of (aCons (fN gTup (aCons (fN gTup (aCons (fC (.str [97])) (aCons (fN gTup (aCons (fC (.int 1)) (aCons (fC (.int 1)) (aNil)))) (aNil)))) (aCons (fN gTup (aCons (fC (.str [98])) (aCons (fN gTup (aCons (fC (.int 1)) (aCons (fC (.int 1)) (aNil)))) (aNil)))) (aNil)))) (aCons (fC (.int 6)) (aNil))))) (fSeq (fRet (fC (.bl false))) (fNxt)) (fNxt)) (fSeq (fAsg (gN 8) (fDictT (fCall f_joined_log_X (aCons (fV 6) (aCons (fV 7) (aCons (fC (.int 6)) (aNil))))))) (fSeq (fIfS (f2 gNe (fComp (fIt (fN gTup (aCons (fC (.str [97, 97, 97, 98])) (aCons (fC (.str [97, 98, 98, 98])) (aCons (fC (.str [97, 97, 98, 98])) (aCons (fC (.str [97, 97, 97, 97, 97, 98])) (aNil)))))) kSeq) (gN 10) (fYes) (fRecv isDic (fV 8) fun x => fBind (fV 10) fun y _ st => ofO st (gDGet1 st x y)) [10]) (fN gLst (aCons (fC .non) (aCons (fC .non) (aCons (fN gTup (aCons (fC (.int 1)) (aCons (fC (.int 24)) (aNil)))) (aCons (fC .non) (aNil))))))) (fSeq (fRet (fC (.bl false))) (fNxt)) (fNxt)) (fSeq (fRet (fN gAll (aCons (fComp (fIt (fCall f_law_cells (aCons (fV 0) (aCons (fC (.int 3)) (aNil)))) kSeq) (gN 12) (fYes) (fLoc (fCall f_law_right (aCons (fCell (fCall f_law_pot (aCons (fV 0) (aCons (fV 12) (aNil))))) (aNil)))) [12]) (aNil)))) (fNxt)))))))))))))))))))
def f_law : FF := mkFn 1 13 b_law
abbrev N_law : List Str := ["script", "strang", "five", "ruth", "both", "counts", "one", "other", "told", "long", "word", "part", "at"]
theorem sc_law : FnScope N_law ["script"] (defScope (topS 142)) := ⟨rfl, rfl, rfl, by decide +kernel, rfl, by decide +kernel, by decide +kernel⟩
theorem okf_law (hX : XAok XA) (G : Tops K mg) {f : Addr} {fd : FuncData} (F : FunD K "law" "law" (defArgs (topS 142)) (defBody (topS 142)) (defScope (topS 142)) [] [] f fd) : FnOk P w K mg base CX0 17 f fd ["script"] (liftF K XA f_law) := by
  refine fn_ok hX F sc_law fun cdv A outer s H E hr => PSs.nox ?_
  exact b_cons (s_asg (e_tup (a_cons (e_tup (a_cons (e_const pe_str fun _ _ => .str _) (a_cons (e_tup (a_cons (e_const pe_int fun _ _ => .int _) (a_cons (e_const pe_int fun _ _ => .int _) (a_nil)))) (a_nil)))) (a_cons (e_tup (a_cons (e_const pe_str fun _ _ => .str _) (a_cons (e_tup (a_cons (e_const pe_int fun _ _ => .int _) (a_cons (e_const pe_int fun _ _ => .int _) (a_nil)))) (a_nil)))) (a_cons (e_tup (a_cons (e_const pe_str fun _ _ => .str _) (a_cons (e_tup (a_cons (e_const pe_int fun _ _ => .int _) (a_cons (e_const pe_int fun _ _ => .int _) (a_nil)))) (a_nil)))) (a_nil))))) (gl_name (pg_name sc_law.nd rfl (by first | exact .inl rfl | exact .inr rfl))))
    (b_cons (s_ifs (PW.pt (w_or (t_cmp (op_neD hr.units) g_ne (e_fn (ok_misses hX G) hr (by decide) rfl (a_cons (e_var (pv 1)) (a_cons (e_const pe_int fun _ _ => .int _) (a_nil))) (by decide)) (e_tup (a_cons (e_tup (a_cons (e_const pe_str fun _ _ => .str _) (a_cons (e_tup (a_cons (e_neg (e_const pe_int fun _ _ => .int _)) (a_cons (e_const pe_int fun _ _ => .int _) (a_nil)))) (a_nil)))) (a_cons (e_tup (a_cons (e_const pe_str fun _ _ => .str _) (a_cons (e_tup (a_cons (e_const pe_int fun _ _ => .int _) (a_cons (e_const pe_int fun _ _ => .int _) (a_nil)))) (a_nil)))) (a_nil)))) (nomark _)) (pw_or1 (t_cmp (op_neD hr.units) g_ne (e_ix ix_seq g_ix (e_fn (ok_order_of hX G) hr (by decide) rfl (a_cons (e_var (pv 1)) (a_cons (e_const pe_int fun _ _ => .int _) (a_nil))) (by decide)) (e_const pe_int fun _ _ => .int _) (fun _ _ => rfl)) (e_const pe_int fun _ _ => .int _) (nomark _))))) (b_cons (s_ret (e_const pe_bl fun _ _ => .bl _))
    (b_nil)) (b_nil))
    (b_cons (s_asg (e_sl (e_fn (ok_misses hX G) hr (by decide) rfl (a_cons (e_var (pv 1)) (a_cons (e_const pe_int fun _ _ => .int _) (a_nil))) (by decide)) (o_some (e_const pe_int fun _ _ => .int _)) o_none) (gl_name (pg_name sc_law.nd rfl (by first | exact .inl rfl | exact .inr rfl))))
    (b_cons (s_ifs (t_cmp (op_neD hr.units) g_ne (e_comp (own := [("word", 10), ("part", 11)]) rfl sc_law.nd (i_seq (e_var (pv 2))) (show BlkOk N_law (defScope (topS 142)) _ [("word", 10), ("part", 11)] from ⟨rfl, by decide +kernel, by decide +kernel, by decide +kernel, by decide +kernel⟩) (gb_tup rfl (gbs_cons (gb_name fun _ _ _ _ _ => pg_name sc_law.nd rfl (by first | exact .inl rfl | exact .inr rfl)) (gbs_cons (gb_name fun _ _ _ _ _ => pg_name sc_law.nd rfl (by first | exact .inl rfl | exact .inr rfl)) (gbs_nil)))).ex (by decide) (fun _ _ _ _ _ => ts_nil) (fun _ _ _ _ _ => e_var (pv 10))) (e_lst (a_cons (e_const pe_str fun _ _ => .str _) (a_cons (e_const pe_str fun _ _ => .str _) (a_cons (e_const pe_str fun _ _ => .str _) (a_cons (e_const pe_str fun _ _ => .str _) (a_cons (e_const pe_str fun _ _ => .str _) (a_cons (e_const pe_str fun _ _ => .str _) (a_nil)))))))) (nomark _)) (b_cons (s_ret (e_const pe_bl fun _ _ => .bl _))
    (b_nil)) (b_nil))
    (b_cons (s_ifs (t_cmp (op_neD hr.units) g_ne (e_ix ix_seq g_ix (e_ix ix_seq g_ix (e_var (pv 2)) (e_const pe_int fun _ _ => .int _) (fun _ _ => rfl)) (e_const pe_int fun _ _ => .int _) (fun _ _ => rfl)) (e_tup (a_cons (e_const pe_int fun _ _ => .int _) (a_cons (e_const pe_int fun _ _ => .int _) (a_nil)))) (nomark _)) (b_cons (s_ret (e_const pe_bl fun _ _ => .bl _))
    (b_nil)) (b_nil))
    (b_cons (s_ifs (PW.pt (w_or (t_cmp (op_neD hr.units) g_ne (e_ix ix_seq g_ix (e_ix ix_seq g_ix (e_var (pv 2)) (e_neg (e_const pe_int fun _ _ => .int _)) (fun _ _ => rfl)) (e_const pe_int fun _ _ => .int _) (fun _ _ => rfl)) (e_tup (a_cons (e_neg (e_const pe_int fun _ _ => .int _)) (a_cons (e_const pe_int fun _ _ => .int _) (a_nil)))) (nomark _)) (pw_or1 (t_cmp (op_neD hr.units) g_ne (e_comp (own := [("long", 9)]) rfl sc_law.nd (i_seq (e_tup (a_cons (e_const pe_int fun _ _ => .int _) (a_cons (e_const pe_int fun _ _ => .int _) (a_cons (e_const pe_int fun _ _ => .int _) (a_nil)))))) (show BlkOk N_law (defScope (topS 142)) _ [("long", 9)] from ⟨rfl, by decide +kernel, by decide +kernel, by decide +kernel, by decide +kernel⟩) (gb_name fun _ _ _ _ _ => pg_name sc_law.nd rfl (by first | exact .inl rfl | exact .inr rfl)).ex (by decide) (fun _ _ _ _ _ => ts_nil) (fun _ _ _ _ _ => e_callB call_len g_len rfl (G.fr _ (by decide +kernel)) boot_len (a_cons (e_fn (ok_wrong_words hX G) hr (by decide) rfl (a_cons (e_var (pv 1)) (a_cons (e_var (pv 9)) (a_nil))) (by decide)) (a_nil)))) (e_lst (a_cons (e_const pe_int fun _ _ => .int _) (a_cons (e_const pe_int fun _ _ => .int _) (a_cons (e_const pe_int fun _ _ => .int _) (a_nil))))) (nomark _))))) (b_cons (s_ret (e_const pe_bl fun _ _ => .bl _))
    (b_nil)) (b_nil))
    (b_cons (s_asg (e_tup (a_cons (e_tup (a_cons (e_const pe_str fun _ _ => .str _) (a_cons (e_tup (a_cons (e_const pe_int fun _ _ => .int _) (a_cons (e_const pe_int fun _ _ => .int _) (a_nil)))) (a_nil)))) (a_cons (e_tup (a_cons (e_const pe_str fun _ _ => .str _) (a_cons (e_tup (a_cons (e_const pe_int fun _ _ => .int _) (a_cons (e_const pe_int fun _ _ => .int _) (a_nil)))) (a_nil)))) (a_cons (e_tup (a_cons (e_const pe_str fun _ _ => .str _) (a_cons (e_tup (a_cons (e_const pe_int fun _ _ => .int _) (a_cons (e_const pe_int fun _ _ => .int _) (a_nil)))) (a_nil)))) (a_cons (e_tup (a_cons (e_const pe_str fun _ _ => .str _) (a_cons (e_tup (a_cons (e_neg (e_const pe_int fun _ _ => .int _)) (a_cons (e_const pe_int fun _ _ => .int _) (a_nil)))) (a_nil)))) (a_cons (e_tup (a_cons (e_const pe_str fun _ _ => .str _) (a_cons (e_tup (a_cons (e_neg (e_const pe_int fun _ _ => .int _)) (a_cons (e_const pe_int fun _ _ => .int _) (a_nil)))) (a_nil)))) (a_cons (e_tup (a_cons (e_const pe_str fun _ _ => .str _) (a_cons (e_tup (a_cons (e_const pe_int fun _ _ => .int _) (a_cons (e_const pe_int fun _ _ => .int _) (a_nil)))) (a_nil)))) (a_nil)))))))) (gl_name (pg_name sc_law.nd rfl (by first | exact .inl rfl | exact .inr rfl))))
    (b_cons (s_ifs (PW.pt (w_or (t_cmp (op_neD hr.units) g_ne (e_sl (e_fn (ok_order_of hX G) hr (by decide) rfl (a_cons (e_var (pv 3)) (a_cons (e_const pe_int fun _ _ => .int _) (a_nil))) (by decide)) o_none (o_some (e_const pe_int fun _ _ => .int _))) (e_tup (a_cons (e_const pe_str fun _ _ => .str _) (a_cons (e_const pe_int fun _ _ => .int _) (a_nil)))) (nomark _)) (w_or (t_cmp (op_neD hr.units) g_ne (e_fn (ok_back_places hX G) hr (by decide) rfl (a_cons (e_var (pv 3)) (a_nil)) (by decide)) (e_tup (a_cons (e_const pe_int fun _ _ => .int _) (a_cons (e_const pe_int fun _ _ => .int _) (a_nil)))) (nomark _)) (pw_or1 (t_cmp (op_neD hr.units) g_ne (e_fn (ok_must_go_back hX G) hr (by decide) rfl (a_cons (e_var (pv 3)) (a_nil)) (by decide)) (e_tup (a_cons (e_const pe_str fun _ _ => .str _) (a_cons (e_const pe_int fun _ _ => .int _) (a_cons (e_const pe_int fun _ _ => .int _) (a_nil))))) (nomark _)))))) (b_cons (s_ret (e_const pe_bl fun _ _ => .bl _))
    (b_nil)) (b_nil))
    (b_cons (s_ifs (PW.pt (w_or (t_cmp (op_neD hr.units) g_ne (e_fn (ok_sum_of_powers hX G) hr (by decide) rfl (a_cons (e_var (pv 3)) (a_cons (e_const pe_int fun _ _ => .int _) (a_nil))) (by decide)) (e_tup (a_cons (e_const pe_int fun _ _ => .int _) (a_cons (e_const pe_int fun _ _ => .int _) (a_nil)))) (nomark _)) (pw_or1 (t_cmp (op_neD hr.units) g_ne (e_fn (ok_order_of hX G) hr (by decide) rfl (a_cons (e_revT (e_var (pv 3))) (a_cons (e_const pe_int fun _ _ => .int _) (a_nil))) (by decide)) (e_tup (a_cons (e_const pe_str fun _ _ => .str _) (a_cons (e_const pe_int fun _ _ => .int _) (a_nil)))) (nomark _))))) (b_cons (s_ret (e_const pe_bl fun _ _ => .bl _))
    (b_nil)) (b_nil))
    (b_cons (s_asg (e_bin op_addA g_add (e_fn (ok_scaled hX G) hr (by decide) rfl (a_cons (e_var (pv 3)) (a_cons (e_tup (a_cons (e_const pe_int fun _ _ => .int _) (a_cons (e_const pe_int fun _ _ => .int _) (a_nil)))) (a_nil))) (by decide)) (e_fn (ok_scaled hX G) hr (by decide) rfl (a_cons (e_revT (e_var (pv 3))) (a_cons (e_tup (a_cons (e_const pe_int fun _ _ => .int _) (a_cons (e_const pe_int fun _ _ => .int _) (a_nil)))) (a_nil))) (by decide))) (gl_name (pg_name sc_law.nd rfl (by first | exact .inl rfl | exact .inr rfl))))
    (b_cons (s_ifs (PW.pt (w_or (t_cmp (op_neD hr.units) g_ne (e_fn (ok_order_of hX G) hr (by decide) rfl (a_cons (e_var (pv 4)) (a_cons (e_const pe_int fun _ _ => .int _) (a_nil))) (by decide)) (e_tup (a_cons (e_const pe_str fun _ _ => .str _) (a_cons (e_const pe_int fun _ _ => .int _) (a_nil)))) (nomark _)) (pw_or1 (t_not (t_val (e_fn (ok_is_own_turned hX G) hr (by decide) rfl (a_cons (e_var (pv 4)) (a_nil)) (by decide))))))) (b_cons (s_ret (e_const pe_bl fun _ _ => .bl _))
    (b_nil)) (b_nil))
    (b_cons (s_comp (own := [("long", 9)]) rfl sc_law.nd rfl rfl (sw_true rfl rfl rfl rfl) (i_rng2 rfl (G.fr _ (by decide +kernel)) (a_cons (e_const pe_int fun _ _ => .int _) (a_cons (e_const pe_int fun _ _ => .int _) (a_nil)))) (show BlkOk N_law (defScope (topS 142)) _ [("long", 9)] from ⟨rfl, by decide +kernel, by decide +kernel, by decide +kernel, by decide +kernel⟩) (gb_name fun _ _ _ _ _ => pg_name sc_law.nd rfl (by first | exact .inl rfl | exact .inr rfl)).ex (by decide) (fun _ _ _ _ _ => ts_nil) (fun _ _ _ _ _ => e_fn (ok_how_many_lyndon hX G) hr (by decide) rfl (a_cons (e_const pe_int fun _ _ => .int _) (a_cons (e_var (pv 9)) (a_nil))) (by decide)))
    (b_cons (s_ifs (t_cmp (op_neD hr.units) g_ne (e_comp (own := [("long", 9)]) rfl sc_law.nd (i_rng2 rfl (G.fr _ (by decide +kernel)) (a_cons (e_const pe_int fun _ _ => .int _) (a_cons (e_const pe_int fun _ _ => .int _) (a_nil)))) (show BlkOk N_law (defScope (topS 142)) _ [("long", 9)] from ⟨rfl, by decide +kernel, by decide +kernel, by decide +kernel, by decide +kernel⟩) (gb_name fun _ _ _ _ _ => pg_name sc_law.nd rfl (by first | exact .inl rfl | exact .inr rfl)).ex (by decide) (fun _ _ _ _ _ => ts_nil) (fun _ _ _ _ _ => e_callB call_len g_len rfl (G.fr _ (by decide +kernel)) boot_len (a_cons (e_comp (own := [("word", 10)]) rfl sc_law.nd (i_seq (e_fn (ok_lyndon_words hX G) hr (by decide) rfl (a_cons (e_const pe_int fun _ _ => .int _) (a_cons (e_const pe_int fun _ _ => .int _) (a_nil))) (by decide))) (show BlkOk N_law (relS _ (defScope (topS 142))) _ [("word", 10)] from ⟨rfl, by decide +kernel, by decide +kernel, by decide +kernel, by decide +kernel⟩) (gb_name fun _ _ _ _ _ => pg_name sc_law.nd rfl (by first | exact .inl rfl | exact .inr rfl)).ex (by decide) (fun _ _ _ _ _ => ts_one (t_cmp (op_eqD hr.units) g_eq (e_callB call_len g_len rfl (G.fr _ (by decide +kernel)) boot_len (a_cons (e_var (pv 10)) (a_nil))) (e_var (pv 9)) (nomark _))) (fun _ _ _ _ _ => e_var (pv 10))) (a_nil)))) (e_var (pv 5)) (nomark _)) (b_cons (s_ret (e_const pe_bl fun _ _ => .bl _))
    (b_nil)) (b_nil))
    (b_cons (s_ifs (PW.pt (w_or (t_cmp (op_neD hr.units) g_ne (e_fn (ok_corrections hX G) hr (by decide) rfl (a_cons (e_var (pv 1)) (a_cons (e_const pe_int fun _ _ => .int _) (a_nil))) (by decide)) (e_tup (a_cons (e_tup (a_nil)) (a_cons (e_tup (a_nil)) (a_cons (e_tup (a_cons (e_tup (a_cons (e_const pe_str fun _ _ => .str _) (a_cons (e_tup (a_cons (e_const pe_int fun _ _ => .int _) (a_cons (e_const pe_int fun _ _ => .int _) (a_nil)))) (a_nil)))) (a_cons (e_tup (a_cons (e_const pe_str fun _ _ => .str _) (a_cons (e_tup (a_cons (e_neg (e_const pe_int fun _ _ => .int _)) (a_cons (e_const pe_int fun _ _ => .int _) (a_nil)))) (a_nil)))) (a_nil)))) (a_nil))))) (nomark _)) (pw_or1 (t_cmp (op_neD hr.units) g_ne (e_ix ix_seq g_ix (e_fn (ok_outer_number hX G) hr (by decide) rfl (a_cons (e_const pe_int fun _ _ => .int _) (a_cons (e_const pe_int fun _ _ => .int _) (a_nil))) (by decide)) (e_const pe_int fun _ _ => .int _) (fun _ _ => rfl)) (e_const pe_str fun _ _ => .str _) (nomark _))))) (b_cons (s_ret (e_const pe_bl fun _ _ => .bl _))
    (b_nil)) (b_nil))
    (b_cons (s_par2 (i := 6) (j := 7) rfl (pg_name sc_law.nd rfl (by first | exact .inl rfl | exact .inr rfl)) (pg_name sc_law.nd rfl (by first | exact .inl rfl | exact .inr rfl)) (by decide) (e_tup (a_cons (e_tup (a_cons (e_const pe_str fun _ _ => .str _) (a_cons (e_tup (a_cons (e_const pe_int fun _ _ => .int _) (a_cons (e_const pe_int fun _ _ => .int _) (a_nil)))) (a_nil)))) (a_nil))) (e_tup (a_cons (e_tup (a_cons (e_const pe_str fun _ _ => .str _) (a_cons (e_tup (a_cons (e_const pe_int fun _ _ => .int _) (a_cons (e_const pe_int fun _ _ => .int _) (a_nil)))) (a_nil)))) (a_nil))))
    (b_cons (s_ifs (t_cmp (op_neD hr.units) g_ne (e_fn (ok_joined_log hX G) hr (by decide) rfl (a_cons (e_var (pv 6)) (a_cons (e_var (pv 7)) (a_cons (e_const pe_int fun _ _ => .int _) (a_nil)))) (by decide)) (e_fn (ok_log_of hX G) hr (by decide) rfl (a_cons (e_tup (a_cons (e_tup (a_cons (e_const pe_str fun _ _ => .str _) (a_cons (e_tup (a_cons (e_const pe_int fun _ _ => .int _) (a_cons (e_const pe_int fun _ _ => .int _) (a_nil)))) (a_nil)))) (a_cons (e_tup (a_cons (e_const pe_str fun _ _ => .str _) (a_cons (e_tup (a_cons (e_const pe_int fun _ _ => .int _) (a_cons (e_const pe_int fun _ _ => .int _) (a_nil)))) (a_nil)))) (a_nil)))) (a_cons (e_const pe_int fun _ _ => .int _) (a_nil))) (by decide)) (nomark _)) (b_cons (s_ret (e_const pe_bl fun _ _ => .bl _))
    (b_nil)) (b_nil))
    (b_cons (s_asg (e_dictT rfl rfl (G.fr _ (by decide +kernel)) boot_dict (e_fnX (ok_joined_log_X hX G) hr (by decide) rfl (a_cons (e_var (pv 6)) (a_cons (e_var (pv 7)) (a_cons (e_const pe_int fun _ _ => .int _) (a_nil)))) (by decide))) (gl_name (pg_name sc_law.nd rfl (by first | exact .inl rfl | exact .inr rfl))))
    (b_cons (s_ifs (t_cmp (op_neD hr.units) g_ne (e_comp (own := [("word", 10)]) rfl sc_law.nd (i_seq (e_tup (a_cons (e_const pe_str fun _ _ => .str _) (a_cons (e_const pe_str fun _ _ => .str _) (a_cons (e_const pe_str fun _ _ => .str _) (a_cons (e_const pe_str fun _ _ => .str _) (a_nil))))))) (show BlkOk N_law (defScope (topS 142)) _ [("word", 10)] from ⟨rfl, by decide +kernel, by decide +kernel, by decide +kernel, by decide +kernel⟩) (gb_name fun _ _ _ _ _ => pg_name sc_law.nd rfl (by first | exact .inl rfl | exact .inr rfl)).ex (by decide) (fun _ _ _ _ _ => ts_nil) (fun _ _ _ _ _ => e_dget1 (hu_of hr) (e_var (pv 8)) (e_var (pv 10)) ⟨rfl, rfl, rfl, rfl⟩)) (e_lst (a_cons (e_const pe_non fun _ _ => .non) (a_cons (e_const pe_non fun _ _ => .non) (a_cons (e_tup (a_cons (e_const pe_int fun _ _ => .int _) (a_cons (e_const pe_int fun _ _ => .int _) (a_nil)))) (a_cons (e_const pe_non fun _ _ => .non) (a_nil)))))) (nomark _)) (b_cons (s_ret (e_const pe_bl fun _ _ => .bl _))
    (b_nil)) (b_nil))
    (b_cons (s_ret (e_callB (cr_all rfl) g_all rfl (G.fr _ (by decide +kernel)) boot_all (a_cons (e_comp (own := [("at", 12)]) rfl sc_law.nd (i_seq (e_fn (ok_law_cells hX G) hr (by decide) rfl (a_cons (e_var (pv 0)) (a_cons (e_const pe_int fun _ _ => .int _) (a_nil))) (by decide))) (show BlkOk N_law (defScope (topS 142)) _ [("at", 12)] from ⟨rfl, by decide +kernel, by decide +kernel, by decide +kernel, by decide +kernel⟩) (gb_name fun _ _ _ _ _ => pg_name sc_law.nd rfl (by first | exact .inl rfl | exact .inr rfl)).ex (by decide) (fun _ _ _ _ _ => ts_nil) (fun _ _ _ _ _ => e_loc (e_fn (ok_law_right hX G) hr (by decide) rfl (a_cons (e_cell (e_fn (ok_law_pot hX G) hr (by decide) rfl (a_cons (e_var (pv 0)) (a_cons (e_var (pv 12)) (a_nil))) (by decide))) (a_nil)) (by decide)))) (a_nil))))
    (b_nil)))))))))))))))))))
end
end M85

set_option Elab.async false
set_option maxRecDepth 100000
set_option maxHeartbeats 0
namespace M85
open PySem PySem.Spec PyProof.Rows L2 EV
noncomputable section
def seqL : List FS → FS → FS
  | [], g => g
  | f :: fs, g => fSeq f (seqL fs g)
theorem seqL_ok {g : FS} {S : List (Option D)} {st' : Sto} : ∀ (fs : List FS) (e : Fr) (st : Sto), seqL fs fNxt e st = .nxt S st' → seqL fs g e st = g ⟨e.b, S⟩ st'
  | [], e, st, h => by cases h; rfl
  | f :: fs, e, st, h => by
    have h2 : (match f e st with
      | .nxt s st1 => seqL fs fNxt ⟨e.b, s⟩ st1
      | r => r) = .nxt S st' := h
    show (match f e st with
      | .nxt s st1 => seqL fs g ⟨e.b, s⟩ st1
      | r => r) = _
    cases hf : f e st with
    | nxt s st1 => rw [hf] at h2; exact seqL_ok fs ⟨e.b, s⟩ st1 h2
    | ret d fr st1 => rw [hf] at h2; cases h2
    | brk s st1 => rw [hf] at h2; cases h2
    | cnt s st1 => rw [hf] at h2; cases h2
    | exc c d s st1 => rw [hf] at h2; cases h2
    | stuck => rw [hf] at h2; cases h2
def lS0 : FS := fAsg (gN 1) (fN gTup (aCons (fN gTup (aCons (fC (.str [97])) (aCons (fN gTup (aCons (fC (.int 1)) (aCons (fC (.int 2)) (aNil)))) (aNil)))) (aCons (fN gTup (aCons (fC (.str [98])) (aCons (fN gTup (aCons (fC (.int 1)) (aCons (fC (.int 1)) (aNil)))) (aNil)))) (aCons (fN gTup (aCons (fC (.str [97])) (aCons (fN gTup (aCons (fC (.int 1)) (aCons (fC (.int 2)) (aNil)))) (aNil)))) (aNil)))))
def lS1 : FS := fIfS (fOr (f2 gNe (fCall f_misses (aCons (fV 1) (aCons (fC (.int 4)) (aNil)))) (fN gTup (aCons (fN gTup (aCons (fC (.str [97, 97, 98])) (aCons (fN gTup (aCons (f1 gNeg (fC (.int 1))) (aCons (fC (.int 24)) (aNil)))) (aNil)))) (aCons (fN gTup (aCons (fC (.str [97, 98, 98])) (aCons (fN gTup (aCons (fC (.int 1)) (aCons (fC (.int 12)) (aNil)))) (aNil)))) (aNil))))) (f2 gNe (f2 gIx (fCall f_order_of (aCons (fV 1) (aCons (fC (.int 6)) (aNil)))) (fC (.int 1))) (fC (.int 2)))) (fSeq (fRet (fC (.bl false))) (fNxt)) (fNxt)
def lS2 : FS := fAsg (gN 2) (fSl (fCall f_misses (aCons (fV 1) (aCons (fC (.int 5)) (aNil)))) (some (fC (.int 2))) none)
def lS3 : FS := fIfS (f2 gNe (fComp (fIt (fV 2) kSeq) (gT 2 (gsC (gN 10) (gsC (gN 11) (gsN)))) (fYes) (fV 10) [10, 11]) (fN gLst (aCons (fC (.str [97, 97, 97, 97, 98])) (aCons (fC (.str [97, 97, 97, 98, 98])) (aCons (fC (.str [97, 97, 98, 97, 98])) (aCons (fC (.str [97, 97, 98, 98, 98])) (aCons (fC (.str [97, 98, 97, 98, 98])) (aCons (fC (.str [97, 98, 98, 98, 98])) (aNil))))))))) (fSeq (fRet (fC (.bl false))) (fNxt)) (fNxt)
def lS4 : FS := fIfS (f2 gNe (f2 gIx (f2 gIx (fV 2) (fC (.int 0))) (fC (.int 1))) (fN gTup (aCons (fC (.int 7)) (aCons (fC (.int 5760)) (aNil))))) (fSeq (fRet (fC (.bl false))) (fNxt)) (fNxt)
def lS5 : FS := fIfS (fOr (f2 gNe (f2 gIx (f2 gIx (fV 2) (f1 gNeg (fC (.int 1)))) (fC (.int 1))) (fN gTup (aCons (f1 gNeg (fC (.int 1))) (aCons (fC (.int 720)) (aNil))))) (f2 gNe (fComp (fIt (fN gTup (aCons (fC (.int 1)) (aCons (fC (.int 2)) (aCons (fC (.int 3)) (aNil))))) kSeq) (gN 9) (fYes) (fN gLen (aCons (fCall f_wrong_words (aCons (fV 1) (aCons (fV 9) (aNil)))) (aNil))) [9]) (fN gLst (aCons (fC (.int 0)) (aCons (fC (.int 0)) (aCons (fC (.int 2)) (aNil))))))) (fSeq (fRet (fC (.bl false))) (fNxt)) (fNxt)
def lS6 : FS := fAsg (gN 3) (fN gTup (aCons (fN gTup (aCons (fC (.str [97])) (aCons (fN gTup (aCons (fC (.int 7)) (aCons (fC (.int 24)) (aNil)))) (aNil)))) (aCons (fN gTup (aCons (fC (.str [98])) (aCons (fN gTup (aCons (fC (.int 2)) (aCons (fC (.int 3)) (aNil)))) (aNil)))) (aCons (fN gTup (aCons (fC (.str [97])) (aCons (fN gTup (aCons (fC (.int 3)) (aCons (fC (.int 4)) (aNil)))) (aNil)))) (aCons (fN gTup (aCons (fC (.str [98])) (aCons (fN gTup (aCons (f1 gNeg (fC (.int 2))) (aCons (fC (.int 3)) (aNil)))) (aNil)))) (aCons (fN gTup (aCons (fC (.str [97])) (aCons (fN gTup (aCons (f1 gNeg (fC (.int 1))) (aCons (fC (.int 24)) (aNil)))) (aNil)))) (aCons (fN gTup (aCons (fC (.str [98])) (aCons (fN gTup (aCons (fC (.int 1)) (aCons (fC (.int 1)) (aNil)))) (aNil)))) (aNil))))))))
def lS7 : FS := fIfS (fOr (f2 gNe (fSl (fCall f_order_of (aCons (fV 3) (aCons (fC (.int 5)) (aNil)))) none (some (fC (.int 2)))) (fN gTup (aCons (fC (.str [111, 114, 100, 101, 114])) (aCons (fC (.int 3)) (aNil))))) (fOr (f2 gNe (fCall f_back_places (aCons (fV 3) (aNil))) (fN gTup (aCons (fC (.int 3)) (aCons (fC (.int 4)) (aNil))))) (f2 gNe (fCall f_must_go_back (aCons (fV 3) (aNil))) (fN gTup (aCons (fC (.str [98, 97, 99, 107])) (aCons (fC (.int 4)) (aCons (fC (.int 3)) (aNil)))))))) (fSeq (fRet (fC (.bl false))) (fNxt)) (fNxt)
def lS8 : FS := fIfS (fOr (f2 gNe (fCall f_sum_of_powers (aCons (fV 3) (aCons (fC (.int 3)) (aNil)))) (fN gTup (aCons (fC (.int 0)) (aCons (fC (.int 1)) (aNil))))) (f2 gNe (fCall f_order_of (aCons (f1 gRevT (fV 3)) (aCons (fC (.int 3)) (aNil)))) (fN gTup (aCons (fC (.str [97, 116, 32, 108, 101, 97, 115, 116])) (aCons (fC (.int 3)) (aNil)))))) (fSeq (fRet (fC (.bl false))) (fNxt)) (fNxt)
def lS9 : FS := fAsg (gN 4) (f2 gAdd (fCall f_scaled (aCons (fV 3) (aCons (fN gTup (aCons (fC (.int 1)) (aCons (fC (.int 2)) (aNil)))) (aNil)))) (fCall f_scaled (aCons (f1 gRevT (fV 3)) (aCons (fN gTup (aCons (fC (.int 1)) (aCons (fC (.int 2)) (aNil)))) (aNil)))))
def lS10 : FS := fIfS (fOr (f2 gNe (fCall f_order_of (aCons (fV 4) (aCons (fC (.int 4)) (aNil)))) (fN gTup (aCons (fC (.str [97, 116, 32, 108, 101, 97, 115, 116])) (aCons (fC (.int 4)) (aNil))))) (f1 gNot (fCall f_is_own_turned (aCons (fV 4) (aNil))))) (fSeq (fRet (fC (.bl false))) (fNxt)) (fNxt)
def lS11 : FS := fAsg (gN 5) (fComp (fItA (aCons (fC (.int 1)) (aCons (fC (.int 7)) (aNil))) kR2) (gN 9) (fYes) (fCall f_how_many_lyndon (aCons (fC (.int 2)) (aCons (fV 9) (aNil)))) [9])
def lS12 : FS := fIfS (f2 gNe (fComp (fItA (aCons (fC (.int 1)) (aCons (fC (.int 7)) (aNil))) kR2) (gN 9) (fYes) (fN gLen (aCons (fComp (fIt (fCall f_lyndon_words (aCons (fC (.int 2)) (aCons (fC (.int 6)) (aNil)))) kSeq) (gN 10) (f2 gEq (fN gLen (aCons (fV 10) (aNil))) (fV 9)) (fV 10) [10]) (aNil))) [9]) (fV 5)) (fSeq (fRet (fC (.bl false))) (fNxt)) (fNxt)
def lS13 : FS := fIfS (fOr (f2 gNe (fCall f_corrections (aCons (fV 1) (aCons (fC (.int 3)) (aNil)))) (fN gTup (aCons (fN gTup (aNil)) (aCons (fN gTup (aNil)) (aCons (fN gTup (aCons (fN gTup (aCons (fC (.str [97, 97, 98])) (aCons (fN gTup (aCons (fC (.int 1)) (aCons (fC (.int 24)) (aNil)))) (aNil)))) (aCons (fN gTup (aCons (fC (.str [97, 98, 98])) (aCons (fN gTup (aCons (f1 gNeg (fC (.int 1))) (aCons (fC (.int 12)) (aNil)))) (aNil)))) (aNil)))) (aNil)))))) (f2 gNe (f2 gIx (fCall f_outer_number (aCons (fC (.int 2)) (aCons (fC (.int 2)) (aNil)))) (fC (.int 0))) (fC (.str [110, 111, 110, 101])))) (fSeq (fRet (fC (.bl false))) (fNxt)) (fNxt)
def lS14 : FS := fPar 6 7 (fN gTup (aCons (fN gTup (aCons (fC (.str [97])) (aCons (fN gTup (aCons (fC (.int 1)) (aCons (fC (.int 1)) (aNil)))) (aNil)))) (aNil))) (fN gTup (aCons (fN gTup (aCons (fC (.str [98])) (aCons (fN gTup (aCons (fC (.int 1)) (aCons (fC (.int 1)) (aNil)))) (aNil)))) (aNil)))
def lS15 : FS := fIfS (f2 gNe (fCall f_joined_log (aCons (fV 6) (aCons (fV 7) (aCons (fC (.int 6)) (aNil))))) (fCall f_log_of (aCons (fN gTup (aCons (fN gTup (aCons (fC (.str [97])) (aCons (fN gTup (aCons (fC (.int 1)) (aCons (fC (.int 1)) (aNil)))) (aNil)))) (aCons (fN gTup (aCons (fC (.str [98])) (aCons (fN gTup (aCons (fC (.int 1)) (aCons (fC (.int 1)) (aNil)))) (aNil)))) (aNil)))) (aCons (fC (.int 6)) (aNil))))) (fSeq (fRet (fC (.bl false))) (fNxt)) (fNxt)
def lS16 : FS := fAsg (gN 8) (fDictT (fCall f_joined_log_X (aCons (fV 6) (aCons (fV 7) (aCons (fC (.int 6)) (aNil))))))
def lS17 : FS := fIfS (f2 gNe (fComp (fIt (fN gTup (aCons (fC (.str [97, 97, 97, 98])) (aCons (fC (.str [97, 98, 98, 98])) (aCons (fC (.str [97, 97, 98, 98])) (aCons (fC (.str [97, 97, 97, 97, 97, 98])) (aNil)))))) kSeq) (gN 10) (fYes) (fRecv isDic (fV 8) fun x => fBind (fV 10) fun y _ st => ofO st (gDGet1 st x y)) [10]) (fN gLst (aCons (fC .non) (aCons (fC .non) (aCons (fN gTup (aCons (fC (.int 1)) (aCons (fC (.int 24)) (aNil)))) (aCons (fC .non) (aNil))))))) (fSeq (fRet (fC (.bl false))) (fNxt)) (fNxt)
def lS18 : FS := fRet (fN gAll (aCons (fComp (fIt (fCall f_law_cells (aCons (fV 0) (aCons (fC (.int 3)) (aNil)))) kSeq) (gN 12) (fYes) (fLoc (fCall f_law_right (aCons (fCell (fCall f_law_pot (aCons (fV 0) (aCons (fV 12) (aNil))))) (aNil)))) [12]) (aNil)))
def rS0 : FS := fPar 1 2 (fN gTup (aCons (fN gTup (aCons (fC (.str [97])) (aCons (fN gTup (aCons (fC (.int 1)) (aCons (fC (.int 2)) (aNil)))) (aNil)))) (aCons (fN gTup (aCons (fC (.str [98])) (aCons (fN gTup (aCons (fC (.int 1)) (aCons (fC (.int 1)) (aNil)))) (aNil)))) (aCons (fN gTup (aCons (fC (.str [97])) (aCons (fN gTup (aCons (fC (.int 1)) (aCons (fC (.int 2)) (aNil)))) (aNil)))) (aNil))))) (fN gIntOf (aCons (f2 gAdd (fC (.int 1)) (fCall f_law_take (aCons (fV 0) (aCons (fC (.int 9)) (aNil))))) (aNil)))
def rS1 : FS := fAsg (gN 3) (fCall f_halves (aCons (fV 2) (aNil)))
def rS2 : FS := fIfS (fOr (f1 gNot (fCall f_sums_alike (aCons (fV 3) (aNil)))) (fOr (f1 gNot (fCall f_is_own_turned (aCons (fV 3) (aNil)))) (fOr (f1 gNot (fCall f_is_forward (aCons (fV 3) (aNil)))) (f2 gNe (fSl (fCall f_order_of (aCons (fV 3) (aCons (fC (.int 4)) (aNil)))) none (some (fC (.int 2)))) (fN gTup (aCons (fC (.str [111, 114, 100, 101, 114])) (aCons (fC (.int 2)) (aNil)))))))) (fSeq (fRet (fC (.bl false))) (fNxt)) (fNxt)
def rS3 : FS := fIfS (f2 gNe (fCall f_misses (aCons (fV 3) (aCons (fC (.int 4)) (aNil)))) (fCall f_row_taken (aCons (fCall f_misses (aCons (fV 1) (aCons (fC (.int 4)) (aNil)))) (aCons (fCall f_law_frac (aCons (fC (.int 1)) (aCons (f2 gMul (fV 2) (fV 2)) (aNil)))) (aNil))))) (fSeq (fRet (fC (.bl false))) (fNxt)) (fNxt)
def rS4 : FS := fIfS (f1 gNot (fCall f_are_same (aCons (fV 3) (aCons (fCall f_jump (aCons (fV 1) (aCons (f2 gMul (fN gTup (aCons (fCall f_law_frac (aCons (fC (.int 1)) (aCons (fV 2) (aNil)))) (aNil))) (fV 2)) (aNil)))) (aNil))))) (fSeq (fRet (fC (.bl false))) (fNxt)) (fNxt)
def rS5 : FS := fIfS (fOr (f2 gNe (fCall f_sum_of_powers (aCons (fV 3) (aCons (fC (.int 3)) (aNil)))) (fCall f_law_frac (aCons (fC (.int 1)) (aCons (f2 gMul (f2 gMul (fC (.int 4)) (fV 2)) (fV 2)) (aNil))))) (f2 gNe (fCall f_sum_of_powers (aCons (fV 3) (aCons (fC (.int 1)) (aNil)))) (fN gTup (aCons (fC (.int 1)) (aCons (fC (.int 1)) (aNil)))))) (fSeq (fRet (fC (.bl false))) (fNxt)) (fNxt)
def rS6 : FS := fAsg (gN 4) (fN gIntOf (aCons (f2 gAdd (fC (.int 1)) (fCall f_law_take (aCons (fV 0) (aCons (fC (.int 20)) (aNil))))) (aNil)))
def rS7 : FS := fAsg (gT 2 (gsC (gN 5) (gsC (gN 6) (gsN)))) (fCall f_turned_between (aCons (fCall f_jump_polynomial (aCons (fC (.int 2)) (aCons (fC (.int 2)) (aNil)))) (aCons (fN gTup (aCons (fC (.int 1)) (aCons (fC (.int 1)) (aNil)))) (aCons (fN gTup (aCons (fC (.int 2)) (aCons (fC (.int 1)) (aNil)))) (aCons (fV 4) (aNil))))))
def rS8 : FS := fAsg (gN 7) (fC (.int 1))
def rS9 : FS := fFor (fItA (aCons (fV 4) (aNil)) kR1) (gN 8) (fSeq (fAsg (gN 7) (f2 gMul (fV 7) (fC (.int 2)))) (fNxt))
def rS10 : FS := fIfS (f2 gNe (fCall f_law_less (aCons (fV 6) (aCons (fV 5) (aNil)))) (fN gTup (aCons (fC (.int 1)) (aCons (fV 7) (aNil))))) (fSeq (fRet (fC (.bl false))) (fNxt)) (fNxt)
def rS11 : FS := fRet (f2 gEq (f2 gIx (fCall f_does_raise (aCons (fC (.int 2)) (aCons (fN gTup (aCons (fV 5) (aCons (fCall f_law_less (aCons (fN gTup (aCons (fC (.int 1)) (aCons (fC (.int 1)) (aNil)))) (aCons (fCall f_law_times (aCons (fN gTup (aCons (fC (.int 2)) (aCons (fC (.int 1)) (aNil)))) (aCons (fV 5) (aNil)))) (aNil)))) (aCons (fV 5) (aNil))))) (aNil)))) (fC (.int 0))) (fC (.str [110, 111, 116])))
def lSS : List FS := [lS0, lS1, lS2, lS3, lS4, lS5, lS6, lS7, lS8, lS9, lS10, lS11, lS12, lS13, lS14, lS15, lS16, lS17]
theorem b_law_eq : b_law = seqL lSS (fSeq lS18 fNxt) := rfl
def rA : List FS := [rS1, rS2, rS3, rS4, rS5]
def rB : List FS := [rS7, rS8, rS9, rS10, rS11]
theorem b_right_eq : b_law_right = fSeq rS0 (seqL rA (fSeq rS6 (seqL rB fNxt))) := rfl
end
end M85

set_option Elab.async false
set_option maxRecDepth 100000
set_option maxHeartbeats 0
namespace M85
open PySem PySem.Spec PyProof.Rows L2 EV
noncomputable section
def strangD : D := .tup [.tup [.str [97], .tup [.int 1, .int 2]], .tup [.str [98], .tup [.int 1, .int 1]], .tup [.str [97], .tup [.int 1, .int 2]]]
def oneD : D := .tup [.tup [.str [97], .tup [.int 1, .int 1]]]
def otherD : D := .tup [.tup [.str [98], .tup [.int 1, .int 1]]]
def abD : D := .tup [.tup [.str [97], .tup [.int 1, .int 1]], .tup [.str [98], .tup [.int 1, .int 1]]]
def bchV : List D := [.tup [.str [97], .tup [.int 1, .int 1]], .tup [.str [98], .tup [.int 1, .int 1]], .tup [.str [97, 98], .tup [.int 1, .int 2]], .tup [.str [97, 97, 98], .tup [.int 1, .int 12]], .tup [.str [97, 98, 98], .tup [.int 1, .int 12]], .tup [.str [97, 97, 98, 98], .tup [.int 1, .int 24]], .tup [.str [97, 97, 97, 97, 98], .tup [.int (-1), .int 720]], .tup [.str [97, 97, 97, 98, 98], .tup [.int 1, .int 180]], .tup [.str [97, 97, 98, 97, 98], .tup [.int 1, .int 360]], .tup [.str [97, 97, 98, 98, 98], .tup [.int 1, .int 180]], .tup [.str [97, 98, 97, 98, 98], .tup [.int 1, .int 120]], .tup [.str [97, 98, 98, 98, 98], .tup [.int (-1), .int 720]], .tup [.str [97, 97, 97, 97, 98, 98], .tup [.int (-1), .int 1440]], .tup [.str [97, 97, 97, 98, 97, 98], .tup [.int 1, .int 720]], .tup [.str [97, 97, 97, 98, 98, 98], .tup [.int 1, .int 360]], .tup [.str [97, 97, 98, 97, 98, 98], .tup [.int 1, .int 240]], .tup [.str [97, 97, 98, 98, 98, 98], .tup [.int (-1), .int 1440]]]
def halvesL (m : Int) : List Nat → List D
  | [] => []
  | [_] => [.tup [.str [98], .tup [.int 1, .int m]], .tup [.str [97], .tup [.int 1, .int (2 * m)]]]
  | _ :: r => .tup [.str [98], .tup [.int 1, .int m]] :: .tup [.str [97], .tup [.int 1, .int m]] :: halvesL m r
def halvesD (m : Nat) : D := .tup (.tup [.str [97], .tup [.int 1, .int (2 * (m : Int))]] :: halvesL m (List.range m))
def frA (many : Int) : Fr := ⟨2, [some (.cell 1), some strangD, some (.int many), none, none, none, none, none, none]⟩
def frB (o1 o2 o3 : Option D) (k : Int) : Fr := ⟨2, [some (.cell 1), o1, o2, o3, some (.int k), none, none, none, none]⟩
def hd13 : RS → Option D
  | .nxt [o, _, _, _, _, _, _, _, _, _, _, _, _] [] => o
  | _ => none
def initL (xs : List Int) : Fr := ⟨0, some (.scr xs) :: List.replicate 12 none⟩
theorem pB1 (c0 c1 : CO) (o1 o2 o3 : Option D) : seqL rB fNxt (frB o1 o2 o3 1) [c0, c1] = .ret (.bl true) false [c0, c1] := by kernel_rfl
theorem pB2 (c0 c1 : CO) (o1 o2 o3 : Option D) : seqL rB fNxt (frB o1 o2 o3 2) [c0, c1] = .ret (.bl true) false [c0, c1] := by kernel_rfl
theorem pB3 (c0 c1 : CO) (o1 o2 o3 : Option D) : seqL rB fNxt (frB o1 o2 o3 3) [c0, c1] = .ret (.bl true) false [c0, c1] := by kernel_rfl
theorem pB4 (c0 c1 : CO) (o1 o2 o3 : Option D) : seqL rB fNxt (frB o1 o2 o3 4) [c0, c1] = .ret (.bl true) false [c0, c1] := by kernel_rfl
theorem pB5 (c0 c1 : CO) (o1 o2 o3 : Option D) : seqL rB fNxt (frB o1 o2 o3 5) [c0, c1] = .ret (.bl true) false [c0, c1] := by kernel_rfl
theorem pB6 (c0 c1 : CO) (o1 o2 o3 : Option D) : seqL rB fNxt (frB o1 o2 o3 6) [c0, c1] = .ret (.bl true) false [c0, c1] := by kernel_rfl
theorem pB7 (c0 c1 : CO) (o1 o2 o3 : Option D) : seqL rB fNxt (frB o1 o2 o3 7) [c0, c1] = .ret (.bl true) false [c0, c1] := by kernel_rfl
theorem pB8 (c0 c1 : CO) (o1 o2 o3 : Option D) : seqL rB fNxt (frB o1 o2 o3 8) [c0, c1] = .ret (.bl true) false [c0, c1] := by kernel_rfl
theorem pB9 (c0 c1 : CO) (o1 o2 o3 : Option D) : seqL rB fNxt (frB o1 o2 o3 9) [c0, c1] = .ret (.bl true) false [c0, c1] := by kernel_rfl
theorem pB10 (c0 c1 : CO) (o1 o2 o3 : Option D) : seqL rB fNxt (frB o1 o2 o3 10) [c0, c1] = .ret (.bl true) false [c0, c1] := by kernel_rfl
theorem pB11 (c0 c1 : CO) (o1 o2 o3 : Option D) : seqL rB fNxt (frB o1 o2 o3 11) [c0, c1] = .ret (.bl true) false [c0, c1] := by kernel_rfl
theorem pB12 (c0 c1 : CO) (o1 o2 o3 : Option D) : seqL rB fNxt (frB o1 o2 o3 12) [c0, c1] = .ret (.bl true) false [c0, c1] := by kernel_rfl
theorem pB13 (c0 c1 : CO) (o1 o2 o3 : Option D) : seqL rB fNxt (frB o1 o2 o3 13) [c0, c1] = .ret (.bl true) false [c0, c1] := by kernel_rfl
theorem pB14 (c0 c1 : CO) (o1 o2 o3 : Option D) : seqL rB fNxt (frB o1 o2 o3 14) [c0, c1] = .ret (.bl true) false [c0, c1] := by kernel_rfl
theorem pB15 (c0 c1 : CO) (o1 o2 o3 : Option D) : seqL rB fNxt (frB o1 o2 o3 15) [c0, c1] = .ret (.bl true) false [c0, c1] := by kernel_rfl
theorem pB16 (c0 c1 : CO) (o1 o2 o3 : Option D) : seqL rB fNxt (frB o1 o2 o3 16) [c0, c1] = .ret (.bl true) false [c0, c1] := by kernel_rfl
theorem pB17 (c0 c1 : CO) (o1 o2 o3 : Option D) : seqL rB fNxt (frB o1 o2 o3 17) [c0, c1] = .ret (.bl true) false [c0, c1] := by kernel_rfl
theorem pB18 (c0 c1 : CO) (o1 o2 o3 : Option D) : seqL rB fNxt (frB o1 o2 o3 18) [c0, c1] = .ret (.bl true) false [c0, c1] := by kernel_rfl
theorem pB19 (c0 c1 : CO) (o1 o2 o3 : Option D) : seqL rB fNxt (frB o1 o2 o3 19) [c0, c1] = .ret (.bl true) false [c0, c1] := by kernel_rfl
theorem pB20 (c0 c1 : CO) (o1 o2 o3 : Option D) : seqL rB fNxt (frB o1 o2 o3 20) [c0, c1] = .ret (.bl true) false [c0, c1] := by kernel_rfl
theorem pA1 (c0 c1 : CO) : seqL rA fNxt (frA 1) [c0, c1] = .nxt [some (.cell 1), some strangD, some (.int 1), some (halvesD 1), none, none, none, none, none] [c0, c1] := by kernel_rfl
theorem pA2 (c0 c1 : CO) : seqL rA fNxt (frA 2) [c0, c1] = .nxt [some (.cell 1), some strangD, some (.int 2), some (halvesD 2), none, none, none, none, none] [c0, c1] := by kernel_rfl
theorem pA3 (c0 c1 : CO) : seqL rA fNxt (frA 3) [c0, c1] = .nxt [some (.cell 1), some strangD, some (.int 3), some (halvesD 3), none, none, none, none, none] [c0, c1] := by kernel_rfl
theorem pA4 (c0 c1 : CO) : seqL rA fNxt (frA 4) [c0, c1] = .nxt [some (.cell 1), some strangD, some (.int 4), some (halvesD 4), none, none, none, none, none] [c0, c1] := by kernel_rfl
theorem pA5 (c0 c1 : CO) : seqL rA fNxt (frA 5) [c0, c1] = .nxt [some (.cell 1), some strangD, some (.int 5), some (halvesD 5), none, none, none, none, none] [c0, c1] := by kernel_rfl
theorem pA6 (c0 c1 : CO) : seqL rA fNxt (frA 6) [c0, c1] = .nxt [some (.cell 1), some strangD, some (.int 6), some (halvesD 6), none, none, none, none, none] [c0, c1] := by kernel_rfl
theorem pA7 (c0 c1 : CO) : seqL rA fNxt (frA 7) [c0, c1] = .nxt [some (.cell 1), some strangD, some (.int 7), some (halvesD 7), none, none, none, none, none] [c0, c1] := by kernel_rfl
theorem pA8 (c0 c1 : CO) : seqL rA fNxt (frA 8) [c0, c1] = .nxt [some (.cell 1), some strangD, some (.int 8), some (halvesD 8), none, none, none, none, none] [c0, c1] := by kernel_rfl
theorem pA9 (c0 c1 : CO) : seqL rA fNxt (frA 9) [c0, c1] = .nxt [some (.cell 1), some strangD, some (.int 9), some (halvesD 9), none, none, none, none, none] [c0, c1] := by kernel_rfl
theorem headA (xs : List Int) : hd13 (seqL (lSS.take 14) fNxt (initL xs) []) = some (.scr xs) := by kernel_rfl
theorem jxV : f_joined_log_X [oneD, otherD, .int 6] [] = .ok (.tup bchV) false [] := by kernel_rfl
theorem lgV : f_log_of [abD, .int 6] [] = .ok (.tup bchV) false [] := by kernel_rfl
end
end M85

set_option Elab.async false
set_option maxRecDepth 100000
set_option maxHeartbeats 4000000
set_option exponentiation.threshold 20000
namespace M85
open PySem PySem.Spec PyProof.Rows L2 EV
noncomputable section
/-! ### steps over whole numbers -/
section
variable {fa fb : FE} {e : Fr} {st : Sto} {x y : Int}
theorem mod_f (ha : fa e st = .ok (.int x) false st) (hb : fb e st = .ok (.int y) false st) (h : 0 < y) : f2 (gInt kMod) fa fb e st = .ok (.int (x % y)) false st := by
  rw [f2_ok ha hb]
  unfold gInt kMod
  simp only []
  rw [if_pos h]
  rfl
theorem div_f (ha : fa e st = .ok (.int x) false st) (hb : fb e st = .ok (.int y) false st) (h : okD y = true) : f2 (gInt kDiv) fa fb e st = .ok (.int (x / y)) false st := by
  rw [f2_ok ha hb]
  unfold gInt kDiv
  simp only []
  rw [if_pos h]
  rfl
theorem pow_f (ha : fa e st = .ok (.int x) false st) (hb : fb e st = .ok (.int 3) false st) (h : x.natAbs < 2 ^ 64) : f2 (gInt kPowW) fa fb e st = .ok (.int (x ^ 3)) false st := by
  rw [f2_ok ha hb]
  unfold gInt kPowW
  simp only []
  rw [if_pos (by rw [decide_eq_true (Nat.lt_trans h (Nat.pow_lt_pow_right (by decide) (by decide)) : x.natAbs < 2 ^ 10000)]; decide)]
  rfl
theorem int_f (ha : fa e st = .ok (.int x) false st) : fN gIntOf (aCons fa aNil) e st = .ok (.int x) false st := by
  unfold fN
  rw [acons_ok ha (anil_ok e st)]
  rfl
theorem fN_ok {g : Sto → List D → Option (D × Bool)} {f : FA} {ds : List D} {st1 : Sto} (h : f e st = .ok ds st1) : fN g f e st = ofO st1 (g st1 ds) := by
  unfold fN
  rw [h]
theorem seq_nxt {f g : FS} {e : Fr} {s : List (Option D)} {st st' : Sto} {r : RS} (h : f e st = .nxt s st') (h2 : g ⟨e.b, s⟩ st' = r) : fSeq f g e st = r := (fSeq_nxt h).trans h2
theorem asg_f {f : FE} {i : Nat} {d : D} {fr : Bool} {st' : Sto} (h : f e st = .ok d fr st') : fAsg (gN i) f e st = .nxt (e.s.set i (some d)) st' := by
  unfold fAsg fBindS
  rw [h]
  rfl
theorem ret_f {f : FE} {d : D} {fr : Bool} {st' : Sto} (h : f e st = .ok d fr st') : fRet f e st = .ret d fr st' := by
  unfold fRet fBindS
  rw [h]
theorem if_f {c : FE} {f g : FS} {b : Bool} {fr : Bool} {st' : Sto} (h : c e st = .ok (.bl b) fr st') : fIfS c f g e st = (if b = true then f else g) e st' := by
  unfold fIfS fBindS
  rw [h]
  rfl
end
/-! ### a draw -/
section
variable (c0 : CO) (a b c n : Int)
abbrev stT : Sto := [c0, .lst [.int a, .int b, .int c]]
abbrev frT (o2 o3 o4 : Option D) : Fr := ⟨2, [some (.cell 1), some (.int n), o2, o3, o4]⟩
theorem ix0 (o2 o3 o4 : Option D) : f2 gIx (fV 0) (fC (.int 0)) (frT n o2 o3 o4) (stT c0 a b c) = .ok (.int a) false (stT c0 a b c) := rfl
theorem ix1 (o2 o3 o4 : Option D) : f2 gIx (fV 0) (fC (.int 1)) (frT n o2 o3 o4) (stT c0 a b c) = .ok (.int b) false (stT c0 a b c) := rfl
theorem ix2 (o2 o3 o4 : Option D) : f2 gIx (fV 0) (fC (.int 2)) (frT n o2 o3 o4) (stT c0 a b c) = .ok (.int c) false (stT c0 a b c) := rfl
theorem put0 {f : FE} (o2 o3 o4 : Option D) {x : Int} (h : f (frT n o2 o3 o4) (stT c0 a b c) = .ok (.int x) false (stT c0 a b c)) : fPut setL (fV 0) (fC (.int 0)) f (frT n o2 o3 o4) (stT c0 a b c) = .nxt (frT n o2 o3 o4).s (stT c0 x b c) := by
  unfold fPut fBindS
  rw [h]
  rfl
theorem put2 {f : FE} (o2 o3 o4 : Option D) {x : Int} (h : f (frT n o2 o3 o4) (stT c0 a b c) = .ok (.int x) false (stT c0 a b c)) : fPut setL (fV 0) (fC (.int 2)) f (frT n o2 o3 o4) (stT c0 a b c) = .nxt (frT n o2 o3 o4).s (stT c0 a b x) := by
  unfold fPut fBindS
  rw [h]
  rfl
theorem take_pos (ha : 0 < a) (hn : 0 < n) (hd : okD n = true) : b_law_take (frT n none none none) (stT c0 a b c) = .ret (.int (a % n)) false (stT c0 (a / n) b c) := by
  unfold b_law_take
  refine fSeq_ret ?_
  refine (if_f (b := true) (fr := false) (st' := stT c0 a b c) ?_).trans ?_
  · show R.ok (.bl (decide (0 < a))) false (stT c0 a b c) = _
    rw [decide_eq_true ha]
  · show (fSeq _ _) _ _ = _
    refine seq_nxt (asg_f (mod_f (int_f (ix0 c0 a b c n none none none)) rfl hn)) ?_
    refine seq_nxt (put0 c0 a b c n none none (some (.int (a % n))) (div_f (ix0 c0 a b c n none none (some (.int (a % n)))) rfl hd)) ?_
    exact fSeq_ret (ret_f rfl)
def primes : List Int := [2147483647, 2147483629, 2147483587, 2147483579, 2147483563]
theorem okq_of {x : Int} (h : x.natAbs < 2 ^ 200) : okq x := Nat.lt_trans h (Nat.pow_lt_pow_right (by decide) (by decide))
theorem seq_ex {f g : FS} {e : Fr} {s : List (Option D)} {st st' st2 : Sto} {n : Int} (h : f e st = .nxt s st') (h2 : ∃ r, g ⟨e.b, s⟩ st' = .ret (.int r) false st2 ∧ 0 ≤ r ∧ r < n) : ∃ r, fSeq f g e st = .ret (.int r) false st2 ∧ 0 ≤ r ∧ r < n := by
  rw [fSeq_nxt h]
  exact h2
theorem take_zero (ha : a ≤ 0) (hb0 : 0 ≤ b) (hb : b < 2305843009213693951) (hc : c = 0 ∨ c = 1) (hn : 0 < n) : ∃ r, b_law_take (frT n none none none) (stT c0 a b c) = .ret (.int r) false (stT c0 a b (c + 1)) ∧ 0 ≤ r ∧ r < n := by
  unfold b_law_take
  refine seq_ex (s := (frT n none none none).s) (st' := stT c0 a b c) ?_ ?_
  · refine (if_f (b := false) (fr := false) (st' := stT c0 a b c) ?_).trans ?_
    · show R.ok (.bl (decide (0 < a))) false (stT c0 a b c) = _
      rw [decide_eq_false (by omega)]
    · rfl
  have hq : okq (c + 1) := okq_of (by rcases hc with rfl | rfl <;> decide)
  have hq2 : okq (90007 * (c + 1)) := okq_of (by rcases hc with rfl | rfl <;> decide)
  refine seq_ex (put2 c0 a b c n none none none (add_f (ix2 c0 a b c n none none none) rfl)) ?_
  have hp : ∃ p : Int, f2 gIx (fN gLst (aCons (fC (.int 2147483647)) (aCons (fC (.int 2147483629)) (aCons (fC (.int 2147483587)) (aCons (fC (.int 2147483579)) (aCons (fC (.int 2147483563)) (aNil))))))) (f2 (gInt kMod) (fN gIntOf (aCons (f2 gIx (fV 0) (fC (.int 2))) (aNil))) (fC (.int 5))) (frT n none none none) (stT c0 a b (c + 1)) = .ok (.int p) false (stT c0 a b (c + 1)) ∧ 0 < p ∧ p < 2 ^ 31 := by
    rcases hc with rfl | rfl
    · exact ⟨2147483629, rfl, by decide, by decide⟩
    · exact ⟨2147483587, rfl, by decide, by decide⟩
  obtain ⟨p, e1, p0, p1⟩ := hp
  refine seq_ex (asg_f e1) ?_
  have hx : ∀ o2 o3 o4, fN gIntOf (aCons (f2 gAdd (f2 gAdd (f2 gIx (fV 0) (fC (.int 1))) (f2 gMul (f2 gMul (fC (.int 90007)) (f2 gIx (fV 0) (fC (.int 2)))) (f2 gIx (fV 0) (fC (.int 2))))) (fC (.int 3011))) (aNil)) (frT n o2 o3 o4) (stT c0 a b (c + 1)) = .ok (.int (b + 90007 * (c + 1) * (c + 1) + 3011)) false (stT c0 a b (c + 1)) := fun o2 o3 o4 =>
    int_f (add_f (add_f (ix1 c0 a b (c + 1) n o2 o3 o4) (mul_f (mul_f rfl (ix2 c0 a b (c + 1) n o2 o3 o4) (okq_of (by decide)) hq) (ix2 c0 a b (c + 1) n o2 o3 o4) hq2 hq)) rfl)
  have hz : (b + 90007 * (c + 1) * (c + 1) + 3011).natAbs < 2 ^ 64 := by rcases hc with rfl | rfl <;> omega
  refine seq_ex (asg_f (mod_f (int_f (pow_f (hx _ _ _) rfl hz)) rfl p0)) ?_
  generalize b + 90007 * (c + 1) * (c + 1) + 3011 = z
  have m0 : 0 ≤ z ^ 3 % p := Int.emod_nonneg _ (by omega)
  have m1 : z ^ 3 % p < p := Int.emod_lt_of_pos _ p0
  generalize z ^ 3 % p = m at m0 m1
  have k0 : 0 ≤ m % 13729 := Int.emod_nonneg _ (by decide)
  have k1 : m % 13729 < 13729 := Int.emod_lt_of_pos _ (by decide)
  have q1 : okq m := okq_of (Nat.lt_trans (show m.natAbs < 2 ^ 31 by omega) (by decide))
  have q2 : okq (m % 13729 + 433 * (c + 1)) := okq_of (Nat.lt_trans (show _ < 2 ^ 31 by rcases hc with rfl | rfl <;> omega) (by decide))
  refine seq_ex (asg_f (mod_f (int_f (mul_f (x := m) (y := m % 13729 + 433 * (c + 1)) rfl (add_f (mod_f (int_f rfl) rfl (by decide)) (mul_f rfl (ix2 c0 a b (c + 1) n _ _ _) (okq_of (by decide)) hq)) q1 q2)) rfl (by decide))) ?_
  exact ⟨_, fSeq_ret (ret_f (mod_f (int_f (div_f rfl rfl (by decide +kernel))) rfl hn)), Int.emod_nonneg _ (by omega), Int.emod_lt_of_pos _ hn⟩
theorem take_ok (ha0 : 0 ≤ a) (hb0 : 0 ≤ b) (hb : b < 2305843009213693951) (hc : c = 0 ∨ c = 1) (hn : 0 < n) (hd : okD n = true) : ∃ r a' c', f_law_take [.cell 1, .int n] (stT c0 a b c) = .ok (.int r) false (stT c0 a' b c') ∧ 0 ≤ r ∧ r < n ∧ 0 ≤ a' ∧ (c' = c ∨ c' = c + 1) := by
  by_cases h : 0 < a
  · refine ⟨a % n, a / n, c, ?_, Int.emod_nonneg _ (by omega), Int.emod_lt_of_pos _ hn, Int.ediv_nonneg ha0 (by omega), .inl rfl⟩
    show endB 2 (b_law_take (frT n none none none) (stT c0 a b c)) = _
    rw [take_pos c0 a b c n h hn hd]
    rfl
  · obtain ⟨r, e, r0, r1⟩ := take_zero c0 a b c n (by omega) hb0 hb hc hn
    refine ⟨r, a, c + 1, ?_, r0, r1, ha0, .inr rfl⟩
    show endB 2 (b_law_take (frT n none none none) (stT c0 a b c)) = _
    rw [e]
    rfl
end
/-! ### a pot -/
section
variable (xs : List Int) (k : Nat) (st : Sto)
abbrev frP (o2 o3 o4 : Option D) : Fr := ⟨st.length, [some (.scr xs), some (.int (k : Int)), o2, o3, o4]⟩
theorem cell_val (hk : k < 3) : ∃ z : Int, fIf (f2 (gInt kLt) (fV 1) (fN gLen (aCons (fV 0) (aNil)))) (f2 gIx (fV 0) (fV 1)) (f2 gAdd (f2 gAdd (f2 (gInt kMod) (fN gIntOf (aCons (fN gSum (aCons (fSl (fV 0) none (some (fC (.int 1)))) (aNil))) (aNil))) (fC (.int 1000381))) (f2 gMul (fC (.int 5077)) (fV 1))) (fC (.int 3121))) (frP xs k st none none none) st = .ok (.int z) false st := by
  have e0 : f2 (gInt kLt) (fV 1) (fN gLen (aCons (fV 0) (aNil))) (frP xs k st none none none) st = .ok (.bl (decide ((k : Int) < (xs.length : Int)))) false st := rfl
  unfold fIf fBind
  rw [e0]
  by_cases h : k < xs.length
  · have h1 : ((k : Int) < (xs.length : Int)) := by omega
    rw [decide_eq_true h1]
    refine ⟨xs[k], ?_⟩
    show ofO st ((atI xs (k : Int)).map fun n => (D.int n, false)) = _
    have e : atI xs (k : Int) = some xs[k] := by
      unfold atI ixN
      rw [if_pos (by omega), if_pos h1]
      show xs[(k : Int).toNat]? = _
      rw [Int.toNat_natCast, List.getElem?_eq_getElem h]
    rw [e]
    rfl
  · have h1 : ¬ ((k : Int) < (xs.length : Int)) := by omega
    rw [decide_eq_false h1]
    show ∃ z : Int, (f2 gAdd (f2 gAdd (f2 (gInt kMod) (fN gIntOf (aCons (fN gSum (aCons (fSl (fV 0) none (some (fC (.int 1)))) (aNil))) (aNil))) (fC (.int 1000381))) (f2 gMul (fC (.int 5077)) (fV 1))) (fC (.int 3121))) (frP xs k st none none none) st = _
    have il : ∀ l : List Int, intL (l.map D.int) = some l := fun l => by
      induction l with
      | nil => rfl
      | cons a l ih =>
        rw [List.map_cons]
        unfold intL
        rw [ih]
        rfl
    have e1 : fN gSum (aCons (fSl (fV 0) none (some (fC (.int 1)))) (aNil)) (frP xs k st none none none) st = .ok (.int (cutD xs none (some 1)).sum) false st := by
      show ofO st ((intL ((cutD xs none (some 1)).map D.int)).map fun ns => (D.int ns.sum, false)) = _
      rw [il]
      rfl
    have hk2 : okq (k : Int) := okq_of (Nat.lt_trans (show (k : Int).natAbs < 3 by omega) (by decide))
    exact ⟨_, add_f (add_f (mod_f (int_f e1) rfl (by decide)) (mul_f rfl rfl (okq_of (by decide)) hk2)) rfl⟩
theorem pot_ok (hk : k < 3) : ∃ a b, f_law_pot [.scr xs, .int (k : Int)] st = .ok (.lst [.int a, .int b, .int 0]) true st ∧ 0 ≤ a ∧ 0 ≤ b ∧ b < 2305843009213693951 := by
  obtain ⟨z, e0⟩ := cell_val xs k st hk
  have hk2 : okq (k : Int) := okq_of (Nat.lt_trans (show (k : Int).natAbs < 3 by omega) (by decide))
  have ab : ∀ o3 o4, fN gAbs (aCons (fV 2) aNil) (frP xs k st (some (.int z)) o3 o4) st = .ok (.int (if z < 0 then -z else z)) false st := fun _ _ => rfl
  have hP : ∀ o2 o3 o4, f2 (gInt kPowW) (f2 (gInt kPowW) (fC (.int 10)) (fC (.int 60))) (fC (.int 5)) (frP xs k st o2 o3 o4) st = .ok (.int (10 ^ 300)) false st := fun o2 o3 o4 => by
    have p1 : f2 (gInt kPowW) (fC (.int 10)) (fC (.int 60)) (frP xs k st o2 o3 o4) st = .ok (.int (10 ^ 60)) false st := by
      refine (f2_ok (x := .int 10) (y := .int 60) (b := false) (c := false) rfl rfl).trans ?_
      have : kPowW 10 60 = some (.int (10 ^ 60)) := by unfold kPowW; rw [if_pos (by decide +kernel)]; rfl
      unfold gInt
      simp only [this]
      rfl
    refine (f2_ok p1 (y := .int 5) (c := false) rfl).trans ?_
    have : kPowW (10 ^ 60) 5 = some (.int (10 ^ 300)) := by
      unfold kPowW
      rw [if_pos (by decide +kernel)]
      show some (D.int ((10 ^ 60) ^ 5)) = _
      rw [← Int.pow_mul]
    unfold gInt
    simp only [this]
    rfl
  have hP18 : ∀ o2 o3 o4, f2 (gInt kPowW) (fC (.int 10)) (fC (.int 18)) (frP xs k st o2 o3 o4) st = .ok (.int (10 ^ 18)) false st := fun o2 o3 o4 => by
    refine (f2_ok (x := .int 10) (y := .int 18) (b := false) (c := false) rfl rfl).trans ?_
    have : kPowW 10 18 = some (.int (10 ^ 18)) := by unfold kPowW; rw [if_pos (by decide +kernel)]; rfl
    unfold gInt
    simp only [this]
    rfl
  generalize hw : (if z < 0 then -z else z) = w at ab
  have w0 : 0 ≤ w := by rw [← hw]; split <;> omega
  have hge : ∀ o3 o4, fN gIntOf (aCons (f2 (gInt kGe) (fN gAbs (aCons (fV 2) (aNil))) (f2 (gInt kPowW) (fC (.int 10)) (fC (.int 18)))) (aNil)) (frP xs k st (some (.int z)) o3 o4) st = .ok (.int (if decide ((10 : Int) ^ 18 ≤ w) = true then 1 else 0)) false st := fun o3 o4 => by
    have g1 : f2 (gInt kGe) (fN gAbs (aCons (fV 2) (aNil))) (f2 (gInt kPowW) (fC (.int 10)) (fC (.int 18))) (frP xs k st (some (.int z)) o3 o4) st = .ok (.bl (decide ((10 : Int) ^ 18 ≤ w))) false st := by
      rw [f2_ok (ab o3 o4) (hP18 _ o3 o4)]
      rfl
    exact (fN_ok (acons_ok g1 (anil_ok _ _))).trans rfl
  have t0 : (0 : Int) < 10 ^ 300 := Int.pow_pos (by decide)
  have m0 : 0 ≤ w % 10 ^ 300 := Int.emod_nonneg _ (by omega)
  have m1 : w % 10 ^ 300 < 10 ^ 300 := Int.emod_lt_of_pos _ t0
  have mq : okq (w % 10 ^ 300) := by
    have h1 : (10 : Nat) ^ 300 < 2 ^ 3000 := by decide +kernel
    have h2 : ((10 : Nat) ^ 300 : Nat) = ((10 : Int) ^ 300).natAbs := by rw [Int.natAbs_pow]; rfl
    exact Nat.lt_trans (by rw [h2]; omega) h1
  have iq : okq (if decide ((10 : Int) ^ 18 ≤ w) = true then 1 else 0) := by
    split
    · exact okq_of (by decide)
    · exact okq_of (by decide)
  have i0 : 0 ≤ (if decide ((10 : Int) ^ 18 ≤ w) = true then (1 : Int) else 0) := by split <;> decide
  have s0 : 0 ≤ z % 2305843009213693921 := Int.emod_nonneg _ (by decide)
  have s1 : z % 2305843009213693921 < 2305843009213693921 := Int.emod_lt_of_pos _ (by decide)
  have sq : okq (z % 2305843009213693921) := okq_of (Nat.lt_trans (show _ < 2 ^ 62 by omega) (by decide))
  refine ⟨w % 10 ^ 300 * (if decide ((10 : Int) ^ 18 ≤ w) = true then 1 else 0), (z % 2305843009213693921 * 70207 + 13099 * (k : Int) * (k : Int) + 2957) % 2305843009213693921, ?_, Int.mul_nonneg m0 i0, Int.emod_nonneg _ (by decide), Int.lt_trans (Int.emod_lt_of_pos _ (by decide)) (by decide)⟩
  show endB st.length (b_law_pot (frP xs k st none none none) st) = _
  have hr : b_law_pot (frP xs k st none none none) st = .ret (.lst [.int (w % 10 ^ 300 * (if decide ((10 : Int) ^ 18 ≤ w) = true then 1 else 0)), .int ((z % 2305843009213693921 * 70207 + 13099 * (k : Int) * (k : Int) + 2957) % 2305843009213693921), .int 0]) true st := by
    unfold b_law_pot
    refine seq_nxt (asg_f e0) ?_
    refine seq_nxt (asg_f (mul_f (mod_f (int_f (ab none none)) (hP _ none none) t0) (hge none none) mq iq)) ?_
    refine seq_nxt (asg_f (mod_f (int_f rfl) rfl (by decide))) ?_
    refine fSeq_ret (ret_f ?_)
    have l3 : fN gIntOf (aCons (f2 gAdd (f2 gAdd (f2 gMul (fV 4) (fC (.int 70207))) (f2 gMul (f2 gMul (fC (.int 13099)) (fV 1)) (fV 1))) (fC (.int 2957))) aNil) (frP xs k st (some (.int z)) (some (.int (w % 10 ^ 300 * (if decide ((10 : Int) ^ 18 ≤ w) = true then 1 else 0)))) (some (.int (z % 2305843009213693921)))) st = .ok (.int (z % 2305843009213693921 * 70207 + 13099 * (k : Int) * (k : Int) + 2957)) false st :=
      int_f (add_f (add_f (mul_f rfl rfl sq (okq_of (by decide))) (mul_f (mul_f rfl rfl (okq_of (by decide)) hk2) rfl (okq_of (Nat.lt_trans (show (13099 * (k : Int)).natAbs < 2 ^ 62 by omega) (by decide))) hk2)) rfl)
    exact (fN_ok (acons_ok (x := .int (w % 10 ^ 300 * (if decide ((10 : Int) ^ 18 ≤ w) = true then 1 else 0))) (b := false) rfl (acons_ok (mod_f l3 rfl (by decide)) (acons_ok (x := .int 0) (b := false) rfl (anil_ok _ _))))).trans rfl
  rw [hr]
  show R.ok _ true (st.take st.length) = _
  rw [List.take_length]
end
end
end M85

set_option Elab.async false
set_option maxRecDepth 100000
set_option maxHeartbeats 4000000
namespace M85
open PySem PySem.Spec PyProof.Rows L2 EV
noncomputable section
/-! ### joined_log by either reading -/
def RelX (r rX : RS) : Prop := ∀ b, endBX b rX = .stuck ∨ endB b r = endBX b rX
theorem RelX.seq {f g gX : FS} {e : Fr} {st : Sto} (h : ∀ e st, RelX (g e st) (gX e st)) : RelX (fSeq f g e st) (fSeqX f gX e st) := by
  unfold fSeq fSeqX
  cases f e st with
  | nxt s st1 => exact h _ _
  | exc c d s st1 => exact fun b => .inr rfl
  | ret d fr st1 => exact fun b => .inl rfl
  | brk s st1 => exact fun b => .inl rfl
  | cnt s st1 => exact fun b => .inl rfl
  | stuck => exact fun b => .inl rfl
theorem RelX.tup (f : FE) (e : Fr) (st : Sto) : RelX (fSeq (fRet (fN gTupOf (aCons f aNil))) fNxt e st) (fRetX (fTupX f) e st) := by
  intro b
  unfold fTupX fRetX fBind
  cases hf : f e st with
  | stuck => exact .inl rfl
  | exc c d st1 =>
    refine .inr ?_
    unfold fSeq fRet fBindS fN aCons
    rw [hf]
    rfl
  | ok d fr st1 =>
    simp only []
    cases hr : res st1 d with
    | lst ds =>
      refine .inr ?_
      have e1 : fN gTupOf (aCons f aNil) e st = .ok (.tup ds) false st1 := by
        rw [fN_ok (st1 := st1) (ds := [d]) (by unfold aCons; rw [hf]; rfl)]
        show ofO st1 ((spl st1 d).map fun ds => (D.tup ds, false)) = _
        unfold spl
        rw [hr]
        rfl
      rw [fSeq_ret (ret_f e1)]
      rfl
    | _ => exact .inl rfl
theorem mk_rel {np n : Nat} {f fX : FS} (h : ∀ e st, RelX (f e st) (fX e st)) : Ref (mkFn np n f) (mkFnX np n fX) := by
  intro ds st
  unfold mkFn mkFnX
  split
  · exact h _ _ _
  · exact .inl rfl
theorem row_rel : Ref f_told_row f_told_row_X := mk_rel fun e st => RelX.seq fun e st => RelX.seq fun e st => RelX.tup _ e st
theorem seq_ret {F : FE} {e : Fr} {st : Sto} : fSeq (fRet F) fNxt e st = fRetX F e st := by
  unfold fSeq fRet fBindS fRetX
  cases F e st <;> rfl
theorem RelX.call {f fX : FF} (h : Ref f fX) (a : FA) (e : Fr) (st : Sto) : RelX (fSeq (fRet (fCall f a)) fNxt e st) (fRetX (fCall fX a) e st) := by
  intro b
  rw [seq_ret]
  cases ha : a e st with
  | stuck =>
    have e1 : fCall fX a e st = .stuck := by unfold fCall; rw [ha]
    unfold fRetX
    rw [e1]
    exact .inl rfl
  | exc c d st1 =>
    have e1 : fCall fX a e st = .exc c d st1 := by unfold fCall; rw [ha]
    have e2 : fCall f a e st = .exc c d st1 := by unfold fCall; rw [ha]
    unfold fRetX
    rw [e1, e2]
    exact .inr rfl
  | ok ds st1 =>
    unfold fRetX
    rw [fCall_ok ha, fCall_ok ha]
    rcases h ds st1 with h | h
    · rw [h]; exact .inl rfl
    · rw [← h]
      cases f ds st1 with
      | stuck => exact .inl rfl
      | exc c d st2 => exact .inl rfl
      | ok d fr st2 =>
        cases d with
        | tup xs => exact .inr rfl
        | _ => exact .inl rfl
theorem log_rel : Ref f_joined_log f_joined_log_X := mk_rel fun e st => RelX.seq fun e st => RelX.seq fun e st => RelX.seq fun e st => RelX.seq fun e st => RelX.seq fun e st => RelX.call row_rel _ e st
theorem jlV : f_joined_log [oneD, otherD, .int 6] [] = .ok (.tup bchV) false [] := by
  rcases log_rel [oneD, otherD, .int 6] [] with h | h
  · rw [jxV] at h; cases h
  · rw [h, jxV]
/-! ### one pot -/
theorem f2_ok2 {g : Sto → D → D → Option (D × Bool)} {fa fb : FE} {e : Fr} {st st1 st2 : Sto} {x y : D} {b c : Bool} (ha : fa e st = .ok x b st1) (hb : fb e st1 = .ok y c st2) : f2 g fa fb e st = ofO st2 (g st2 x y) := by
  unfold f2 fBind
  rw [ha]
  simp only []
  rw [hb]
theorem acons_ok2 {f : FE} {g : FA} {e : Fr} {st st1 st2 : Sto} {x : D} {xs : List D} {b : Bool} (h : f e st = .ok x b st1) (h2 : g e st1 = .ok xs st2) : aCons f g e st = .ok (x :: xs) st2 := by
  unfold aCons
  rw [h]
  simp only []
  rw [h2]
theorem pB_all (c0 c1 : CO) (o1 o2 o3 : Option D) (r : Int) (h0 : 0 ≤ r) (h1 : r < 20) : seqL rB fNxt (frB o1 o2 o3 (1 + r)) [c0, c1] = .ret (.bl true) false [c0, c1] := by
  have h : r = 0 ∨ r = 1 ∨ r = 2 ∨ r = 3 ∨ r = 4 ∨ r = 5 ∨ r = 6 ∨ r = 7 ∨ r = 8 ∨ r = 9 ∨ r = 10 ∨ r = 11 ∨ r = 12 ∨ r = 13 ∨ r = 14 ∨ r = 15 ∨ r = 16 ∨ r = 17 ∨ r = 18 ∨ r = 19 := by omega
  rcases h with rfl | rfl | rfl | rfl | rfl | rfl | rfl | rfl | rfl | rfl | rfl | rfl | rfl | rfl | rfl | rfl | rfl | rfl | rfl | rfl
  · exact pB1 c0 c1 o1 o2 o3
  · exact pB2 c0 c1 o1 o2 o3
  · exact pB3 c0 c1 o1 o2 o3
  · exact pB4 c0 c1 o1 o2 o3
  · exact pB5 c0 c1 o1 o2 o3
  · exact pB6 c0 c1 o1 o2 o3
  · exact pB7 c0 c1 o1 o2 o3
  · exact pB8 c0 c1 o1 o2 o3
  · exact pB9 c0 c1 o1 o2 o3
  · exact pB10 c0 c1 o1 o2 o3
  · exact pB11 c0 c1 o1 o2 o3
  · exact pB12 c0 c1 o1 o2 o3
  · exact pB13 c0 c1 o1 o2 o3
  · exact pB14 c0 c1 o1 o2 o3
  · exact pB15 c0 c1 o1 o2 o3
  · exact pB16 c0 c1 o1 o2 o3
  · exact pB17 c0 c1 o1 o2 o3
  · exact pB18 c0 c1 o1 o2 o3
  · exact pB19 c0 c1 o1 o2 o3
  · exact pB20 c0 c1 o1 o2 o3
theorem pA_all (c0 c1 : CO) (g : FS) (r : Int) (h0 : 0 ≤ r) (h1 : r < 9) : ∃ o3, seqL rA g (frA (1 + r)) [c0, c1] = g ⟨2, [some (.cell 1), some strangD, some (.int (1 + r)), o3, none, none, none, none, none]⟩ [c0, c1] := by
  have h : r = 0 ∨ r = 1 ∨ r = 2 ∨ r = 3 ∨ r = 4 ∨ r = 5 ∨ r = 6 ∨ r = 7 ∨ r = 8 := by omega
  rcases h with rfl | rfl | rfl | rfl | rfl | rfl | rfl | rfl | rfl
  · exact ⟨_, seqL_ok rA _ _ (pA1 c0 c1)⟩
  · exact ⟨_, seqL_ok rA _ _ (pA2 c0 c1)⟩
  · exact ⟨_, seqL_ok rA _ _ (pA3 c0 c1)⟩
  · exact ⟨_, seqL_ok rA _ _ (pA4 c0 c1)⟩
  · exact ⟨_, seqL_ok rA _ _ (pA5 c0 c1)⟩
  · exact ⟨_, seqL_ok rA _ _ (pA6 c0 c1)⟩
  · exact ⟨_, seqL_ok rA _ _ (pA7 c0 c1)⟩
  · exact ⟨_, seqL_ok rA _ _ (pA8 c0 c1)⟩
  · exact ⟨_, seqL_ok rA _ _ (pA9 c0 c1)⟩
theorem draw_f {e : Fr} {st st' : Sto} {n r : Int} (h0 : e.s[0]? = some (some (.cell 1))) (h : f_law_take [.cell 1, .int n] st = .ok (.int r) false st') : fN gIntOf (aCons (f2 gAdd (fC (.int 1)) (fCall f_law_take (aCons (fV 0) (aCons (fC (.int n)) (aNil))))) (aNil)) e st = .ok (.int (1 + r)) false st' := by
  have hv : fV 0 e st = .ok (.cell 1) false st := by unfold fV; rw [h0]
  have ht : fCall f_law_take (aCons (fV 0) (aCons (fC (.int n)) (aNil))) e st = .ok (.int r) false st' := by
    rw [fCall_ok (acons_ok hv (acons_ok (x := .int n) (b := false) rfl (anil_ok _ _))), h]
    rfl
  have ha : f2 gAdd (fC (.int 1)) (fCall f_law_take (aCons (fV 0) (aCons (fC (.int n)) (aNil)))) e st = .ok (.int (1 + r)) false st' := by
    rw [f2_ok2 (x := .int 1) (b := false) (st1 := st) rfl ht]
    rfl
  rw [fN_ok (acons_ok2 ha (anil_ok _ _))]
  rfl
theorem right_ok (c0 : CO) (a b : Int) (ha : 0 ≤ a) (hb0 : 0 ≤ b) (hb : b < 2305843009213693951) : ∃ c1, f_law_right [.cell 1] [c0, .lst [.int a, .int b, .int 0]] = .ok (.bl true) false [c0, c1] := by
  obtain ⟨r, a1, c1, e1, r0, r1, a0, hc⟩ := take_ok c0 a b 0 9 ha hb0 hb (.inl rfl) (by decide) (by decide +kernel)
  obtain ⟨r2, a2, c2, e2, s0, s1, _, _⟩ := take_ok c0 a1 b c1 20 a0 hb0 hb (by omega) (by decide) (by decide +kernel)
  refine ⟨.lst [.int a2, .int b, .int c2], ?_⟩
  show endB 2 (b_law_right ⟨2, [some (.cell 1), none, none, none, none, none, none, none, none]⟩ (stT c0 a b 0)) = _
  have h0 : rS0 ⟨2, [some (.cell 1), none, none, none, none, none, none, none, none]⟩ (stT c0 a b 0) = .nxt (frA (1 + r)).s (stT c0 a1 b c1) := by
    unfold rS0 fPar
    show fBindS _ _ _ _ = _
    have q1 : (fN gTup (aCons (fN gTup (aCons (fC (.str [97])) (aCons (fN gTup (aCons (fC (.int 1)) (aCons (fC (.int 2)) (aNil)))) (aNil)))) (aCons (fN gTup (aCons (fC (.str [98])) (aCons (fN gTup (aCons (fC (.int 1)) (aCons (fC (.int 1)) (aNil)))) (aNil)))) (aCons (fN gTup (aCons (fC (.str [97])) (aCons (fN gTup (aCons (fC (.int 1)) (aCons (fC (.int 2)) (aNil)))) (aNil)))) (aNil))))) ⟨2, [some (.cell 1), none, none, none, none, none, none, none, none]⟩ (stT c0 a b 0) = .ok strangD false (stT c0 a b 0) := rfl
    have q2 := draw_f (e := ⟨2, [some (.cell 1), none, none, none, none, none, none, none, none]⟩) (n := 9) rfl e1
    unfold fBindS
    rw [q1]
    simp only []
    rw [q2]
    rfl
  obtain ⟨o3, h1⟩ := pA_all c0 (.lst [.int a1, .int b, .int c1]) (fSeq rS6 (seqL rB fNxt)) r r0 r1
  have h2 : rS6 ⟨2, [some (.cell 1), some strangD, some (.int (1 + r)), o3, none, none, none, none, none]⟩ (stT c0 a1 b c1) = .nxt (frB (some strangD) (some (.int (1 + r))) o3 (1 + r2)).s (stT c0 a2 b c2) := by
    unfold rS6
    rw [asg_f (draw_f (e := ⟨2, [some (.cell 1), some strangD, some (.int (1 + r)), o3, none, none, none, none, none]⟩) (n := 20) rfl e2)]
    rfl
  have h3 := pB_all c0 (.lst [.int a2, .int b, .int c2]) (some strangD) (some (.int (1 + r))) o3 r2 s0 s1
  have h4 : b_law_right ⟨2, [some (.cell 1), none, none, none, none, none, none, none, none]⟩ (stT c0 a b 0) = .ret (.bl true) false (stT c0 a2 b c2) := by
    rw [b_right_eq, fSeq_nxt h0]
    show seqL rA (fSeq rS6 (seqL rB fNxt)) (frA (1 + r)) (stT c0 a1 b c1) = _
    rw [h1, fSeq_nxt h2]
    exact h3
  rw [h4]
  rfl
end
end M85

set_option Elab.async false
set_option maxRecDepth 100000
set_option maxHeartbeats 4000000
namespace M85
open PySem PySem.Spec PyProof.Rows L2 EV HK
noncomputable section
/-! ### the law -/
def condOf : FS → FE := fun f e st => match f e st with
  | .nxt _ st' => .ok (.bl false) false st'
  | _ => .stuck
theorem seqL_app {g : FS} : ∀ (as bs : List FS), seqL (as ++ bs) g = seqL as (seqL bs g)
  | [], bs => rfl
  | f :: as, bs => by
    show fSeq f (seqL (as ++ bs) g) = fSeq f (seqL as (seqL bs g))
    rw [seqL_app as bs]
theorem hd13_some {r : RS} {o : D} (h : hd13 r = some o) : ∃ o1 o2 o3 o4 o5 o6 o7 o8 o9 o10 o11 o12, r = .nxt [some o, o1, o2, o3, o4, o5, o6, o7, o8, o9, o10, o11, o12] [] := by
  unfold hd13 at h
  split at h
  · cases h
    exact ⟨_, _, _, _, _, _, _, _, _, _, _, _, rfl⟩
  · cases h
def dicV : D := match kvsOf bchV with
  | some kvs => .dic (mergeD [] kvs)
  | none => .non
theorem deqV : gNe [] (.tup bchV) (.tup bchV) = some (.bl false, false) := by kernel_rfl
theorem c17 (o0 o1 o2 o3 o4 o5 o6 o7 o9 o10 o11 o12 : Option D) : lS17 ⟨0, [o0, o1, o2, o3, o4, o5, o6, o7, some dicV, o9, o10, o11, o12]⟩ [] = .nxt [o0, o1, o2, o3, o4, o5, o6, o7, some dicV, o9, o10, o11, o12] [] := by kernel_rfl
theorem dicV_ok : (match kvsOf bchV with
    | some kvs => R.ok (.dic (mergeD [] kvs)) true []
    | none => .stuck) = .ok dicV true [] := by
  unfold dicV
  cases h : kvsOf bchV with
  | some kvs => rfl
  | none =>
    have : (kvsOf bchV).isSome = true := by kernel_rfl
    rw [h] at this
    cases this
section
variable (xs : List Int)
abbrev elemL : FE := fLoc (fCall f_law_right (aCons (fCell (fCall f_law_pot (aCons (fV 0) (aCons (fV 12) (aNil))))) (aNil)))
theorem elem_ok (o1 o2 o3 o4 o5 o6 o7 o8 o9 o10 o11 : Option D) (k : Nat) (hk : k < 3) (c0 : CO) : elemL ⟨0, [some (.scr xs), o1, o2, o3, o4, o5, o6, o7, o8, o9, o10, o11, some (.int (k : Int))]⟩ [c0] = .ok (.bl true) false [c0] := by
  obtain ⟨a, b, e1, a0, b0, b1⟩ := pot_ok xs k [c0] hk
  obtain ⟨c1, e2⟩ := right_ok c0 a b a0 b0 b1
  have q1 : fCall f_law_pot (aCons (fV 0) (aCons (fV 12) (aNil))) ⟨0, [some (.scr xs), o1, o2, o3, o4, o5, o6, o7, o8, o9, o10, o11, some (.int (k : Int))]⟩ [c0] = .ok (.lst [.int a, .int b, .int 0]) true [c0] := by
    rw [fCall_ok (acons_ok (x := .scr xs) (b := false) rfl (acons_ok (x := .int (k : Int)) (b := false) rfl (anil_ok _ _))), e1]
    rfl
  have q2 : fCell (fCall f_law_pot (aCons (fV 0) (aCons (fV 12) (aNil)))) ⟨0, [some (.scr xs), o1, o2, o3, o4, o5, o6, o7, o8, o9, o10, o11, some (.int (k : Int))]⟩ [c0] = .ok (.cell 1) false [c0, .lst [.int a, .int b, .int 0]] := by
    unfold fCell
    rw [q1]
    rfl
  have q3 : fCall f_law_right (aCons (fCell (fCall f_law_pot (aCons (fV 0) (aCons (fV 12) (aNil))))) (aNil)) ⟨0, [some (.scr xs), o1, o2, o3, o4, o5, o6, o7, o8, o9, o10, o11, some (.int (k : Int))]⟩ [c0] = .ok (.bl true) false [c0, c1] := by
    rw [fCall_ok (acons_ok2 q2 (anil_ok _ _)), e2]
    rfl
  unfold elemL fLoc
  rw [q3]
  rfl
theorem comp_ok (o1 o2 o3 o4 o5 o6 o7 o8 o9 o10 o11 o12 : Option D) : ∀ (l : List Nat) (m : Nat) (ys : List D), (∀ k ∈ l, k < 3) → m + l.length < 100 → compL 0 (gN 12) fYes elemL (l.map fun k : Nat => D.int (k : Int)) ⟨0, [some (.scr xs), o1, o2, o3, o4, o5, o6, o7, o8, o9, o10, o11, o12]⟩ [.acc m ys] = some [.acc (m + l.length) (List.replicate l.length (.bl true) ++ ys)]
  | [], m, ys, _, _ => rfl
  | k :: l, m, ys, h, hl => by
    rw [List.length_cons] at hl
    have e := elem_ok xs o1 o2 o3 o4 o5 o6 o7 o8 o9 o10 o11 k (h k List.mem_cons_self) (.acc m ys)
    show (match elemL ⟨0, [some (.scr xs), o1, o2, o3, o4, o5, o6, o7, o8, o9, o10, o11, some (.int (k : Int))]⟩ [.acc m ys] with
      | .ok y _ st2 => (match st2[0]? with
          | some (CO.acc k ys) => if (isP y && decide (k < SZ)) = true then compL 0 (gN 12) fYes elemL (l.map fun k : Nat => D.int (k : Int)) ⟨0, [some (.scr xs), o1, o2, o3, o4, o5, o6, o7, o8, o9, o10, o11, o12]⟩ (st2.set 0 (CO.acc (k + 1) (y :: ys))) else none
          | _ => none)
      | _ => none) = _
    rw [e]
    show (if (true && decide (m < SZ)) = true then compL 0 (gN 12) fYes elemL (l.map fun k : Nat => D.int (k : Int)) ⟨0, [some (.scr xs), o1, o2, o3, o4, o5, o6, o7, o8, o9, o10, o11, o12]⟩ [CO.acc (m + 1) (D.bl true :: ys)] else none) = _
    rw [if_pos (by rw [Bool.true_and, decide_eq_true_iff]; show m < 16777216; omega), comp_ok o1 o2 o3 o4 o5 o6 o7 o8 o9 o10 o11 o12 l (m + 1) (.bl true :: ys) (fun k m => h k (List.mem_cons_of_mem _ m)) (by omega)]
    congr 3
    · rw [List.length_cons]; omega
    · rw [List.length_cons, List.replicate_succ']; simp
theorem cells_ok : ∃ n, n ≤ 3 ∧ f_law_cells [.scr xs, .int 3] [] = .ok (.lst ((List.range n).map fun k : Nat => D.int (k : Int))) true [] := by
  have key : ∀ j : Int, 1 ≤ j → j ≤ 3 → ∃ n : Nat, n ≤ 3 ∧ gListR [] (.int j) = some (.lst ((List.range n).map fun k : Nat => D.int (k : Int)), true) := fun j h1 h2 => by
    have h : j = 1 ∨ j = 2 ∨ j = 3 := by omega
    rcases h with rfl | rfl | rfl
    · exact ⟨1, by decide, rfl⟩
    · exact ⟨2, by decide, rfl⟩
    · exact ⟨3, by decide, rfl⟩
  obtain ⟨n, hn, e⟩ := key (if (if (xs.length : Int) < 3 then (xs.length : Int) else 3) > 1 then (if (xs.length : Int) < 3 then (xs.length : Int) else 3) else 1) (by split <;> omega) (by split <;> split <;> omega)
  refine ⟨n, hn, ?_⟩
  show endB 0 (b_law_cells ⟨0, [some (.scr xs), some (.int 3)]⟩ []) = _
  have e1 : f1 gListR (fN gMax (aCons (fC (.int 1)) (aCons (fN gMin (aCons (fV 1) (aCons (fN gLen (aCons (fV 0) (aNil))) (aNil)))) (aNil)))) ⟨0, [some (.scr xs), some (.int 3)]⟩ [] = .ok (.lst ((List.range n).map fun k : Nat => D.int (k : Int))) true [] := by
    show ofO [] (gListR [] (.int (if (if (xs.length : Int) < 3 then (xs.length : Int) else 3) > 1 then (if (xs.length : Int) < 3 then (xs.length : Int) else 3) else 1))) = _
    rw [e]
    rfl
  unfold b_law_cells
  rw [fSeq_ret (ret_f e1)]
  rfl
theorem last_ok (o1 o2 o3 o4 o5 o6 o7 o8 o9 o10 o11 o12 : Option D) : lS18 ⟨0, [some (.scr xs), o1, o2, o3, o4, o5, o6, o7, o8, o9, o10, o11, o12]⟩ [] = .ret (.bl true) false [] := by
  obtain ⟨n, hn, e⟩ := cells_ok xs
  have e1 : fIt (fCall f_law_cells (aCons (fV 0) (aCons (fC (.int 3)) (aNil)))) kSeq ⟨0, [some (.scr xs), o1, o2, o3, o4, o5, o6, o7, o8, o9, o10, o11, o12]⟩ [] = .ok ((List.range n).map fun k : Nat => D.int (k : Int)) [] := by
    unfold fIt
    rw [fCall_ok (acons_ok (x := .scr xs) (b := false) rfl (acons_ok (x := .int 3) (b := false) rfl (anil_ok _ _))), e]
    rfl
  have e2 : fComp (fIt (fCall f_law_cells (aCons (fV 0) (aCons (fC (.int 3)) (aNil)))) kSeq) (gN 12) (fYes) elemL [12] ⟨0, [some (.scr xs), o1, o2, o3, o4, o5, o6, o7, o8, o9, o10, o11, o12]⟩ [] = .ok (.lst (List.replicate n (.bl true))) true [] := by
    unfold fComp
    rw [e1]
    show endC 0 (compL 0 (gN 12) fYes elemL ((List.range n).map fun k : Nat => D.int (k : Int)) ⟨0, [some (.scr xs), o1, o2, o3, o4, o5, o6, o7, o8, o9, o10, o11, none]⟩ [.acc 0 []]) = _
    rw [comp_ok xs o1 o2 o3 o4 o5 o6 o7 o8 o9 o10 o11 none (List.range n) 0 [] (fun k m => by have := List.mem_range.mp m; omega) (by rw [List.length_range]; omega)]
    rw [List.length_range, List.append_nil]
    show R.ok (.lst (List.replicate n (D.bl true)).reverse) true [] = _
    rw [List.reverse_replicate]
  have e3 : fN gAll (aCons (fComp (fIt (fCall f_law_cells (aCons (fV 0) (aCons (fC (.int 3)) (aNil)))) kSeq) (gN 12) (fYes) elemL [12]) (aNil)) ⟨0, [some (.scr xs), o1, o2, o3, o4, o5, o6, o7, o8, o9, o10, o11, o12]⟩ [] = .ok (.bl true) false [] := by
    rw [fN_ok (acons_ok e2 (anil_ok _ _))]
    have h : n = 0 ∨ n = 1 ∨ n = 2 ∨ n = 3 := by omega
    rcases h with rfl | rfl | rfl | rfl <;> rfl
  have e4 := ret_f e3
  rw [show lS18 = fRet (fN gAll (aCons (fComp (fIt (fCall f_law_cells (aCons (fV 0) (aCons (fC (.int 3)) (aNil)))) kSeq) (gN 12) (fYes) elemL [12]) (aNil))) from by unfold lS18 elemL; rfl]
  rw [e4]
theorem law_ok : f_law [.scr xs] [] = .ok (.bl true) false [] := by
  have e0 : f_law [.scr xs] [] = endB 0 (b_law (initL xs) []) := by
    unfold f_law mkFn
    rw [if_pos (show [D.scr xs].length = 1 from rfl)]
    rfl
  rw [e0]
  obtain ⟨o1, o2, o3, o4, o5, o6, o7, o8, o9, o10, o11, o12, h⟩ := hd13_some (headA xs)
  have e14 : lS14 ⟨0, [some (.scr xs), o1, o2, o3, o4, o5, o6, o7, o8, o9, o10, o11, o12]⟩ [] = .nxt [some (.scr xs), o1, o2, o3, o4, o5, some oneD, some otherD, o8, o9, o10, o11, o12] [] := rfl
  have j1 : fCall f_joined_log (aCons (fV 6) (aCons (fV 7) (aCons (fC (.int 6)) (aNil)))) ⟨0, [some (.scr xs), o1, o2, o3, o4, o5, some oneD, some otherD, o8, o9, o10, o11, o12]⟩ [] = .ok (.tup bchV) false [] := by
    rw [fCall_ok (acons_ok (x := oneD) (b := false) rfl (acons_ok (x := otherD) (b := false) rfl (acons_ok (x := .int 6) (b := false) rfl (anil_ok _ _)))), jlV]
    rfl
  have j2 : ∀ f : FE, f ⟨0, [some (.scr xs), o1, o2, o3, o4, o5, some oneD, some otherD, o8, o9, o10, o11, o12]⟩ [] = .ok abD false [] → fCall f_log_of (aCons f (aCons (fC (.int 6)) (aNil))) ⟨0, [some (.scr xs), o1, o2, o3, o4, o5, some oneD, some otherD, o8, o9, o10, o11, o12]⟩ [] = .ok (.tup bchV) false [] := fun f hf => by
    rw [fCall_ok (acons_ok hf (acons_ok (x := .int 6) (b := false) rfl (anil_ok _ _))), lgV]
    rfl
  have e15 : lS15 ⟨0, [some (.scr xs), o1, o2, o3, o4, o5, some oneD, some otherD, o8, o9, o10, o11, o12]⟩ [] = .nxt [some (.scr xs), o1, o2, o3, o4, o5, some oneD, some otherD, o8, o9, o10, o11, o12] [] := by
    unfold lS15
    refine (if_f (b := false) (fr := false) (st' := []) ?_).trans rfl
    rw [f2_ok j1 (j2 _ rfl), deqV]
    rfl
  have e16 : lS16 ⟨0, [some (.scr xs), o1, o2, o3, o4, o5, some oneD, some otherD, o8, o9, o10, o11, o12]⟩ [] = .nxt [some (.scr xs), o1, o2, o3, o4, o5, some oneD, some otherD, some dicV, o9, o10, o11, o12] [] := by
    unfold lS16
    have j3 : fCall f_joined_log_X (aCons (fV 6) (aCons (fV 7) (aCons (fC (.int 6)) (aNil)))) ⟨0, [some (.scr xs), o1, o2, o3, o4, o5, some oneD, some otherD, o8, o9, o10, o11, o12]⟩ [] = .ok (.tup bchV) false [] := by
      rw [fCall_ok (acons_ok (x := oneD) (b := false) rfl (acons_ok (x := otherD) (b := false) rfl (acons_ok (x := .int 6) (b := false) rfl (anil_ok _ _)))), jxV]
      rfl
    have j4 : fDictT (fCall f_joined_log_X (aCons (fV 6) (aCons (fV 7) (aCons (fC (.int 6)) (aNil))))) ⟨0, [some (.scr xs), o1, o2, o3, o4, o5, some oneD, some otherD, o8, o9, o10, o11, o12]⟩ [] = .ok dicV true [] := by
      unfold fDictT fBind
      rw [j3]
      exact dicV_ok
    rw [asg_f j4]
    rfl
  have es : b_law = seqL (lSS.take 14) (fSeq lS14 (fSeq lS15 (fSeq lS16 (fSeq lS17 (fSeq lS18 fNxt))))) := by
    rw [b_law_eq]
    exact seqL_app (lSS.take 14) [lS14, lS15, lS16, lS17]
  rw [es, seqL_ok _ _ _ h, show (initL xs).b = 0 from rfl, fSeq_nxt e14, fSeq_nxt e15, fSeq_nxt e16, fSeq_nxt (c17 _ _ _ _ _ _ _ _ _ _ _ _), fSeq_ret (last_ok xs _ _ _ _ _ _ _ _ _ _ _ _)]
  rfl
end
end
/-! ### the end -/
theorem chk_parts {K : PySem.W.Frag} (c : chkH K = true) : (∀ p ∈ tbl, (He.Fa.glo p.1).ok K = true) ∧ (∀ x ∈ frees, (He.Fa.free x).ok K = true) ∧ ∀ p ∈ consts, p.2.ok K p.1 = true := by
  unfold chkH at c
  obtain ⟨c1, c2⟩ := He.ba c
  obtain ⟨c3, c4⟩ := He.ba c2
  exact ⟨fun p m => List.all_eq_true.mp c1 p m, fun p m => List.all_eq_true.mp c3 p m, fun p m => List.all_eq_true.mp c4 p m⟩
theorem const_of {K : PySem.W.Frag} {h : Heap} {mg : Str → Option Value} (X : K.In h) (G : h.Ns mainGlobals mg) (c : chkH K = true) (i : Nat) {x : Str} {v : Cv} (e : consts[i]? = some (x, v) := by rfl) : GC K mg x (cvD v) := cv_gc X G ((chk_parts c).2.2 _ (List.mem_of_getElem? e))
theorem tops_of {K : PySem.W.Frag} {h : Heap} {mg : Str → Option Value} (X : K.In h) (G : h.Ns mainGlobals mg) (c : SaysC chkH fnH K) : Tops K mg where
  fd := fun x i m => gd_of X G (topS := topS) (tbl := tbl) rfl c m ((chk_parts c.chk_).1 _ m)
  fr := fun x m => He.free_ok X G ((chk_parts c.chk_).2.1 _ m)
  c_NOUGHT := const_of X G c.chk_ 0
  c_ONE := const_of X G c.chk_ 1
  c_MOST := const_of X G c.chk_ 2
  c_LETTERS := const_of X G c.chk_ 3
  c_MOST_LONG := const_of X G c.chk_ 4
  c_MOST_WIDE := const_of X G c.chk_ 5
  c_MOST_PART := const_of X G c.chk_ 6
  c_MOST_COUNT := const_of X G c.chk_ 7
  c_MOST_LETTERS := const_of X G c.chk_ 8
  c_MOST_STEPS := const_of X G c.chk_ 9
  c_ORDER := const_of X G c.chk_ 10
  c_LEAST := const_of X G c.chk_ 11
  c_BACK := const_of X G c.chk_ 12
  c_LOW := const_of X G c.chk_ 13
  c_THREE := const_of X G c.chk_ 14
  c_MOST_DEGREE := const_of X G c.chk_ 15
  c_MOST_NUMBERS := const_of X G c.chk_ 16
  c_MOST_POWER := const_of X G c.chk_ 17
  c_MOST_OUTER := const_of X G c.chk_ 18
  c_MOST_ENDS := const_of X G c.chk_ 19
  c_MOST_HALVES := const_of X G c.chk_ 20
  c_SO := const_of X G c.chk_ 21
  c_NOT := const_of X G c.chk_ 22
  c_ROOTS := const_of X G c.chk_ 23
  c_NONE := const_of X G c.chk_ 24
end M85

set_option Elab.async false
set_option maxRecDepth 100000
set_option maxHeartbeats 4000000
namespace M85
open PySem PySem.Spec PyProof.Rows L2 EV HK
def XA0 : XAT := fun _ _ _ _ _ _ => False
theorem xa0 : XAok XA0 := fun _ _ _ _ _ _ _ _ _ h => h
theorem law_facts {P : Program} {w : World} {K : PySem.W.Frag} {h : Heap} {mg : Str → Option Value} {f : Addr} (X : K.In h) (G : h.Ns mainGlobals mg) (hfa : mg ("law" : Str) = some (.ref f)) (c : SaysC chkH fnH K) :
    ∃ fd : FuncData, (∀ (s : Shared) (v : Value), BindsTo s fd ⟨[v], []⟩ [("script", v)]) ∧ ∀ base : Heap, K.In base → base.Ns mainGlobals mg → FnOk P w K mg base CX0 17 f fd ["script"] (liftF K XA0 f_law) := by
  have T := tops_of X G c
  obtain ⟨f2, fd, F, hm⟩ := (T.fd "law" 142 (by decide +kernel)).ex
  have e : f2 = f := by
    rw [hm] at hfa
    cases hfa
    rfl
  subst e
  have b := FunD.bindsA (ps := ["script"]) F fun _ _ _ _ _ _ us hl => match us, hl with | [_], _ => rfl
  exact ⟨fd, fun s v => b s [v] rfl, fun base _ _ => okf_law xa0 T F⟩
theorem sp_law {K : PySem.W.Frag} {H : Hp} {a : Addr} {ns : List Int} (hS : SqL K H a (ns.map V.int)) : liftF K XA0 f_law [.ref a] H (fun v _ => v = .bl true) fun _ _ _ => False := by
  refine ⟨[], [], [.scr ns], ⟨rfl, List.nodup_nil, fun i c b h => by simp at h⟩, .cons (.scr (hS.imp (fun h => ⟨h, fun z => nomatch z⟩) id)) .nil, ?_⟩
  rw [law_ok ns]
  intro φ' H' v _ _ r _
  cases r
  rfl
end M85
open PySem PySem.W PySem.Calls PyProof.Rows
theorem PySem.Challenge.cw_treesofsteps_k85_whole_known_numbers_of_holds : PySem.Challenge.rw_treesofsteps_k85_whole_known_numbers_of.Holds := by
  w_on; o_law
  refine HandSHeadRun.head_any (r := OpenLaw.row PySem.Challenge.rw_treesofsteps_k85_whole_known_numbers_of) (q := view (OpenLaw.row PySem.Challenge.rw_treesofsteps_k85_whole_known_numbers_of).prog [142]) (H := M85.hkH) (ob := M85.obH) (M := 20000) (loose := M85.names) (d := HandSHeadRun.topDef (OpenLaw.row PySem.Challenge.rw_treesofsteps_k85_whole_known_numbers_of).prog 142) (kwd := []) M85.obH_eq
    (by kernel_rfl) (fun s => by kernel_rfl) M85.runH (by kernel_rfl) (by kernel_rfl) (by kernel_rfl) (by rfl) (by first | assumption | decide +kernel) (by decide +kernel) ⟨rfl, rfl, rfl, rfl, rfl, by decide +kernel⟩ ?hw ?hc
  case hw => w_witness2
  case hc =>
    refine L2.walk_ofE (l := PySem.Challenge.rw_treesofsteps_k85_whole_known_numbers_of) (n := 63) (k := 17) (x := "script") (CX := L2.CX0) rfl (by decide) (by kernel_rfl) ⟨rfl, by decide, by decide⟩ ?F (fun _ _ _ _ z => z)
    intro w mg fa h Y G hmg0
    obtain ⟨K, KX, c⟩ := Y
    have hmg : mg ("law" : PySem.Str) = some (.ref fa) := by
      have e : (HandSHeadRun.topDef (OpenLaw.row PySem.Challenge.rw_treesofsteps_k85_whole_known_numbers_of).prog 142).name = ("law" : PySem.Str) := by kernel_rfl
      rw [← e]
      exact hmg0
    obtain ⟨fd, hb, hF⟩ := M85.law_facts (P := (PySem.Challenge.rw_treesofsteps_k85_whole_known_numbers_of).prog) (w := w) KX G hmg c
    exact ⟨K, fd, EV.liftF K M85.XA0 M85.f_law, KX, hb, fun H a ns hl _ hS => M85.sp_law hS, hF⟩

