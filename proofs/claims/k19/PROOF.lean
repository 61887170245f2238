import PyProof.Rows.All
import Wide.All
import OpenK.AllK
import Wide.FinOn
import HandS.ForMost
import HandS.SetFor
import HandS.Exc
import HandS.Lambda
import HandS.Property
import HandS.Defaults
import HandS.TupAny
import HandS.Replace
import KE.SortData
import HandS.SetTxtIn
import HandS.StrMore
import HandS.Style
import HandS.IsInst
import HandS.WordsDict
import HandS.Small
import HandS.More
import HandS.OwnEq
import PyProof.ListStr
import PyProof.ReprRoads
import PyProof.Rows.RegFStrParts
import HandS.Head0
import HandS.Head1
import HandS.Head2
import HandS.HeadEnd
import HandS.HeadHook1
import HandS.HeadHook2
import KE.KStateDown
import HandS.HeadNt
import HandS.Star
import HandS.Zip
import HandS.Comp
import HandS.ClsMeth
import KE.KDictPairs
import KE.KDictDisplayH
import HandS.Conv
import HandS.SlotsOwn
import KE.RegKCallOwn
import KE.GoesEnum
import HandS.TupMul
import HandS.WordsExc
import HandS.ExcOwn
import HandS.ExcInit
import HandS.ExcField
import HandS.TryMany
import PyProof.TupleOfStr
import HandS.HeadHook3
import PyProof.EqKinds
import PyProof.FactsAll.dict_1
import PyProof.Conv_bool
import HandS.MakeKwOnly
import HandS.Text
import KE.GoesZip
import HandS.ReplaceLit
import KE.KRevSl
import HandS.TryOnly
import HandS.ExcValue
import KE.KExcIs
import HandS.HotCalls
import HandS.EndTab
import HandS.HeadHook4
import HandS.RaiseMore
import KE.KExcInit
import PyProof.ExcBaseAll.ValueError
import PyProof.ExcBaseAll.LookupError
import PyProof.ExcBaseAll.ArithmeticError
import PyProof.CallFns
import PyProof.StrLawsRepr
import PyProof.ReprText
import PyProof.FactsAll.list_3
import PyProof.NeKinds
import PyProof.InstStoreFacts
import KE.KIntText
import HandS.DictComp
import HandS.ListItems
import HandS.DictTup
import PySem.Challenge.RW_pushdowns_k19_whole_turned_round_and_bac
set_option Elab.async false
set_option linter.all false
set_option maxRecDepth 100000
set_option maxHeartbeats 4000000
namespace Pdl
open PySem L2 PyProof.Rows
def lo_0 : List Str := ["_wall", "WrongValue", "ValueError", "InvalidText", "InvalidPair", "NotAWay", "InvalidTies", "InvalidArrows", "InvalidRow", "WrongName", "LookupError", "UnknownPlace", "NotPossible", "ArithmeticError", "Apart", "Ringed", "NotGiving", "MOST_TIES", "MOST_PLACES", "LETTERS", "is_place", "is_two", "is_pair", "pair_of", "places_in", "met_from", "do_hang", "check_ties", "web_told", "Web"]
def lo_1 : List Str := ["check_place", "check_pair", "check_arrows", "is_ringed", "way_told", "Way", "web_of", "check_way", "does_give", "exchanged", "led_from", "row_slip", "check_row", "arrows_behind", "step_over", "numbers_from", "is_fitting", "numbers_of", "check_both", "are_like", "times", "length", "_law_jar", "_law_dip", "_law_pick", "_law_pool", "_law_two", "_law_ties", "_law_laid", "_law_glyphs_of"]
def lo_2 : List Str := ["_law_gives", "_law_flip", "_law_walk", "_law_order", "_law_right"]
def loose : List Str := lo_0 ++ lo_1 ++ lo_2
abbrev Rw : PySem.W.OpenRow := PySem.W.OpenLaw.row PySem.Challenge.rw_pushdowns_k19_whole_turned_round_and_bac
open PySem.W PySem.Calls in
set_option maxHeartbeats 0 in
theorem head0 {H : PySem.W.Hook} {ob : PySem.W.SharedT → H.α} (ho : ∀ s : PySem.W.SharedT, ob s = H.obs s.abs) (run : ∀ w, HandSHeadRun.RunEq Rw (PySem.W.view Rw.prog [67]) H ob 20000 loose w) (call : PySem.W.WalkO (PySem.W.view Rw.prog [67]) loose (PySem.W.XL (PySem.W.view Rw.prog [67]) []) H.says Rw.toRowW (HandSHeadRun.topDef Rw.prog 67) [] fun f vs => PySem.call f vs) : PySem.Challenge.rw_pushdowns_k19_whole_turned_round_and_bac.Holds := by
  w_on; o_law
  refine HandSHeadRun.head_any (r := Rw) (q := PySem.W.view Rw.prog [67]) (H := H) (ob := ob) (M := 20000) (loose := loose) (d := HandSHeadRun.topDef Rw.prog 67) (kwd := []) ho
    (by kernel_rfl) (fun s => by kernel_rfl) run (by kernel_rfl) (by kernel_rfl) (by kernel_rfl) (by rfl) (by first | assumption | decide +kernel) (by decide +kernel) ⟨rfl, rfl, rfl, rfl, rfl, by decide +kernel⟩ ?hw call
  case hw => w_witness2
end Pdl
namespace PySem
end PySem
namespace PySem
namespace HandSPX
open Builtin Builtin.ObjectAttr
end HandSPX
end PySem
namespace PySem
namespace HandSPX
end HandSPX
end PySem
open PySem PySem.W PySem.Calls PyProof.Rows

set_option Elab.async false
set_option linter.all false
set_option maxRecDepth 100000
set_option maxHeartbeats 4000000
namespace Pdl
open PySem L2
def kOf (e : Int × Value) : Key := match e.2 with | .int k _ => .inl k | .str x _ => .inr x | _ => .inl 0
def GoodK (w : World) (e : Int × Value) : Prop := keyIs (kOf e) e.2 = true ∧ e.1 = keyH w (kOf e)
theorem kOf_is {k : Key} {v : Value} {i : Int} (h : keyIs k v = true) : kOf (i, v) = k := by
  rcases keyIs_shape h with ⟨j, t, rfl, rfl⟩ | ⟨x, t, rfl, rfl⟩ <;> rfl
/-- at a stands a set with just the keys of L -/
def SetQ (w : World) (h : Heap) (a : Addr) (L : List Key) : Prop :=
  ∃ o es ep t, h.get? a = some o ∧ o.ExactSet ∧ o.data = .set es ep t ∧ (∀ e ∈ es.toList, GoodK w e) ∧ (es.toList.map kOf).Nodup ∧ (∀ k, k ∈ L ↔ k ∈ es.toList.map kOf) ∧
    es.size ≤ L.length ∧ t.fits es.size = true ∧ Ris t.place.toList ∧ (w.params.followText "set-order" = true ∨ t.led = true)
theorem SetQ.at {w : World} {h h' : Heap} {a : Addr} {L : List Key} (R : SetQ w h a L) (k : ∀ o, h.get? a = some o → h'.get? a = some o) : SetQ w h' a L := let ⟨o, es, ep, t, ho, r⟩ := R; ⟨o, es, ep, t, k o ho, r⟩
def SetE (w : World) (a : Addr) (L : List Key) : HO := .ext fun h => SetQ w h a L
inductive D where
  | non | bl (b : Bool) | int (i : Int) | str (x : Str) | ty (n : String) | ref (a : Addr)
  | lst (xs : List D) | tup (xs : List D) | dct (kvs : List (Key × D)) | ins (C : Addr) (fs : List (Str × D)) | exc (C : Addr) (fs : List (Str × D)) | set (w : World) (L : List Key) | dcT (kvs : List (List Key × D)) | tupx (xs : List D) | dcL (kvs : List (List Key × D)) | dctL (kvs : List (Key × D))
/-- an exception as a value: of the class at C, its dict (none | at d) -/
def exV (a C : Addr) (d : Option Addr) : HO := .ext fun h => ∃ oe : Obj, h.get? a = some oe ∧ Zc (.ref C) d oe ∧ ∃ vs, oe.data = .fields vs
/-- a tuple that is tracked as such -/
def TpX (G : Hp) (a : Addr) (xs : List V) : Prop := G a = some (.tup xs)
theorem TpX.of {G : Hp} {a : Addr} {xs : List V} (h : G a = some (.tup xs)) : TpX G a xs := h
theorem TpX.sq {K : PySem.W.Frag} {G : Hp} {a : Addr} {xs : List V} (h : TpX G a xs) : SqT K G a xs := .of h
mutual
/-- a value shows data in a heap -/
inductive Rp (K : PySem.W.Frag) (G : Hp) : V → D → Prop
  | non : Rp K G .non .non
  | bl (b : Bool) : Rp K G (.bl b) (.bl b)
  | int (i : Int) : Rp K G (.int i) (.int i)
  | str (x : Str) : Rp K G (.str x) (.str x)
  | ty (n : String) : Rp K G (.ty n) (.ty n)
  | ref (a : Addr) : Rp K G (.ref a) (.ref a)
  | lst {a : Addr} {xs : List V} {ds : List D} : SqL K G a xs → RpA K G xs ds → Rp K G (.ref a) (.lst ds)
  | tup {a : Addr} {xs : List V} {ds : List D} : TpX G a xs → RpA K G xs ds → Rp K G (.ref a) (.tup ds)
  | tupx {a : Addr} {xs : List V} {ds : List D} : SqT K G a xs → RpA K G xs ds → Rp K G (.ref a) (.tupx ds)
  | dct {a : Addr} {kvs : List (Key × V)} {ds : List (Key × D)} : G a = some (.dK kvs) → RpK K G kvs ds → Rp K G (.ref a) (.dct ds)
  | ins {a C dx : Addr} {fs : List (Str × V)} {ds : List (Str × D)} : G a = some (.ins C dx fs) → RpF K G fs ds → Rp K G (.ref a) (.ins C ds)
  | exc0 {a C : Addr} : G a = some (exV a C none) → Rp K G (.ref a) (.exc C [])
  | exc1 {a C dx : Addr} {fs : List (Str × V)} {ds : List (Str × D)} : G a = some (exV a C (some dx)) → G dx = some (.xd fs) → RpF K G fs ds → Rp K G (.ref a) (.exc C ds)
  | set {a : Addr} {w : World} {L : List Key} : G a = some (SetE w a L) → Rp K G (.ref a) (.set w L)
  | dcT {a : Addr} {kvs : List (List Key × V)} {ds : List (List Key × D)} : G a = some (.dT kvs) → RpT K G kvs ds → Rp K G (.ref a) (.dcT ds)
  | dcL {a : Addr} {o : Obj} {kvs : List (List Key × V)} {ds : List (List Key × D)} : G a = some (.frz o (.dT kvs)) → RpT K G kvs ds → Rp K G (.ref a) (.dcL ds)
  | dctL {a : Addr} {o : Obj} {kvs : List (Key × V)} {ds : List (Key × D)} : G a = some (.frz o (.dK kvs)) → RpK K G kvs ds → Rp K G (.ref a) (.dctL ds)
inductive RpA (K : PySem.W.Frag) (G : Hp) : List V → List D → Prop
  | nil : RpA K G [] []
  | cons {v : V} {d : D} {vs : List V} {ds : List D} : Rp K G v d → RpA K G vs ds → RpA K G (v :: vs) (d :: ds)
inductive RpK (K : PySem.W.Frag) (G : Hp) : List (Key × V) → List (Key × D) → Prop
  | nil : RpK K G [] []
  | cons {k : Key} {v : V} {d : D} {vs : List (Key × V)} {ds : List (Key × D)} : Rp K G v d → RpK K G vs ds → RpK K G ((k, v) :: vs) ((k, d) :: ds)
inductive RpT (K : PySem.W.Frag) (G : Hp) : List (List Key × V) → List (List Key × D) → Prop
  | nil : RpT K G [] []
  | cons {k : List Key} {v : V} {d : D} {vs : List (List Key × V)} {ds : List (List Key × D)} : Rp K G v d → RpT K G vs ds → RpT K G ((k, v) :: vs) ((k, d) :: ds)
inductive RpF (K : PySem.W.Frag) (G : Hp) : List (Str × V) → List (Str × D) → Prop
  | nil : RpF K G [] []
  | cons {k : Str} {v : V} {d : D} {vs : List (Str × V)} {ds : List (Str × D)} : Rp K G v d → RpF K G vs ds → RpF K G ((k, v) :: vs) ((k, d) :: ds)
end
/-- every object of the one stands in the other -/
def Sub (G G' : Hp) : Prop := ∀ a o, G a = some o → G' a = some o
theorem Sub.refl (G : Hp) : Sub G G := fun _ _ h => h
theorem Sub.trans {G G1 G2 : Hp} (a : Sub G G1) (b : Sub G1 G2) : Sub G G2 := fun x o h => b x o (a x o h)
theorem Sub.sqL {K : PySem.W.Frag} {G G' : Hp} {a : Addr} {xs : List V} (e : Sub G G') (h : SqL K G a xs) : SqL K G' a xs := by
  rcases h with (h | ⟨o, h⟩) | h
  · exact .inl (.inl (e _ _ h))
  · exact .inl (.inr ⟨o, e _ _ h⟩)
  · exact .inr h
theorem Sub.sqT {K : PySem.W.Frag} {G G' : Hp} {a : Addr} {xs : List V} (e : Sub G G') (h : SqT K G a xs) : SqT K G' a xs := by
  rcases h with (h | ⟨o, h⟩) | h
  · exact .inl (.inl (e _ _ h))
  · exact .inl (.inr ⟨o, e _ _ h⟩)
  · exact .inr h
section
variable {K : PySem.W.Frag} {G G' : Hp}
mutual
theorem Rp.mono (e : Sub G G') : ∀ {v : V} {d : D}, Rp K G v d → Rp K G' v d
  | _, _, .non => .non
  | _, _, .bl b => .bl b
  | _, _, .int i => .int i
  | _, _, .str x => .str x
  | _, _, .ty n => .ty n
  | _, _, .ref a => .ref a
  | _, _, .lst h r => .lst (e.sqL h) (RpA.mono e r)
  | _, _, .tup h r => .tup (e _ _ h) (RpA.mono e r)
  | _, _, .tupx h r => .tupx (e.sqT h) (RpA.mono e r)
  | _, _, .dct h r => .dct (e _ _ h) (RpK.mono e r)
  | _, _, .ins h r => .ins (e _ _ h) (RpF.mono e r)
  | _, _, .exc0 h => .exc0 (e _ _ h)
  | _, _, .exc1 h h2 r => .exc1 (e _ _ h) (e _ _ h2) (RpF.mono e r)
  | _, _, .set h => .set (e _ _ h)
  | _, _, .dcT h r => .dcT (e _ _ h) (RpT.mono e r)
  | _, _, .dcL h r => .dcL (e _ _ h) (RpT.mono e r)
  | _, _, .dctL h r => .dctL (e _ _ h) (RpK.mono e r)
theorem RpA.mono (e : Sub G G') : ∀ {v : List V} {d : List D}, RpA K G v d → RpA K G' v d
  | _, _, .nil => .nil
  | _, _, .cons h r => .cons (Rp.mono e h) (RpA.mono e r)
theorem RpK.mono (e : Sub G G') : ∀ {v : List (Key × V)} {d : List (Key × D)}, RpK K G v d → RpK K G' v d
  | _, _, .nil => .nil
  | _, _, .cons h r => .cons (Rp.mono e h) (RpK.mono e r)
theorem RpT.mono (e : Sub G G') : ∀ {v : List (List Key × V)} {d : List (List Key × D)}, RpT K G v d → RpT K G' v d
  | _, _, .nil => .nil
  | _, _, .cons h r => .cons (Rp.mono e h) (RpT.mono e r)
theorem RpF.mono (e : Sub G G') : ∀ {v : List (Str × V)} {d : List (Str × D)}, RpF K G v d → RpF K G' v d
  | _, _, .nil => .nil
  | _, _, .cons h r => .cons (Rp.mono e h) (RpF.mono e r)
end
end
theorem RpA.length {K : PySem.W.Frag} {G : Hp} : ∀ {vs : List V} {ds : List D}, RpA K G vs ds → vs.length = ds.length
  | _, _, .nil => rfl
  | _, _, .cons _ r => by simp [RpA.length r]
theorem RpA.get {K : PySem.W.Frag} {G : Hp} : ∀ {vs : List V} {ds : List D} {i : Nat} {v : V}, RpA K G vs ds → vs[i]? = some v → ∃ d, ds[i]? = some d ∧ Rp K G v d
  | _, _, _, _, .nil, e => by simp at e
  | _, _, 0, _, .cons h _, e => by simp at e; subst e; exact ⟨_, rfl, h⟩
  | _, _, i + 1, v, .cons _ r, e => by
    obtain ⟨d, h1, h2⟩ := RpA.get (i := i) (v := v) r (by simpa using e)
    exact ⟨d, by simpa using h1, h2⟩
theorem RpA.got {K : PySem.W.Frag} {G : Hp} : ∀ {vs : List V} {ds : List D} {i : Nat} {d : D}, RpA K G vs ds → ds[i]? = some d → ∃ v, vs[i]? = some v ∧ Rp K G v d
  | _, _, _, _, .nil, e => by simp at e
  | _, _, 0, _, .cons h _, e => by simp at e; subst e; exact ⟨_, rfl, h⟩
  | _, _, i + 1, v, .cons _ r, e => by
    obtain ⟨d, h1, h2⟩ := RpA.got (i := i) r (by simpa using e)
    exact ⟨d, by simpa using h1, h2⟩
theorem RpA.app {K : PySem.W.Frag} {G : Hp} : ∀ {vs us : List V} {ds es : List D}, RpA K G vs ds → RpA K G us es → RpA K G (vs ++ us) (ds ++ es)
  | _, _, _, _, .nil, r => r
  | _, _, _, _, .cons h t, r => .cons h (RpA.app t r)
theorem RpA.take {K : PySem.W.Frag} {G : Hp} : ∀ {vs : List V} {ds : List D} (n : Nat), RpA K G vs ds → RpA K G (vs.take n) (ds.take n)
  | _, _, 0, _ => by simpa using .nil
  | _, _, _ + 1, .nil => .nil
  | _, _, n + 1, .cons h t => .cons h (RpA.take n t)
theorem RpA.drop {K : PySem.W.Frag} {G : Hp} : ∀ {vs : List V} {ds : List D} (n : Nat), RpA K G vs ds → RpA K G (vs.drop n) (ds.drop n)
  | _, _, 0, r => by simpa using r
  | _, _, _ + 1, .nil => .nil
  | _, _, n + 1, .cons _ t => RpA.drop n t
theorem RpA.set {K : PySem.W.Frag} {G : Hp} {v : V} {d : D} (h : Rp K G v d) : ∀ {vs : List V} {ds : List D} (n : Nat), RpA K G vs ds → RpA K G (vs.set n v) (ds.set n d)
  | _, _, _, .nil => .nil
  | _, _, 0, .cons _ t => .cons h t
  | _, _, n + 1, .cons q t => .cons q (RpA.set h n t)
theorem RpA.reverse {K : PySem.W.Frag} {G : Hp} : ∀ {vs : List V} {ds : List D}, RpA K G vs ds → RpA K G vs.reverse ds.reverse
  | _, _, .nil => .nil
  | _, _, .cons h t => by
    rw [List.reverse_cons, List.reverse_cons]
    exact (RpA.reverse t).app (.cons h .nil)
theorem RpA.strs {K : PySem.W.Frag} {G : Hp} : ∀ (zs : List Str), RpA K G (zs.map V.str) (zs.map D.str)
  | [] => .nil
  | z :: zs => .cons (.str z) (RpA.strs zs)
theorem RpA.of_strs {K : PySem.W.Frag} {G : Hp} : ∀ {zs : List Str} {vs : List V}, RpA K G vs (zs.map D.str) → vs = zs.map V.str
  | [], _, .nil => rfl
  | _ :: _, _, .cons h t => by
    cases h
    rw [RpA.of_strs t]
    all_goals rfl
theorem RpA.ints {K : PySem.W.Frag} {G : Hp} : ∀ (zs : List Int), RpA K G (zs.map V.int) (zs.map D.int)
  | [] => .nil
  | z :: zs => .cons (.int z) (RpA.ints zs)
theorem RpA.of_ints {K : PySem.W.Frag} {G : Hp} : ∀ {zs : List Int} {vs : List V}, RpA K G vs (zs.map D.int) → vs = zs.map V.int
  | [], _, .nil => rfl
  | _ :: _, _, .cons h t => by
    cases h
    rw [RpA.of_ints t]
    all_goals rfl
theorem RpF.lookup {K : PySem.W.Frag} {G : Hp} {f : Str} : ∀ {fs : List (Str × V)} {ds : List (Str × D)}, RpF K G fs ds →
    (∀ d, ds.lookup f = some d → ∃ v, fs.lookup f = some v ∧ Rp K G v d) ∧ (ds.lookup f = none → fs.lookup f = none)
  | _, _, .nil => ⟨fun d h => (by cases h), fun _ => rfl⟩
  | _, _, .cons (k := k) h t => by
    obtain ⟨i1, i2⟩ := RpF.lookup (f := f) t
    simp only [List.lookup]
    cases e : (f == k) with
    | true => exact ⟨fun d hd => (by cases hd; exact ⟨_, rfl, h⟩), fun hd => (by cases hd)⟩
    | false => exact ⟨i1, i2⟩
theorem RpF.length {K : PySem.W.Frag} {G : Hp} : ∀ {vs : List (Str × V)} {ds : List (Str × D)}, RpF K G vs ds → vs.length = ds.length
  | _, _, .nil => rfl
  | _, _, .cons _ r => by simp [RpF.length r]
/-- what is known of an object that may change -/
inductive Cell where
  | jar | lst (xs : List D) | dct (kvs : List (Key × D)) | ins (C : Addr) (fs : List (Str × D)) | dcT (kvs : List (List Key × D)) | tupx (xs : List D) | dcL (kvs : List (List Key × D)) | dctL (kvs : List (Key × D)) | tbl (q : Str)
def CellRp (K : PySem.W.Frag) (G : Hp) (o : Option HO) : Cell → Prop
  | .jar => ∃ a b c : Int, o = some (.lst [.int a, .int b, .int c]) ∧ 0 ≤ a ∧ 0 ≤ b ∧ 0 ≤ c
  | .lst xs => ∃ vs, o = some (.lst vs) ∧ RpA K G vs xs
  | .dct kvs => ∃ vs, o = some (.dK vs) ∧ RpK K G vs kvs
  | .ins C fs => ∃ dx vs, o = some (.ins C dx vs) ∧ RpF K G vs fs
  | .dcT kvs => ∃ vs, o = some (.dT vs) ∧ RpT K G vs kvs
  | .dcL kvs => ∃ (ob : Obj) (vs : List (List Key × V)), o = some (.frz ob (.dT vs)) ∧ RpT K G vs kvs
  | .dctL kvs => ∃ (ob : Obj) (vs : List (Key × V)), o = some (.frz ob (.dK vs)) ∧ RpK K G vs kvs
  | .tupx xs => ∃ (ob : Obj) (vs : List V), o = some (.frz ob (.tup vs)) ∧ ob.cls = .type "tuple" ∧ ob.dict = none ∧ RpA K G vs xs
  | .tbl q => ∃ ps : Array Value, o = some (.tbl ps) ∧ TriplesOk ps.toList ∧ ∀ (pos : Pos) (cv : Value), codeAmong pos ps.toList = some cv → ∃ c, cv = .ref c ∧ G c = some (LamX.CodeO c q)
theorem CellRp.mono {K : PySem.W.Frag} {G G' : Hp} {o : Option HO} (e : Sub G G') : ∀ {c : Cell}, CellRp K G o c → CellRp K G' o c
  | .jar, h => h
  | .lst _, ⟨vs, h, r⟩ => ⟨vs, h, r.mono e⟩
  | .dct _, ⟨vs, h, r⟩ => ⟨vs, h, r.mono e⟩
  | .ins _ _, ⟨dx, vs, h, r⟩ => ⟨dx, vs, h, r.mono e⟩
  | .dcT _, ⟨vs, h, r⟩ => ⟨vs, h, r.mono e⟩
  | .dcL _, ⟨ob, vs, h, r⟩ => ⟨ob, vs, h, r.mono e⟩
  | .dctL _, ⟨ob, vs, h, r⟩ => ⟨ob, vs, h, r.mono e⟩
  | .tupx _, ⟨ob, vs, h, h1, h2, r⟩ => ⟨ob, vs, h, h1, h2, r.mono e⟩
  | .tbl _, ⟨ps, h, ht, r⟩ => ⟨ps, h, ht, fun pos cv hc => let ⟨c, e1, e2⟩ := r pos cv hc; ⟨c, e1, e _ _ e2⟩⟩
/-- no tuple -/
def nT : HO → Bool
  | .tup _ => false
  | .ext _ => false
  | _ => true
theorem CellRp.someT {K : PySem.W.Frag} {G : Hp} {o : Option HO} : ∀ {c : Cell}, CellRp K G o c → ∃ u, o = some u ∧ nT u = true
  | .jar, ⟨_, _, _, h, _⟩ => ⟨_, h, rfl⟩
  | .lst _, ⟨_, h, _⟩ => ⟨_, h, rfl⟩
  | .dct _, ⟨_, h, _⟩ => ⟨_, h, rfl⟩
  | .ins _ _, ⟨_, _, h, _⟩ => ⟨_, h, rfl⟩
  | .dcT _, ⟨_, h, _⟩ => ⟨_, h, rfl⟩
  | .dcL _, ⟨_, _, h, _⟩ => ⟨_, h, rfl⟩
  | .dctL _, ⟨_, _, h, _⟩ => ⟨_, h, rfl⟩
  | .tupx _, ⟨_, _, h, _⟩ => ⟨_, h, rfl⟩
  | .tbl _, ⟨_, h, _⟩ => ⟨_, h, rfl⟩
theorem CellRp.some {K : PySem.W.Frag} {G : Hp} {o : Option HO} {c : Cell} (h : CellRp K G o c) : ∃ u, o = some u := let ⟨u, e, _⟩ := h.someT; ⟨u, e⟩
abbrev Cs := List (Addr × Cell)
structure En where
  s : List (Option D)
  c : Cs := []
def inC (c : Cs) (a : Addr) : Bool := c.any fun p => p.1 == a
def tot (m : Addr → Bool) (c : Cs) : Addr → Bool := fun a => m a || inC c a
def hid (m : Addr → Bool) (H : Hp) : Hp := fun a => if m a = true then none else H a
theorem inC_of {c : Cs} {p : Addr × Cell} (h : p ∈ c) : inC c p.1 = true := List.any_eq_true.mpr ⟨p, h, by simp⟩
theorem of_inC {c : Cs} {a : Addr} (h : inC c a = true) : ∃ p ∈ c, p.1 = a := by
  obtain ⟨p, h1, h2⟩ := List.any_eq_true.mp h
  exact ⟨p, h1, by simpa using h2⟩
theorem hid_some {m : Addr → Bool} {H : Hp} {a : Addr} {o : HO} : hid m H a = some o ↔ m a = false ∧ H a = some o := by
  unfold hid
  cases e : m a <;> simp
theorem hid_sub (m : Addr → Bool) (H : Hp) : Sub (hid m H) H := fun a o h => (hid_some.mp h).2
theorem hid_mono {m m' : Addr → Bool} {H H' : Hp} (h : ∀ a o, m a = false → H a = some o → m' a = false ∧ H' a = some o) : Sub (hid m H) (hid m' H') := fun a o e => by
  obtain ⟨h1, h2⟩ := hid_some.mp e
  exact hid_some.mpr (h a o h1 h2)
theorem tot_false {m : Addr → Bool} {c : Cs} {a : Addr} : tot m c a = false ↔ m a = false ∧ inC c a = false := by
  unfold tot
  simp
def SlotRp (K : PySem.W.Frag) (G : Hp) (σ : L2.St) (s : List (Option D)) : Prop := σ.length = s.length ∧ ∀ (i : Nat) (d : D), s[i]? = some (some d) → ∃ v, σ[i]? = some (some v) ∧ Rp K G v d
theorem SlotRp.mono {K : PySem.W.Frag} {G G' : Hp} {σ : L2.St} {s : List (Option D)} (e : Sub G G') (h : SlotRp K G σ s) : SlotRp K G' σ s := ⟨h.1, fun i d q => let ⟨v, a, b⟩ := h.2 i d q; ⟨v, a, b.mono e⟩⟩
theorem SlotRp.set {K : PySem.W.Frag} {G : Hp} {σ : L2.St} {s : List (Option D)} {v : V} {d : D} (i : Nat) (h : SlotRp K G σ s) (r : Rp K G v d) : SlotRp K G (σ.set i (some v)) (s.set i (some d)) := by
  refine ⟨by simp [h.1], fun j e q => ?_⟩
  by_cases hj : i = j
  · subst hj
    have hlt : i < s.length := by
      have := (List.getElem?_eq_some_iff.mp q).1
      simpa using this
    rw [List.getElem?_set_self hlt] at q
    cases q
    exact ⟨v, by rw [List.getElem?_set_self (by rw [h.1]; exact hlt)], r⟩
  · rw [List.getElem?_set_ne hj] at q
    obtain ⟨w, h1, h2⟩ := h.2 j e q
    exact ⟨w, by rw [List.getElem?_set_ne hj]; exact h1, h2⟩
theorem SlotRp.unset {K : PySem.W.Frag} {G : Hp} {σ : L2.St} {s : List (Option D)} (i : Nat) (h : SlotRp K G σ s) : SlotRp K G (σ.set i none) (s.set i none) := by
  refine ⟨by simp [h.1], fun j e q => ?_⟩
  by_cases hj : i = j
  · subst hj
    by_cases hlt : i < s.length
    · rw [List.getElem?_set_self hlt] at q; cases q
    · rw [List.getElem?_eq_none (by simpa using hlt)] at q; cases q
  · rw [List.getElem?_set_ne hj] at q
    obtain ⟨w, h1, h2⟩ := h.2 j e q
    exact ⟨w, by rw [List.getElem?_set_ne hj]; exact h1, h2⟩
/-- an exception: its class, what it keeps -/
structure Xn where
  cls : Value
  fs : Option (List (Str × D))
/-- where one stands: what is masked (others' cells); the cells and the heap at the entry; what is wanted of an exception -/
structure Md where
  m : Addr → Bool
  c0 : Cs
  H0 : Hp
  E : Xn → En → Prop
/-- what is no cell stays, and becomes none -/
def Fw (c c' : Cs) (H H' : Hp) : Prop := ∀ a o, inC c a = false → H a = some o → H' a = some o ∧ inC c' a = false
theorem Fw.refl (c : Cs) (H : Hp) : Fw c c H H := fun _ _ h e => ⟨e, h⟩
theorem Fw.trans {c c1 c2 : Cs} {H H1 H2 : Hp} (a : Fw c c1 H H1) (b : Fw c1 c2 H1 H2) : Fw c c2 H H2 := fun x o h e =>
  let ⟨h1, h2⟩ := a x o h e
  b x o h2 h1
theorem Fw.sub {c c' : Cs} {H H' : Hp} {m : Addr → Bool} (a : Fw c c' H H') : Sub (hid (tot m c) H) (hid (tot m c') H') := hid_mono fun x o h e => by
  obtain ⟨h1, h2⟩ := tot_false.mp h
  obtain ⟨h3, h4⟩ := a x o h2 e
  exact ⟨tot_false.mpr ⟨h1, h4⟩, h3⟩
theorem Fw.of_sub {c : Cs} {H H' : Hp} (e : Sub H H') : Fw c c H H' := fun a o h q => ⟨e a o q, h⟩
/-- the cells as they stand; m: what is masked -/
structure COk (K : PySem.W.Frag) (m : Addr → Bool) (H : Hp) (c : Cs) : Prop where
  dom : ∀ a, m a = true → ∃ o, H a = some o ∧ nT o = true
  nd : (c.map (·.1)).Nodup
  off : ∀ p ∈ c, m p.1 = false
  cells : ∀ p ∈ c, CellRp K (hid (tot m c) H) (H p.1) p.2
theorem COk.more {K : PySem.W.Frag} {m : Addr → Bool} {H H' : Hp} {c : Cs} (R : COk K m H c) (e : Sub H H') : COk K m H' c := by
  have f : Sub (hid (tot m c) H) (hid (tot m c) H') := (Fw.of_sub (c := c) e).sub
  refine ⟨fun a h => ?_, R.nd, R.off, fun p hp => ?_⟩
  · obtain ⟨o, q, z⟩ := R.dom a h
    exact ⟨o, e a o q, z⟩
  · have h := R.cells p hp
    obtain ⟨u, hu⟩ := h.some
    have e' : H' p.1 = H p.1 := by rw [hu]; exact e _ _ hu
    rw [e']
    exact h.mono f
theorem COk.domT {K : PySem.W.Frag} {m : Addr → Bool} {H : Hp} {c : Cs} (R : COk K m H c) : ∀ a, tot m c a = true → ∃ o, H a = some o ∧ nT o = true := fun a h => by
  unfold tot at h
  rcases (Bool.or_eq_true _ _).mp h with h | h
  · exact R.dom a h
  · obtain ⟨p, hp, rfl⟩ := of_inC h
    exact (R.cells p hp).someT
/-- a def's slots and heap show an environment -/
structure Rel (K : PySem.W.Frag) (μ : Md) (H : Hp) (σ : L2.St) (Γ : En) : Prop where
  co : COk K μ.m H Γ.c
  slots : SlotRp K (hid (tot μ.m Γ.c) H) σ Γ.s
  fw : Fw μ.c0 Γ.c μ.H0 H
abbrev Vw (μ : Md) (Γ : En) (H : Hp) : Hp := hid (tot μ.m Γ.c) H
section
variable {K : PySem.W.Frag} {μ : Md} {H H' : Hp} {σ : L2.St} {Γ : En} {v : V} {d : D}
/-- new objects alone -/
theorem Rel.more (R : Rel K μ H σ Γ) (e : Sub H H') : Rel K μ H' σ Γ :=
  ⟨R.co.more e, R.slots.mono (Fw.of_sub (c := Γ.c) e).sub, R.fw.trans (Fw.of_sub e)⟩
theorem Rel.domT (R : Rel K μ H σ Γ) : ∀ a, tot μ.m Γ.c a = true → ∃ o, H a = some o ∧ nT o = true := R.co.domT
theorem Rel.set (R : Rel K μ H σ Γ) (i : Nat) (r : Rp K (Vw μ Γ H) v d) : Rel K μ H (σ.set i (some v)) { Γ with s := Γ.s.set i (some d) } :=
  ⟨R.co, R.slots.set i r, R.fw⟩
/-- a new address is not masked -/
theorem Rel.fresh (R : Rel K μ H σ Γ) {p : Addr} (h : H p = none) : tot μ.m Γ.c p = false := by
  cases e : tot μ.m Γ.c p with
  | false => rfl
  | true =>
    obtain ⟨o, q, _⟩ := R.domT p e
    rw [h] at q
    cases q
end
theorem sub_upd {H : Hp} {p : Addr} {o : HO} (h : H p = none) : Sub H (upd H p o) := fun a u e => by
  rw [upd_ne (ne_of_none e h)]
  exact e
theorem hid_upd {m : Addr → Bool} {H : Hp} {p : Addr} {o : HO} (h : m p = false) : hid m (upd H p o) p = some o := hid_some.mpr ⟨h, upd_same⟩
/-- all readings at once -/
def uE (X : Cx) (e : Expr) : TE := fun σ H Q => ∃ t, PE X e t ∧ t σ H Q
theorem pe_u {X : Cx} {e : Expr} : PE X e (uE X e) := ⟨fun pins s σ H Q I ⟨_, h, q⟩ => h.run pins s σ H Q I q⟩
def uT (X : Cx) (e : Expr) : TT := fun σ H Q => ∃ t, PT X e t ∧ t σ H Q
theorem pt_u {X : Cx} {e : Expr} : PT X e (uT X e) := ⟨fun pins s σ H Q I ⟨_, h, q⟩ => h.run pins s σ H Q I q⟩
def uW (X : Cx) (e : Expr) : TT := fun σ H Q => ∃ t, PW X e t ∧ t σ H Q
theorem pw_u {X : Cx} {e : Expr} : PW X e (uW X e) := ⟨fun wh pins s σ H Q I ⟨_, h, q⟩ => h.run wh pins s σ H Q I q⟩
def uA (X : Cx) (es : List Expr) : TA := fun σ H Q => ∃ t, PA X es t ∧ t σ H Q
theorem pa_u {X : Cx} {es : List Expr} : PA X es (uA X es) := ⟨fun pos pins s σ H Q I ⟨_, h, q⟩ => h.run pos pins s σ H Q I q⟩
def uK (X : Cx) (ks : List Keyword) : TA := fun σ H Q => ∃ t, PK X ks t ∧ t σ H Q
theorem pk_u {X : Cx} {ks : List Keyword} : PK X ks (uK X ks) := ⟨fun pos pins s σ H Q I ⟨_, h, q⟩ => h.run pos pins s σ H Q I q⟩
def uSs (X : Cx) (st : List Stmt) : TS := fun D σ H => ∃ t, PSs X st t ∧ t D σ H
theorem pss_u {X : Cx} {st : List Stmt} : PSs X st (uSs X st) := ⟨fun pins s σ H D I ⟨_, h, q⟩ => h.run pins s σ H D I q⟩
def uG (X : Cx) (tg : Expr) : TG := fun v σ H Q => ∃ t, PG X tg t ∧ t v σ H Q
theorem pg_u {X : Cx} {tg : Expr} : PG X tg (uG X tg) := ⟨fun pins s σ H v u Q I r ⟨_, h, q⟩ => h.run pins s σ H v u Q I r q⟩
def uGs (X : Cx) (tg : List Expr) : TGs := fun v σ H Q => ∃ t, PGs X tg t ∧ t v σ H Q
theorem pgs_u {X : Cx} {tg : List Expr} : PGs X tg (uGs X tg) := ⟨fun pins s σ H v u Q I r ⟨_, h, q⟩ => h.run pins s σ H v u Q I r q⟩
def uO (X : Cx) (e : Option Expr) : TO := fun σ H Q => ∃ t, PO X e t ∧ t σ H Q
theorem po_u {X : Cx} {e : Option Expr} : PO X e (uO X e) := ⟨fun pins s σ H Q I ⟨_, h, q⟩ => h.run pins s σ H Q I q⟩
theorem PE.imp {X : Cx} {e : Expr} {t u : TE} (h : PE X e t) (i : ∀ σ H Q, u σ H Q → t σ H Q) : PE X e u := ⟨fun pins s σ H Q I q => h.run pins s σ H Q I (i _ _ _ q)⟩
theorem PT.imp {X : Cx} {e : Expr} {t u : TT} (h : PT X e t) (i : ∀ σ H Q, u σ H Q → t σ H Q) : PT X e u := ⟨fun pins s σ H Q I q => h.run pins s σ H Q I (i _ _ _ q)⟩
theorem PW.imp {X : Cx} {e : Expr} {t u : TT} (h : PW X e t) (i : ∀ σ H Q, u σ H Q → t σ H Q) : PW X e u := ⟨fun wh pins s σ H Q I q => h.run wh pins s σ H Q I (i _ _ _ q)⟩
theorem PA.imp {X : Cx} {e : List Expr} {t u : TA} (h : PA X e t) (i : ∀ σ H Q, u σ H Q → t σ H Q) : PA X e u := ⟨fun pos pins s σ H Q I q => h.run pos pins s σ H Q I (i _ _ _ q)⟩
theorem PK.imp {X : Cx} {e : List Keyword} {t u : TA} (h : PK X e t) (i : ∀ σ H Q, u σ H Q → t σ H Q) : PK X e u := ⟨fun pos pins s σ H Q I q => h.run pos pins s σ H Q I (i _ _ _ q)⟩
theorem PS.imp {X : Cx} {e : Stmt} {t u : TS} (h : PS X e t) (i : ∀ D σ H, u D σ H → t D σ H) : PS X e u := ⟨fun pins s σ H Q I q => h.run pins s σ H Q I (i _ _ _ q)⟩
theorem PSs.imp {X : Cx} {e : List Stmt} {t u : TS} (h : PSs X e t) (i : ∀ D σ H, u D σ H → t D σ H) : PSs X e u := ⟨fun pins s σ H Q I q => h.run pins s σ H Q I (i _ _ _ q)⟩
theorem PG.imp {X : Cx} {e : Expr} {t u : TG} (h : PG X e t) (i : ∀ v σ H Q, u v σ H Q → t v σ H Q) : PG X e u := ⟨fun pins s σ H v w Q I r q => h.run pins s σ H v w Q I r (i _ _ _ _ q)⟩
theorem PGs.imp {X : Cx} {e : List Expr} {t u : TGs} (h : PGs X e t) (i : ∀ v σ H Q, u v σ H Q → t v σ H Q) : PGs X e u := ⟨fun pins s σ H v w Q I r q => h.run pins s σ H v w Q I r (i _ _ _ _ q)⟩
theorem PI.imp {X : Cx} {tg e : Expr} {t u : TI} (h : PI X tg e t) (i : ∀ σ H Q, u σ H Q → t σ H Q) : PI X tg e u := ⟨fun pins s σ H Q I q => h.run pins s σ H Q I (i _ _ _ q)⟩
theorem PO.imp {X : Cx} {e : Option Expr} {t u : TO} (h : PO X e t) (i : ∀ σ H Q, u σ H Q → t σ H Q) : PO X e u := ⟨fun pins s σ H Q I q => h.run pins s σ H Q I (i _ _ _ q)⟩
abbrev QE := D → En → Prop
/-- an expression, by data -/
def tD (K : PySem.W.Frag) (μ : Md) (Γ : En) (Q : QE) : TE := fun σ H q => Rel K μ H σ Γ ∧ ∀ v H' d Γ', Γ'.s = Γ.s → Fw Γ.c Γ'.c H H' → Rel K μ H' σ Γ' → Rp K (Vw μ Γ' H') v d → Q d Γ' → q v H'
def tTD (K : PySem.W.Frag) (μ : Md) (Γ : En) (Q : Bool → En → Prop) : TT := fun σ H q => Rel K μ H σ Γ ∧ ∀ H' b Γ', Γ'.s = Γ.s → Fw Γ.c Γ'.c H H' → Rel K μ H' σ Γ' → Q b Γ' → q b H'
def tAD (K : PySem.W.Frag) (μ : Md) (Γ : En) (Q : List D → En → Prop) : TA := fun σ H q => Rel K μ H σ Γ ∧ ∀ vs H' ds Γ', Γ'.s = Γ.s → Fw Γ.c Γ'.c H H' → Rel K μ H' σ Γ' → RpA K (Vw μ Γ' H') vs ds → Q ds Γ' → q vs H'
def tOD (K : PySem.W.Frag) (μ : Md) (Γ : En) (Q : Option Int → En → Prop) : TO := fun σ H q => Rel K μ H σ Γ ∧ ∀ H' b Γ', Γ'.s = Γ.s → Fw Γ.c Γ'.c H H' → Rel K μ H' σ Γ' → Q b Γ' → q b H'
structure Po where
  nx : En → Prop
  rt : QE
  bk : En → Prop := fun _ => False
  ct : En → Prop := fun _ => False
def tSD (K : PySem.W.Frag) (μ : Md) (Γ : En) (P : Po) : TS := fun D σ H => Rel K μ H σ Γ ∧ (∀ σ' H' Γ', Fw Γ.c Γ'.c H H' → Rel K μ H' σ' Γ' → P.nx Γ' → D.nx σ' H') ∧
  (∀ v σ' H' d Γ', Fw Γ.c Γ'.c H H' → Rel K μ H' σ' Γ' → Rp K (Vw μ Γ' H') v d → P.rt d Γ' → D.rt v H') ∧
  (∀ σ' H' Γ', Fw Γ.c Γ'.c H H' → Rel K μ H' σ' Γ' → P.bk Γ' → D.bk σ' H') ∧ (∀ σ' H' Γ', Fw Γ.c Γ'.c H H' → Rel K μ H' σ' Γ' → P.ct Γ' → D.ct σ' H')
def XE (X : Cx) (μ : Md) (e : Expr) (Γ : En) (Q : QE) : Prop := PE X e (tD X.K μ Γ Q)
def XT (X : Cx) (μ : Md) (e : Expr) (Γ : En) (Q : Bool → En → Prop) : Prop := PT X e (tTD X.K μ Γ Q)
def XW (X : Cx) (μ : Md) (e : Expr) (Γ : En) (Q : Bool → En → Prop) : Prop := PW X e (tTD X.K μ Γ Q)
def XA (X : Cx) (μ : Md) (es : List Expr) (Γ : En) (Q : List D → En → Prop) : Prop := PA X es (tAD X.K μ Γ Q)
def XKw (X : Cx) (μ : Md) (es : List Keyword) (Γ : En) (Q : List D → En → Prop) : Prop := PK X es (tAD X.K μ Γ Q)
def XO (X : Cx) (μ : Md) (e : Option Expr) (Γ : En) (Q : Option Int → En → Prop) : Prop := PO X e (tOD X.K μ Γ Q)
def XS (X : Cx) (μ : Md) (st : Stmt) (Γ : En) (P : Po) : Prop := PS X st (tSD X.K μ Γ P)
def XB (X : Cx) (μ : Md) (st : List Stmt) (Γ : En) (P : Po) : Prop := PSs X st (tSD X.K μ Γ P)
section
variable {X : Cx} {μ : Md} {Γ : En} {Q : QE} {a b c e : Expr} {es : List Expr} {pos : Pos} {P : Po} {st : Stmt} {sts : List Stmt}
/-- weaken -/
theorem XE.imp {Q' : QE} (h : XE X μ e Γ Q) (i : ∀ d Γ', Q d Γ' → Q' d Γ') : XE X μ e Γ Q' := PE.imp h fun σ H q ⟨R, k⟩ => ⟨R, fun v H' d Γ' s f R' r z => k v H' d Γ' s f R' r (i _ _ z)⟩
theorem XT.imp {Q Q' : Bool → En → Prop} (h : XT X μ e Γ Q) (i : ∀ d Γ', Q d Γ' → Q' d Γ') : XT X μ e Γ Q' := PT.imp h fun σ H q ⟨R, k⟩ => ⟨R, fun H' d Γ' s f R' z => k H' d Γ' s f R' (i _ _ z)⟩
theorem xe_int {i : Int} {j} (h : Q (.int i) Γ) : XE X μ (.Constant (.int i) j pos) Γ Q := PE.imp pe_int fun σ H q ⟨R, k⟩ => k _ H _ Γ rfl (Fw.refl _ _) R (.int i) h
theorem xe_bl {i : Bool} {j} (h : Q (.bl i) Γ) : XE X μ (.Constant (.bool i) j pos) Γ Q := PE.imp pe_bl fun σ H q ⟨R, k⟩ => k _ H _ Γ rfl (Fw.refl _ _) R (.bl i) h
theorem xe_non {j} (h : Q .non Γ) : XE X μ (.Constant .none j pos) Γ Q := PE.imp pe_non fun σ H q ⟨R, k⟩ => k _ H _ Γ rfl (Fw.refl _ _) R .non h
theorem xe_str {i : Str} {j} (h : Q (.str i) Γ) : XE X μ (.Constant (.str i) j pos) Γ Q := PE.imp pe_str fun σ H q ⟨R, k⟩ => k _ H _ Γ rfl (Fw.refl _ _) R (.str i) h
theorem xe_var {i : Nat} {x : Str} {d : D} (hN : X.N[i]? = some x) (hv : Vis X.env.scope x) (hd : Γ.s[i]? = some (some d)) (h : Q d Γ) (h1 : (x == ("__debug__" : Str)) = false := by decide) (h2 : (x == ("__classdict__" : Str)) = false := by decide) : XE X μ (.Name x pos) Γ Q :=
  PE.imp (pe_var hN hv h1 h2) fun σ H q ⟨R, k⟩ => by
    obtain ⟨v, hv, r⟩ := R.slots.2 i d hd
    exact ⟨v, hv, k v H d Γ rfl (Fw.refl _ _) R r h⟩
/-- a module's constant -/
theorem xe_glob {x : Str} {u : Value} {d : D} {v : V} (hg : Gl X x) (hm : X.mg x = some u) (r : RelV v u) (rd : ∀ G, Rp X.K G v d) (h : Q d Γ) (h1 : (x == ("__debug__" : Str)) = false := by decide) : XE X μ (.Name x pos) Γ Q :=
  PE.imp (pe_glob hg hm r h1) fun σ H q ⟨R, k⟩ => k v H d Γ rfl (Fw.refl _ _) R (rd _) h
/-- an operation on data -/
def rP (K : PySem.W.Frag) (x y d : D) : R2 := fun a b H q => ∃ m : Addr → Bool, (∀ a, m a = true → ∃ o, H a = some o ∧ nT o = true) ∧ Rp K (hid m H) a x ∧ Rp K (hid m H) b y ∧ ∀ v H', Sub H H' → Rp K (hid m H') v d → q v H'
def OpD (X : Cx) (f : Value → Value → Sem Value) (x y d : D) : Prop := OpR X f (rP X.K x y d)
def UnD (X : Cx) (f : Value → Sem Value) (x d : D) : Prop := UnR X f fun a H q => ∃ m : Addr → Bool, (∀ a, m a = true → ∃ o, H a = some o ∧ nT o = true) ∧ Rp X.K (hid m H) a x ∧ ∀ v H', Sub H H' → Rp X.K (hid m H') v d → q v H'
def uR2 (X : Cx) (f : Value → Value → Sem Value) : R2 := fun a b H q => ∃ r, OpR X f r ∧ r a b H q
theorem or_u (f : Value → Value → Sem Value) : OpR X f (uR2 X f) := fun pins s σ H x y v u Q I rx ry ⟨_, h, q⟩ => h pins s σ H x y v u Q I rx ry q
theorem xe_op2 {f : Value → Value → Sem Value} {σ : L2.St} {H : Hp} {q : VK} {G : En} (ha : XE X μ a Γ fun x Γ1 => XE X μ b Γ1 fun y Γ2 => ∃ d, OpD X f x y d ∧ Q d Γ2) (h : tD X.K μ Γ Q σ H q) :
    tOp (uR2 X f) (tD X.K μ Γ fun x Γ1 => XE X μ b Γ1 fun y Γ2 => ∃ d, OpD X f x y d ∧ Q d Γ2) (uE X b) σ H q := by
  obtain ⟨R, k⟩ := h
  refine ⟨R, fun v H1 x Γ1 s1 f1 R1 r1 hb => ⟨_, hb, R1, fun w H2 y Γ2 s2 f2 R2 r2 ⟨d, ho, hq⟩ => ⟨_, ho, tot μ.m Γ2.c, R2.domT, r1.mono f2.sub, r2, fun z H3 e3 r3 => ?_⟩⟩⟩
  exact k z H3 d Γ2 (s2.trans s1) ((f1.trans f2).trans (Fw.of_sub e3)) (R2.more e3) r3 hq
theorem xe_op {op : Operator} (h : XE X μ a Γ fun x Γ1 => XE X μ b Γ1 fun y Γ2 => ∃ d, OpD X (binaryOp op) x y d ∧ Q d Γ2) : XE X μ (.BinOp a op b pos) Γ Q :=
  PE.imp (pe_op (or_u _) h pe_u) fun _ _ _ q => xe_op2 (G := Γ) h q
theorem xe_cmp {op : CmpOp} (hm : behindInMarks op b = false) (h : XE X μ a Γ fun x Γ1 => XE X μ b Γ1 fun y Γ2 => ∃ d, OpD X (compareOp op) x y d ∧ Q d Γ2) : XE X μ (.Compare a [op] [b] pos) Γ Q :=
  PE.imp (pe_cmpR (or_u _) h pe_u hm) fun _ _ _ q => xe_op2 (G := Γ) h q
theorem xt_cmp {op : CmpOp} {Q : Bool → En → Prop} (hm : behindInMarks op b = false) (h : XE X μ a Γ fun x Γ1 => XE X μ b Γ1 fun y Γ2 => ∃ c, OpD X (compareOp op) x y (.bl c) ∧ Q c Γ2) : XT X μ (.Compare a [op] [b] pos) Γ Q := by
  refine PT.imp (pt_cmpR (or_u _) h pe_u hm) fun σ H q ⟨R, k⟩ => ?_
  refine ⟨R, fun v H1 x Γ1 s1 f1 R1 r1 hb => ⟨_, hb, R1, fun w H2 y Γ2 s2 f2 R2 r2 ⟨d, ho, hq⟩ => ⟨_, ho, tot μ.m Γ2.c, R2.domT, r1.mono f2.sub, r2, fun z H3 e3 r3 => ?_⟩⟩⟩
  cases r3
  exact ⟨d, rfl, k H3 d Γ2 (s2.trans s1) ((f1.trans f2).trans (Fw.of_sub e3)) (R2.more e3) hq⟩
def uU (X : Cx) (f : Value → Sem Value) : V → Hp → VK → Prop := fun a H q => ∃ r, UnR X f r ∧ r a H q
theorem un_u (f : Value → Sem Value) : UnR X f (uU X f) := fun pins s σ H x v Q I rx ⟨_, h, q⟩ => h pins s σ H x v Q I rx q
theorem xe_un {op : UnaryOp} (h : XE X μ a Γ fun x Γ1 => ∃ d, UnD X (unaryOp op) x d ∧ Q d Γ1) : XE X μ (.UnaryOp op a pos) Γ Q :=
  PE.imp (pe_un (un_u _) h) fun σ H q ⟨R, k⟩ => ⟨R, fun v H1 x Γ1 s1 f1 R1 r1 ⟨d, ho, hq⟩ => ⟨_, ho, tot μ.m Γ1.c, R1.domT, r1, fun z H3 e3 r3 => k z H3 d Γ1 s1 (f1.trans (Fw.of_sub e3)) (R1.more e3) r3 hq⟩⟩
theorem xt_val {Q : Bool → En → Prop} (h : XE X μ e Γ fun x Γ1 => ∃ c, x = .bl c ∧ Q c Γ1) (he : ∀ whole, isTrue e X.env whole = (do let v ← whole; standAt e.pos; holding [v] (truthy v)) := by intro _; rfl) : XT X μ e Γ Q :=
  PT.imp (pt_val h he) fun σ H q ⟨R, k⟩ => ⟨R, fun v H1 x Γ1 s1 f1 R1 r1 ⟨c, hc, hq⟩ => by
    subst hc
    cases r1
    exact ⟨c, rfl, k H1 c Γ1 s1 f1 R1 hq⟩⟩
theorem xt_not {Q : Bool → En → Prop} (h : XT X μ a Γ fun x Γ1 => Q (!x) Γ1) : XT X μ (.UnaryOp .Not a pos) Γ Q :=
  PT.imp (pt_not h) fun σ H q ⟨R, k⟩ => ⟨R, fun H1 x Γ1 s1 f1 R1 hq => k H1 _ Γ1 s1 f1 R1 hq⟩
theorem xw_and1 {Q : Bool → En → Prop} (h : XT X μ a Γ Q) : XW X μ (.BoolOp .And [a] pos) Γ Q := pw_and1 h
theorem xw_or1 {Q : Bool → En → Prop} (h : XT X μ a Γ Q) : XW X μ (.BoolOp .Or [a] pos) Γ Q := pw_or1 h
theorem xw_and {Q : Bool → En → Prop} (h : XT X μ a Γ fun c Γ1 => if c = true then XW X μ (.BoolOp .And (b :: es) pos) Γ1 Q else Q false Γ1) : XW X μ (.BoolOp .And (a :: b :: es) pos) Γ Q :=
  PW.imp (pw_and h pw_u) fun σ H q ⟨R, k⟩ => ⟨R, fun H1 c Γ1 s1 f1 R1 hq => by
    cases c with
    | true =>
      rw [if_pos rfl] at hq
      show uW X _ σ H1 q
      exact ⟨_, hq, R1, fun H2 c2 Γ2 s2 f2 R2 hq => k H2 c2 Γ2 (s2.trans s1) (f1.trans f2) R2 hq⟩
    | false =>
      rw [if_neg Bool.false_ne_true] at hq
      exact k H1 false Γ1 s1 f1 R1 hq⟩
theorem xw_or {Q : Bool → En → Prop} (h : XT X μ a Γ fun c Γ1 => if c = true then Q true Γ1 else XW X μ (.BoolOp .Or (b :: es) pos) Γ1 Q) : XW X μ (.BoolOp .Or (a :: b :: es) pos) Γ Q :=
  PW.imp (pw_or h pw_u) fun σ H q ⟨R, k⟩ => ⟨R, fun H1 c Γ1 s1 f1 R1 hq => by
    cases c with
    | false =>
      rw [if_neg Bool.false_ne_true] at hq
      show uW X _ σ H1 q
      exact ⟨_, hq, R1, fun H2 c2 Γ2 s2 f2 R2 hq => k H2 c2 Γ2 (s2.trans s1) (f1.trans f2) R2 hq⟩
    | true =>
      rw [if_pos rfl] at hq
      exact k H1 true Γ1 s1 f1 R1 hq⟩
theorem xt_w {Q : Bool → En → Prop} (h : XW X μ e Γ Q) : XT X μ e Γ Q := PW.pt h
/-- and, or, not as values of bools -/
theorem xe_one {op} (h : XE X μ a Γ Q) : XE X μ (.BoolOp op [a] pos) Γ Q := pe_one h
theorem xe_and (h : XE X μ a Γ fun x Γ1 => ∃ c, x = .bl c ∧ if c = true then XE X μ (.BoolOp .And (b :: es) pos) Γ1 Q else Q (.bl false) Γ1) : XE X μ (.BoolOp .And (a :: b :: es) pos) Γ Q :=
  PE.imp (pe_and h pe_u) fun σ H q ⟨R, k⟩ => ⟨R, fun v H1 x Γ1 s1 f1 R1 r1 ⟨c, hc, hq⟩ => by
    subst hc
    cases r1
    refine ⟨c, rfl, ?_⟩
    cases c with
    | true =>
      rw [if_pos rfl] at hq
      show uE X _ σ H1 q
      exact ⟨_, hq, R1, fun v2 H2 c2 Γ2 s2 f2 R2 r2 hq => k v2 H2 c2 Γ2 (s2.trans s1) (f1.trans f2) R2 r2 hq⟩
    | false =>
      rw [if_neg Bool.false_ne_true] at hq
      exact k _ H1 _ Γ1 s1 f1 R1 (.bl false) hq⟩
theorem xe_or (h : XE X μ a Γ fun x Γ1 => ∃ c, x = .bl c ∧ if c = true then Q (.bl true) Γ1 else XE X μ (.BoolOp .Or (b :: es) pos) Γ1 Q) : XE X μ (.BoolOp .Or (a :: b :: es) pos) Γ Q :=
  PE.imp (pe_or h pe_u) fun σ H q ⟨R, k⟩ => ⟨R, fun v H1 x Γ1 s1 f1 R1 r1 ⟨c, hc, hq⟩ => by
    subst hc
    cases r1
    refine ⟨c, rfl, ?_⟩
    cases c with
    | false =>
      rw [if_neg Bool.false_ne_true] at hq
      show uE X _ σ H1 q
      exact ⟨_, hq, R1, fun v2 H2 c2 Γ2 s2 f2 R2 r2 hq => k v2 H2 c2 Γ2 (s2.trans s1) (f1.trans f2) R2 r2 hq⟩
    | true =>
      rw [if_pos rfl] at hq
      exact k _ H1 _ Γ1 s1 f1 R1 (.bl true) hq⟩
theorem xe_not (h : XE X μ a Γ fun x Γ1 => ∃ c, x = .bl c ∧ Q (.bl (!c)) Γ1) : XE X μ (.UnaryOp .Not a pos) Γ Q :=
  PE.imp (pe_not h) fun σ H q ⟨R, k⟩ => ⟨R, fun v H1 x Γ1 s1 f1 R1 r1 ⟨c, hc, hq⟩ => by
    subst hc
    cases r1
    exact ⟨c, rfl, k _ H1 _ Γ1 s1 f1 R1 (.bl _) hq⟩⟩
theorem xe_if (h : XT X μ c Γ fun x Γ1 => if x = true then XE X μ a Γ1 Q else XE X μ b Γ1 Q) : XE X μ (.IfExp c a b pos) Γ Q :=
  PE.imp (pe_ifExp h pe_u pe_u) fun σ H q ⟨R, k⟩ => ⟨R, fun H1 x Γ1 s1 f1 R1 hq => by
    cases x with
    | true =>
      rw [if_pos rfl] at hq
      exact ⟨_, hq, R1, fun v2 H2 c2 Γ2 s2 f2 R2 r2 hq => k v2 H2 c2 Γ2 (s2.trans s1) (f1.trans f2) R2 r2 hq⟩
    | false =>
      rw [if_neg Bool.false_ne_true] at hq
      exact ⟨_, hq, R1, fun v2 H2 c2 Γ2 s2 f2 R2 r2 hq => k v2 H2 c2 Γ2 (s2.trans s1) (f1.trans f2) R2 r2 hq⟩⟩
theorem xa_nil {Q : List D → En → Prop} (h : Q [] Γ) : XA X μ [] Γ Q := PA.imp pa_nil fun σ H q ⟨R, k⟩ => k [] H [] Γ rfl (Fw.refl _ _) R .nil h
theorem xa_cons {Q : List D → En → Prop} (h : XE X μ e Γ fun x Γ1 => XA X μ es Γ1 fun xs Γ2 => Q (x :: xs) Γ2) (hs : starEach (e :: es) X.env = (false, eval e X.env) :: starEach es X.env := by rfl) : XA X μ (e :: es) Γ Q :=
  PA.imp (pa_cons h pa_u hs) fun σ H q ⟨R, k⟩ => ⟨R, fun v H1 x Γ1 s1 f1 R1 r1 hq => ⟨_, hq, R1, fun vs H2 xs Γ2 s2 f2 R2 r2 hq => k (v :: vs) H2 (x :: xs) Γ2 (s2.trans s1) (f1.trans f2) R2 (.cons (r1.mono f2.sub) r2) hq⟩⟩
theorem xk_nil {Q : List D → En → Prop} (h : Q [] Γ) : XKw X μ [] Γ Q := PK.imp pk_nil fun σ H q ⟨R, k⟩ => k [] H [] Γ rfl (Fw.refl _ _) R .nil h
theorem xk_cons {Q : List D → En → Prop} {nm : Option Str} {kpos : Pos} {ks : List Keyword} (h : XE X μ e Γ fun x Γ1 => XKw X μ ks Γ1 fun xs Γ2 => Q (x :: xs) Γ2) : XKw X μ (⟨nm, e, kpos⟩ :: ks) Γ Q :=
  PK.imp (pk_cons h pk_u) fun σ H q ⟨R, k⟩ => ⟨R, fun v H1 x Γ1 s1 f1 R1 r1 hq => ⟨_, hq, R1, fun vs H2 xs Γ2 s2 f2 R2 r2 hq => k (v :: vs) H2 (x :: xs) Γ2 (s2.trans s1) (f1.trans f2) R2 (.cons (r1.mono f2.sub) r2) hq⟩⟩
theorem xe_tup {j} (h : XA X μ es Γ fun xs Γ1 => xs.length ≤ 100000 ∧ Q (.tup xs) Γ1) : XE X μ (.Tuple es j pos) Γ Q :=
  PE.imp (pe_tup h) fun σ H q ⟨R, k⟩ => ⟨R, fun vs H1 xs Γ1 s1 f1 R1 r1 ⟨hl, hq⟩ => ⟨by rw [r1.length]; exact Nat.le_trans hl (by decide), fun p hp => by
    have hf := R1.fresh hp
    have e := sub_upd (o := .tup vs) hp
    exact k _ _ _ Γ1 s1 (f1.trans (Fw.of_sub e)) (R1.more e) (.tup (.of (hid_upd hf)) (r1.mono (Fw.of_sub (c := Γ1.c) e).sub)) hq⟩⟩
theorem xe_lst (h : XA X μ es Γ fun xs Γ1 => xs.length ≤ 100000 ∧ Q (.lst xs) Γ1) : XE X μ (.List es pos) Γ Q :=
  PE.imp (pe_lst h) fun σ H q ⟨R, k⟩ => ⟨R, fun vs H1 xs Γ1 s1 f1 R1 r1 ⟨hl, hq⟩ => ⟨by rw [r1.length]; exact Nat.le_trans hl (by decide), fun p hp => by
    have hf := R1.fresh hp
    have e := sub_upd (o := .lst vs) hp
    exact k _ _ _ Γ1 s1 (f1.trans (Fw.of_sub e)) (R1.more e) (.lst (.of (hid_upd hf)) (r1.mono (Fw.of_sub (c := Γ1.c) e).sub)) hq⟩⟩
theorem xb_nil (h : P.nx Γ) : XB X μ [] Γ P := PSs.imp pss_nil fun D σ H ⟨R, k, _⟩ => k σ H Γ (Fw.refl _ _) R h
theorem xb_cons (h : XS X μ st Γ { P with nx := fun Γ1 => XB X μ sts Γ1 P }) : XB X μ (st :: sts) Γ P :=
  PSs.imp (pss_cons h pss_u) fun D σ H ⟨R, k1, k2, k3, k4⟩ => ⟨R, fun σ1 H1 Γ1 f1 R1 hq => ⟨_, hq, R1, fun σ2 H2 Γ2 f2 R2 z => k1 σ2 H2 Γ2 (f1.trans f2) R2 z, fun v σ2 H2 d Γ2 f2 R2 r z => k2 v σ2 H2 d Γ2 (f1.trans f2) R2 r z,
    fun σ2 H2 Γ2 f2 R2 z => k3 σ2 H2 Γ2 (f1.trans f2) R2 z, fun σ2 H2 Γ2 f2 R2 z => k4 σ2 H2 Γ2 (f1.trans f2) R2 z⟩, k2, k3, k4⟩
theorem xb_one (h : XS X μ st Γ P) : XB X μ [st] Γ P := pss_one h
theorem xs_pass (h : P.nx Γ) : XS X μ (.Pass pos) Γ P := PS.imp ps_pass fun D σ H ⟨R, k, _⟩ => k σ H Γ (Fw.refl _ _) R h
theorem xs_break (h : P.bk Γ) : XS X μ (.Break pos) Γ P := PS.imp ps_break fun D σ H ⟨R, _, _, k, _⟩ => k σ H Γ (Fw.refl _ _) R h
theorem xs_expr (h : XE X μ e Γ fun _ Γ1 => P.nx Γ1) (hs : swapsWith e none pos.line X.env = pure false := by rfl) : XS X μ (.Expr e pos) Γ P :=
  PS.imp (ps_expr h hs) fun D σ H ⟨R, k, _⟩ => ⟨R, fun v H1 x Γ1 s1 f1 R1 r1 hq => k σ H1 Γ1 f1 R1 hq⟩
theorem xs_ret (h : XE X μ e Γ P.rt) : XS X μ (.Return (some e) pos) Γ P :=
  PS.imp (ps_ret h) fun D σ H ⟨R, _, k, _⟩ => ⟨R, fun v H1 x Γ1 s1 f1 R1 r1 hq => k v σ H1 x Γ1 f1 R1 r1 hq⟩
theorem xs_if {t u : List Stmt} (h : XT X μ c Γ fun x Γ1 => if x = true then XB X μ t Γ1 P else XB X μ u Γ1 P) : XS X μ (.If c t u pos) Γ P :=
  PS.imp (ps_if h pss_u pss_u) fun D σ H ⟨R, k1, k2, k3, k4⟩ => ⟨R, fun H1 x Γ1 s1 f1 R1 hq => by
    cases x with
    | true =>
      rw [if_pos rfl] at hq
      exact ⟨_, hq, R1, fun σ2 H2 Γ2 f2 R2 z => k1 σ2 H2 Γ2 (f1.trans f2) R2 z, fun v σ2 H2 d Γ2 f2 R2 r z => k2 v σ2 H2 d Γ2 (f1.trans f2) R2 r z, fun σ2 H2 Γ2 f2 R2 z => k3 σ2 H2 Γ2 (f1.trans f2) R2 z, fun σ2 H2 Γ2 f2 R2 z => k4 σ2 H2 Γ2 (f1.trans f2) R2 z⟩
    | false =>
      rw [if_neg Bool.false_ne_true] at hq
      exact ⟨_, hq, R1, fun σ2 H2 Γ2 f2 R2 z => k1 σ2 H2 Γ2 (f1.trans f2) R2 z, fun v σ2 H2 d Γ2 f2 R2 r z => k2 v σ2 H2 d Γ2 (f1.trans f2) R2 r z, fun σ2 H2 Γ2 f2 R2 z => k3 σ2 H2 Γ2 (f1.trans f2) R2 z, fun σ2 H2 Γ2 f2 R2 z => k4 σ2 H2 Γ2 (f1.trans f2) R2 z⟩⟩
/-- x = e -/
theorem xs_set {i : Nat} {x : Str} {pos' : Pos} (hN : X.N.Nodup) (hi : X.N[i]? = some x) (hx : Loc X.env.scope x) (h : XE X μ e Γ fun d Γ1 => P.nx { Γ1 with s := Γ1.s.set i (some d) }) (hs : swapsWith e (some (.Name x pos')) pos.line X.env = pure false := by rfl)
    (hf : X.fn x = true ∨ X.env.scope.names.lookup x = some .local := by first | exact .inl rfl | exact .inr rfl | assumption) : XS X μ (.Assign [.Name x pos'] e pos) Γ P :=
  PS.imp (ps_set (i := i) hN hi hx h hs hf) fun D σ H ⟨R, k, _⟩ => ⟨R, fun v H1 d Γ1 s1 f1 R1 r1 hq => k _ H1 { Γ1 with s := Γ1.s.set i (some d) } f1 (R1.set i r1) hq⟩
end
end Pdl
namespace Pdl
open PySem L2 PyProof.Rows
/-- an exception shows what it keeps -/
def ExRp (K : PySem.W.Frag) (G : Hp) (cls : Value) (dx : Option Addr) (x : Xn) : Prop :=
  x.cls = cls ∧ match dx, x.fs with
    | none, none => True
    | some a, some fs => ∃ vs, G a = some (.xd vs) ∧ RpF K G vs fs
    | _, _ => False
/-- the arguments, the cells, what is wanted of the result and of an exception -/
abbrev SpD := List D → Cs → (D → Cs → Prop) → (Xn → Cs → Prop) → Prop
def spD (K : PySem.W.Frag) (S : SpD) : Sp := fun vs H Q E => ∃ (m : Addr → Bool) (ds : List D) (c : Cs), COk K m H c ∧ RpA K (hid (tot m c) H) vs ds ∧
  S ds c (fun d c' => ∀ v H', Fw c c' H H' → COk K m H' c' → Rp K (hid (tot m c') H') v d → Q v H') (fun x c' => ∀ cls dx H', Fw c c' H H' → COk K m H' c' → ExRp K (hid (tot m c') H') cls dx x → E cls dx H')
def startD (N : List Str) (ds : List D) : List (Option D) := ds.map some ++ List.replicate (N.length - ds.length) none
theorem slots_start {K : PySem.W.Frag} {G : Hp} {N : List Str} {vs : List V} {ds : List D} (r : RpA K G vs ds) : SlotRp K G (L2.start N vs) (startD N ds) := by
  have hl := r.length
  refine ⟨by simp [L2.start, startD, hl], fun i d h => ?_⟩
  unfold startD at h
  have hi : i < ds.length := by
    by_cases hi : i < ds.length
    · exact hi
    · rw [List.getElem?_append_right (by simpa using hi)] at h
      rw [List.getElem?_replicate] at h
      split at h <;> cases h
  rw [List.getElem?_append_left (by simpa using hi), List.getElem?_map] at h
  obtain ⟨d', e, e2⟩ := Option.map_eq_some_iff.mp h
  cases e2
  obtain ⟨v, hv, rv⟩ := r.got e
  refine ⟨v, ?_, rv⟩
  unfold L2.start
  rw [List.getElem?_append_left (by rw [List.length_map, hl]; exact hi), List.getElem?_map, hv]
  all_goals rfl
/-- the mode at a def's entry -/
abbrev mdOf (m : Addr → Bool) (c : Cs) (H : Hp) (E : Xn → Cs → Prop) : Md := { m := m, c0 := c, H0 := H, E := fun x Γ => E x Γ.c }
abbrev poOf (Q : D → Cs → Prop) : Po := { nx := fun Γ => Q .non Γ.c, rt := fun d Γ => Q d Γ.c }
section
variable {P : Program} {w : World} {K : PySem.W.Frag} {mg : Str → Option Value} {base : Heap}
theorem body_D {X : Cx} {S : SpD} {N : List Str} {vs : List V} {H : Hp} {Q : VK} {E : XK} {body : List Stmt} (hK : X.K = K)
    (hb : ∀ m ds c Q E, ds.length = vs.length → S ds c Q E → XB X (mdOf m c H E) body ⟨startD N ds, c⟩ (poOf Q)) (h : spD K S vs H Q E) :
    ∃ t, PSs X body t ∧ t { nx := fun _ H' => Q .non H', rt := Q } (L2.start N vs) H := by
  subst hK
  obtain ⟨m, ds, c, co, r, hs⟩ := h
  refine ⟨_, hb m ds c _ _ r.length.symm hs, ⟨co, slots_start r, Fw.refl _ _⟩, fun σ' H' Γ' f R q => q _ H' f R.co .non, fun v σ' H' d Γ' f R rd q => q v H' f R.co rd, fun _ _ _ _ _ q => q.elim, fun _ _ _ _ _ q => q.elim⟩
/-- the body's context -/
abbrev bX (P : Program) (w : World) (K : PySem.W.Frag) (mg : Str → Option Value) (base : Heap) (N : List Str) (qual : Str) (st : Stmt) (f : Addr) (cdv : Value) (A : Around) (outer : List Env) (s : Shared) (H : Hp) (E : XK) : Cx :=
  (cxOf CX0 P w K mg base N qual (defScope st) f cdv A outer s H E).nox
/-- THE RULE for a def that lets no exception out -/
theorem fn_D {x qual : Str} {st : Stmt} {f : Addr} {fd : FuncData} {N ps : List Str} {k : Nat} {S : SpD} (F : Fun K x qual st f fd) (sc : FnScope N ps (defScope st)) (len : ∀ ds c Q E, S ds c Q E → ds.length = ps.length)
    (hbody : ∀ (cdv : Value) (A : Around) (outer : List Env) (s : Shared) (H : Hp) (E0 : XK), Room k (bX P w K mg base N qual st f cdv A outer s H E0).A →
      ∀ m ds c Q E, S ds c Q E → XB (bX P w K mg base N qual st f cdv A outer s H E0) (mdOf m c H E) (defBody st) ⟨startD N ds, c⟩ (poOf Q)) : FnOk P w K mg base CX0 (k + 1) f fd ps (spD K S) := by
  refine F.ok sc (fun vs H Q E h => ?_) (fun cdv A outer s H vs Q E hr h => ?_)
  · obtain ⟨m, ds, c, _, r, hs⟩ := h
    rw [r.length]
    exact len _ _ _ _ hs
  · exact body_D (X := bX P w K mg base N qual st f cdv A outer s H E) rfl (fun m ds c Q' E' _ hs => hbody cdv A outer s H E hr m ds c Q' E' hs) h
end
theorem inC_app {c d : Cs} {a : Addr} : inC (c ++ d) a = (inC c a || inC d a) := by simp [inC, List.any_append]
theorem tot_app (m : Addr → Bool) (c d : Cs) : tot (tot m d) c = tot m (c ++ d) := by
  funext a
  simp only [tot, inC_app]
  cases m a <;> cases inC c a <;> cases inC d a <;> rfl
/-- the callee's part -/
theorem COk.part {K : PySem.W.Frag} {m : Addr → Bool} {H : Hp} {c1 c2 : Cs} (R : COk K m H (c1 ++ c2)) : COk K (tot m c2) H c1 := by
  have nd := R.nd
  rw [List.map_append, List.nodup_append] at nd
  refine ⟨fun a h => R.domT a ?_, nd.1, fun p hp => ?_, fun p hp => ?_⟩
  · unfold tot at h ⊢
    rw [inC_app]
    cases e : m a
    · rw [e] at h
      simp only [Bool.false_or] at h
      simp [h]
    · rfl
  · refine tot_false.mpr ⟨R.off p (List.mem_append_left _ hp), ?_⟩
    cases e : inC c2 p.1 with
    | false => rfl
    | true =>
      obtain ⟨q, hq, eq⟩ := of_inC e
      exact absurd eq.symm (nd.2.2 p.1 (List.mem_map_of_mem hp) q.1 (List.mem_map_of_mem hq))
  · rw [tot_app]
    exact R.cells p (List.mem_append_left _ hp)
/-- .. and put back -/
theorem COk.back {K : PySem.W.Frag} {m : Addr → Bool} {H H' : Hp} {c1 c2 c' : Cs} (R : COk K m H (c1 ++ c2)) (f : Fw c1 c' H H') (co : COk K (tot m c2) H' c') : COk K m H' (c' ++ c2) ∧ Fw (c1 ++ c2) (c' ++ c2) H H' := by
  have nd := R.nd
  rw [List.map_append, List.nodup_append] at nd
  have off2 : ∀ p ∈ c2, inC c1 p.1 = false := fun p hp => by
    cases e : inC c1 p.1 with
    | false => rfl
    | true =>
      obtain ⟨q, hq, eq⟩ := of_inC e
      exact absurd eq (nd.2.2 q.1 (List.mem_map_of_mem hq) p.1 (List.mem_map_of_mem hp))
  have sb : Sub (hid (tot m (c1 ++ c2)) H) (hid (tot m (c' ++ c2)) H') := by
    rw [← tot_app, ← tot_app]
    exact f.sub
  refine ⟨⟨fun a h => co.dom a (by unfold tot; rw [h]; rfl), ?_, fun p hp => ?_, fun p hp => ?_⟩, fun a o h e => ?_⟩
  · rw [List.map_append, List.nodup_append]
    refine ⟨co.nd, nd.2.1, fun a ha b hb e => ?_⟩
    obtain ⟨p, hp, rfl⟩ := List.mem_map.mp ha
    obtain ⟨q, hq, rfl⟩ := List.mem_map.mp hb
    have z := (tot_false.mp (co.off p hp)).2
    rw [e, inC_of hq] at z
    cases z
  · rcases List.mem_append.mp hp with hp | hp
    · exact (tot_false.mp (co.off p hp)).1
    · exact R.off p (List.mem_append_right _ hp)
  · rcases List.mem_append.mp hp with hp | hp
    · rw [← tot_app]
      exact co.cells p hp
    · have h := R.cells p (List.mem_append_right _ hp)
      obtain ⟨u, hu⟩ := h.some
      have e' : H' p.1 = H p.1 := by rw [hu]; exact (f _ _ (off2 p hp) hu).1
      rw [e']
      exact h.mono sb
  · rw [inC_app, Bool.or_eq_false_iff] at h
    obtain ⟨h1, h2⟩ := f a o h.1 e
    exact ⟨h1, by rw [inC_app, h2, h.2]; rfl⟩
section
variable {X : Cx} {μ : Md} {Γ : En} {S : SpD} {Q : QE}
/-- what a caller shows for a callee's promise: the callee's cells stand in front -/
def Asks (μ : Md) (S : SpD) (Q : QE) (ds : List D) (Γ : En) : Prop := ∃ c1 c2, Γ.c = c1 ++ c2 ∧ ∀ (Qc : D → Cs → Prop) (Ec : Xn → Cs → Prop), (∀ d c', Q d ⟨Γ.s, c' ++ c2⟩ → Qc d c') → (∀ x c', μ.E x ⟨Γ.s, c' ++ c2⟩ → Ec x c') → S ds c1 Qc Ec
/-- the exceptions that the mode wants -/
def wD (K : PySem.W.Frag) (μ : Md) (σ : L2.St) : XK := fun cls dx H => ∃ x Γ, Rel K μ H σ Γ ∧ ExRp K (Vw μ Γ H) cls dx x ∧ μ.E x Γ
theorem asks_sp {vs : List V} {ds : List D} {H : Hp} {σ : L2.St} {q : VK} (R : Rel X.K μ H σ Γ) (r : RpA X.K (Vw μ Γ H) vs ds) (hs : Asks μ S Q ds Γ)
    (k : ∀ v H' d Γ', Γ'.s = Γ.s → Fw Γ.c Γ'.c H H' → Rel X.K μ H' σ Γ' → Rp X.K (Vw μ Γ' H') v d → Q d Γ' → q v H') : spD X.K S vs H q (wD X.K μ σ) := by
  obtain ⟨c1, c2, ec, hs⟩ := hs
  obtain ⟨sl, c⟩ := Γ
  have ec : c = c1 ++ c2 := ec
  subst ec
  have back : ∀ {c' : Cs} {H' : Hp}, Fw c1 c' H H' → COk X.K (tot μ.m c2) H' c' → Fw (c1 ++ c2) (c' ++ c2) H H' ∧ Rel X.K μ H' σ ⟨sl, c' ++ c2⟩ := fun {c' H'} f co => by
    obtain ⟨h1, h2⟩ := R.co.back f co
    exact ⟨h2, h1, R.slots.mono h2.sub, R.fw.trans h2⟩
  refine ⟨tot μ.m c2, ds, c1, R.co.part, by rw [tot_app]; exact r, hs _ _ (fun d c' hq v H' f co rv => ?_) (fun x c' hx cls dx H' f co rx => ?_)⟩
  · obtain ⟨f2, R2⟩ := back f co
    exact k v H' d ⟨sl, c' ++ c2⟩ rfl f2 R2 (by rw [tot_app] at rv; exact rv) hq
  · obtain ⟨f2, R2⟩ := back f co
    exact ⟨x, ⟨sl, c' ++ c2⟩, R2, (by rw [tot_app] at rx; exact rx), hx⟩
end
section
variable {X : Cx} {μ : Md} {Γ : En} {S : SpD} {Q : QE} {k : Nat} {f C : Addr} {fd : FuncData} {ps : List Str} {x : Str} {p pos apos : Pos} {e o : Expr} {es : List Expr}
/-- a def that lets no exception out: what is wanted of one does not matter -/
theorem pass0' {E : XK} : Passes CX0 X E := fun _ _ _ _ _ _ _ h => h.elim
end
end Pdl
namespace Pdl
open PySem L2 PyProof.Rows
def S (l : List Nat) : Str := ⟨l.toArray⟩
theorem S_cps (l : List Nat) : (S l).cps.toList = l := rfl
theorem S_len (l : List Nat) : (S l).length = l.length := by
  show l.toArray.size = l.length
  simp
theorem S_inj {a b : List Nat} (h : S a = S b) : a = b := by
  have := congrArg (fun x : Str => x.cps.toList) h
  exact this
theorem S_eq {a b : List Nat} : S a = S b ↔ a = b := ⟨S_inj, fun h => by rw [h]⟩
theorem S_app (a b : List Nat) : S a ++ S b = S (a ++ b) := by
  show (⟨a.toArray ++ b.toArray⟩ : Str) = ⟨(a ++ b).toArray⟩
  simp
section
variable {X : Cx} {μ : Md} {Γ : En} {Q : QE} {a b c e : Expr} {es : List Expr} {pos apos cpos : Pos} {x y d : D} {m : Addr → Bool} {H : Hp}
theorem OpD.of {f : Value → Value → Sem Value} {r : R2} (h : OpR X f r) (i : ∀ a b H q m, (∀ a, m a = true → ∃ o, H a = some o ∧ nT o = true) → Rp X.K (hid m H) a x → Rp X.K (hid m H) b y → (∀ v H', Sub H H' → Rp X.K (hid m H') v d → q v H') → r a b H q) : OpD X f x y d :=
  fun pins s σ H a b v u Q I ra rb ⟨m, hm, h1, h2, k⟩ => h pins s σ H a b v u Q I ra rb (i a b H Q m hm h1 h2 k)
theorem fresh_m {p : Addr} (hm : ∀ a, m a = true → ∃ o, H a = some o ∧ nT o = true) (h : H p = none) : m p = false := by
  cases e : m p with
  | false => rfl
  | true =>
    obtain ⟨o, q, _⟩ := hm p e
    rw [h] at q
    cases q
theorem sub_hid {H' : Hp} (e : Sub H H') : Sub (hid m H) (hid m H') := hid_mono fun a o h q => ⟨h, e a o q⟩
theorem od_add {i j : Int} : OpD X (binaryOp .Add) (.int i) (.int j) (.int (i + j)) := .of op_add fun a b H q m _ h1 h2 k => by
  cases h1; cases h2; exact ⟨i, j, rfl, rfl, k _ H (Sub.refl H) (.int _)⟩
theorem od_sub {i j : Int} : OpD X (binaryOp .Sub) (.int i) (.int j) (.int (i - j)) := .of op_sub fun a b H q m _ h1 h2 k => by
  cases h1; cases h2; exact ⟨i, j, rfl, rfl, k _ H (Sub.refl H) (.int _)⟩
theorem od_mul {i j : Int} (hc : CMul i j) : OpD X (binaryOp .Mult) (.int i) (.int j) (.int (i * j)) := .of op_mul fun a b H q m _ h1 h2 k => by
  cases h1; cases h2; exact ⟨i, j, rfl, rfl, hc, k _ H (Sub.refl H) (.int _)⟩
theorem od_fdiv {i j : Int} (hc : CDiv i j) : OpD X (binaryOp .FloorDiv) (.int i) (.int j) (.int (i / j)) := .of op_fdiv fun a b H q m _ h1 h2 k => by
  cases h1; cases h2; exact ⟨i, j, rfl, rfl, hc, k _ H (Sub.refl H) (.int _)⟩
theorem od_mod {i j : Int} (hc : 0 < j) : OpD X (binaryOp .Mod) (.int i) (.int j) (.int (i % j)) := .of op_mod fun a b H q m _ h1 h2 k => by
  cases h1; cases h2; exact ⟨i, j, rfl, rfl, hc, k _ H (Sub.refl H) (.int _)⟩
theorem od_pow {i j : Int} (hc : CPow i j) : OpD X (binaryOp .Pow) (.int i) (.int j) (.int (i ^ j.toNat)) := .of op_pow fun a b H q m _ h1 h2 k => by
  cases h1; cases h2; exact ⟨i, j, rfl, rfl, hc, k _ H (Sub.refl H) (.int _)⟩
theorem od_lt {i j : Int} : OpD X (compareOp .Lt) (.int i) (.int j) (.bl (decide (i < j))) := .of op_lt fun a b H q m _ h1 h2 k => by
  cases h1; cases h2; exact ⟨i, j, rfl, rfl, k _ H (Sub.refl H) (.bl _)⟩
theorem od_le {i j : Int} : OpD X (compareOp .LtE) (.int i) (.int j) (.bl (decide (i ≤ j))) := .of op_le fun a b H q m _ h1 h2 k => by
  cases h1; cases h2; exact ⟨i, j, rfl, rfl, k _ H (Sub.refl H) (.bl _)⟩
theorem od_gt {i j : Int} : OpD X (compareOp .Gt) (.int i) (.int j) (.bl (decide (j < i))) := .of op_gt fun a b H q m _ h1 h2 k => by
  cases h1; cases h2; exact ⟨i, j, rfl, rfl, k _ H (Sub.refl H) (.bl _)⟩
theorem od_ge {i j : Int} : OpD X (compareOp .GtE) (.int i) (.int j) (.bl (decide (j ≤ i))) := .of op_ge fun a b H q m _ h1 h2 k => by
  cases h1; cases h2; exact ⟨i, j, rfl, rfl, k _ H (Sub.refl H) (.bl _)⟩
theorem od_eqI {i j : Int} : OpD X (compareOp .Eq) (.int i) (.int j) (.bl (decide (i = j))) := .of op_eq fun a b H q m _ h1 h2 k => by
  cases h1; cases h2; exact ⟨rfl, by rw [show decide (V.int i = V.int j) = decide (i = j) by simp]; exact k _ H (Sub.refl H) (.bl _)⟩
theorem od_neI {i j : Int} : OpD X (compareOp .NotEq) (.int i) (.int j) (.bl (!decide (i = j))) := .of op_ne fun a b H q m _ h1 h2 k => by
  cases h1; cases h2; exact ⟨rfl, by rw [show decide (V.int i = V.int j) = decide (i = j) by simp]; exact k _ H (Sub.refl H) (.bl _)⟩
theorem od_eqB {i j : Bool} : OpD X (compareOp .Eq) (.bl i) (.bl j) (.bl (decide (i = j))) := .of op_eq fun a b H q m _ h1 h2 k => by
  cases h1; cases h2; exact ⟨rfl, by rw [show decide (V.bl i = V.bl j) = decide (i = j) by simp]; exact k _ H (Sub.refl H) (.bl _)⟩
theorem od_neB {i j : Bool} : OpD X (compareOp .NotEq) (.bl i) (.bl j) (.bl (!decide (i = j))) := .of op_ne fun a b H q m _ h1 h2 k => by
  cases h1; cases h2; exact ⟨rfl, by rw [show decide (V.bl i = V.bl j) = decide (i = j) by simp]; exact k _ H (Sub.refl H) (.bl _)⟩
theorem od_eqS {i j : List Nat} : OpD X (compareOp .Eq) (.str (S i)) (.str (S j)) (.bl (decide (i = j))) := .of op_eq fun a b H q m _ h1 h2 k => by
  cases h1; cases h2; exact ⟨rfl, by rw [show decide (V.str (S i) = V.str (S j)) = decide (i = j) by simp [S_eq]]; exact k _ H (Sub.refl H) (.bl _)⟩
theorem od_neS {i j : List Nat} : OpD X (compareOp .NotEq) (.str (S i)) (.str (S j)) (.bl (!decide (i = j))) := .of op_ne fun a b H q m _ h1 h2 k => by
  cases h1; cases h2; exact ⟨rfl, by rw [show decide (V.str (S i) = V.str (S j)) = decide (i = j) by simp [S_eq]]; exact k _ H (Sub.refl H) (.bl _)⟩
theorem od_ltS {i j : List Nat} : OpD X (compareOp .Lt) (.str (S i)) (.str (S j)) (.bl (decide (i < j))) := .of op_lt_str fun a b H q m _ h1 h2 k => by
  cases h1; cases h2; exact ⟨_, _, rfl, rfl, k _ H (Sub.refl H) (.bl _)⟩
theorem od_leS {i j : List Nat} : OpD X (compareOp .LtE) (.str (S i)) (.str (S j)) (.bl (!decide (j < i))) := .of op_le_str fun a b H q m _ h1 h2 k => by
  cases h1; cases h2; exact ⟨_, _, rfl, rfl, k _ H (Sub.refl H) (.bl _)⟩
theorem od_gtS {i j : List Nat} : OpD X (compareOp .Gt) (.str (S i)) (.str (S j)) (.bl (decide (j < i))) := .of op_gt_str fun a b H q m _ h1 h2 k => by
  cases h1; cases h2; exact ⟨_, _, rfl, rfl, k _ H (Sub.refl H) (.bl _)⟩
/-- one sign in a text -/
theorem od_inS {c : Nat} {j : List Nat} : OpD X (compareOp .In) (.str (S [c])) (.str (S j)) (.bl (decide (c ∈ j))) := .of op_in_sign fun a b H q m _ h1 h2 k => by
  cases h1; cases h2; exact ⟨c, _, rfl, rfl, k _ H (Sub.refl H) (.bl _)⟩
theorem od_notinS {c : Nat} {j : List Nat} : OpD X (compareOp .NotIn) (.str (S [c])) (.str (S j)) (.bl (!decide (c ∈ j))) := .of op_notIn_sign fun a b H q m _ h1 h2 k => by
  cases h1; cases h2; exact ⟨c, _, rfl, rfl, k _ H (Sub.refl H) (.bl _)⟩
theorem od_addS {i j : List Nat} (hz : i.length + j.length ≤ 100000) : OpD X (binaryOp .Add) (.str (S i)) (.str (S j)) (.str (S (i ++ j))) := .of op_add_str fun a b H q m _ h1 h2 k => by
  cases h1; cases h2; exact ⟨_, _, rfl, rfl, by rw [S_len, S_len]; exact Nat.le_trans hz (by decide), by rw [S_app]; exact k _ H (Sub.refl H) (.str _)⟩
def isNon : D → Bool
  | .non => true
  | _ => false
theorem Rp.non_iff {K : PySem.W.Frag} {G : Hp} {v : V} {x : D} (r : Rp K G v x) : decide (v = .non) = isNon x := by
  cases r <;> simp [isNon]
theorem od_isN : OpD X (compareOp .Is) x .non (.bl (isNon x)) := .of op_isN fun a b H q m _ h1 h2 k => by
  cases h2; exact ⟨rfl, by rw [h1.non_iff]; exact k _ H (Sub.refl H) (.bl _)⟩
theorem od_notN : OpD X (compareOp .IsNot) x .non (.bl (!isNon x)) := .of op_notN fun a b H q m _ h1 h2 k => by
  cases h2; exact ⟨rfl, by rw [h1.non_iff]; exact k _ H (Sub.refl H) (.bl _)⟩
mutual
def toPy : D → PyData
  | .bl b => .bool b
  | .int i => .int i
  | .str x => .str x
  | .lst xs => .list (toPyL xs)
  | .tup xs => .tuple (toPyL xs)
  | .tupx xs => .tuple (toPyL xs)
  | _ => .none
def toPyL : List D → List PyData
  | [] => []
  | x :: xs => toPy x :: toPyL xs
end
mutual
def isPy : D → Bool
  | .non => true
  | .bl b => true
  | .int i => true
  | .str x => true
  | .lst xs => isPyL xs
  | .tup xs => isPyL xs
  | .tupx xs => isPyL xs
  | _ => false
def isPyL : List D → Bool
  | [] => true
  | x :: xs => isPy x && isPyL xs
end
mutual
theorem Rp.dp {K : PySem.W.Frag} {G : Hp} : ∀ {v : V} {d : D}, Rp K G v d → isPy d = true → Dp K G v (toPy d)
  | _, _, .non, _ => .non
  | _, _, .bl b, _ => .bl b
  | _, _, .int b, _ => .int b
  | _, _, .str b, _ => .str b
  | _, _, .lst h r, e => .lst h (RpA.dp r (by rw [isPy] at e; exact e))
  | _, _, .tup h r, e => .tup h.sq (RpA.dp r (by rw [isPy] at e; exact e))
  | _, _, .tupx h r, e => .tup h (RpA.dp r (by rw [isPy] at e; exact e))
  | _, _, .ty _, e => by simp [isPy] at e
  | _, _, .ref _, e => by simp [isPy] at e
  | _, _, .dct _ _, e => by simp [isPy] at e
  | _, _, .ins _ _, e => by simp [isPy] at e
  | _, _, .set _, e => by simp [isPy] at e
  | _, _, .dcT _ _, e => by simp [isPy] at e
  | _, _, .dcL _ _, e => by simp [isPy] at e
  | _, _, .dctL _ _, e => by simp [isPy] at e
theorem RpA.dp {K : PySem.W.Frag} {G : Hp} : ∀ {v : List V} {d : List D}, RpA K G v d → isPyL d = true → DpAll K G v (toPyL d)
  | _, _, .nil, _ => .nil
  | _, _, .cons h r, e => .cons (Rp.dp h (Bool.and_eq_true_iff.mp e).1) (RpA.dp r (Bool.and_eq_true_iff.mp e).2)
end
/-- == and != of data without instances -/
theorem od_eqD (hu : X.A.units + 64 < cLine) (hx : isPy x = true) (hy : isPy y = true) (sx : SeqAt.shaped (toPy x) = true) (sy : SeqAt.shaped (toPy y) = true) : OpD X (compareOp .Eq) x y (.bl (PyData.eqv (toPy x) (toPy y))) :=
  .of (op_eqD hu) fun a b H q m hm h1 h2 k => ⟨_, _, (h1.mono (hid_sub m H)).dp hx, (h2.mono (hid_sub m H)).dp hy, sx, sy, k _ H (Sub.refl H) (.bl _)⟩
theorem od_neD (hu : X.A.units + 64 < cLine) (hx : isPy x = true) (hy : isPy y = true) (sx : SeqAt.shaped (toPy x) = true) (sy : SeqAt.shaped (toPy y) = true) : OpD X (compareOp .NotEq) x y (.bl (!PyData.eqv (toPy x) (toPy y))) :=
  .of (op_neD hu) fun a b H q m hm h1 h2 k => ⟨_, _, (h1.mono (hid_sub m H)).dp hx, (h2.mono (hid_sub m H)).dp hy, sx, sy, k _ H (Sub.refl H) (.bl _)⟩
def IxD (X : Cx) (x y d : D) : Prop := IxR X (rP X.K x y d)
def uIx (X : Cx) : R2 := fun a b H q => ∃ r, IxR X r ∧ r a b H q
theorem ix_u : IxR X (uIx X) := fun value slice pins s σ H x y v u Q I rx ry ⟨_, h, q⟩ hs => h value slice pins s σ H x y v u Q I rx ry q hs
theorem xe_ix (h : XE X μ a Γ fun x Γ1 => XE X μ b Γ1 fun y Γ2 => ∃ d, IxD X x y d ∧ Q d Γ2) (hs : PlainIx b := by exact fun _ _ => rfl) : XE X μ (.Subscript a b pos) Γ Q :=
  PE.imp (pe_ix ix_u h pe_u hs) fun σ H q ⟨R, k⟩ => by
    refine ⟨R, fun v H1 x Γ1 s1 f1 R1 r1 hb => ⟨_, hb, R1, fun w H2 y Γ2 s2 f2 R2 r2 ⟨d, ho, hq⟩ => ⟨_, ho, tot μ.m Γ2.c, R2.domT, r1.mono f2.sub, r2, fun z H3 e3 r3 => ?_⟩⟩⟩
    exact k z H3 d Γ2 (s2.trans s1) ((f1.trans f2).trans (Fw.of_sub e3)) (R2.more e3) r3 hq
theorem atI_rp {K : PySem.W.Frag} {G : Hp} {vs : List V} {ds : List D} {i : Int} {d : D} (r : RpA K G vs ds) (h : atI ds i = some d) : ∃ v, atI vs i = some v ∧ Rp K G v d := by
  unfold atI at h ⊢
  rw [r.length]
  cases e : ixN ds.length i with
  | none => rw [e] at h; cases h
  | some j =>
    rw [e] at h
    obtain ⟨v, h1, h2⟩ := r.got (show ds[j]? = some d from h)
    exact ⟨v, h1, h2⟩
theorem ixd_lst {xs : List D} {i : Int} (h : atI xs i = some d) : IxD X (.lst xs) (.int i) d := fun value slice pins s σ H x y v u Q I rx ry ⟨m, hm, h1, h2, k⟩ hs => by
  cases h1 with
  | lst s1 r1 =>
    cases h2
    obtain ⟨z, hz, rz⟩ := atI_rp r1 h
    exact ix_list value slice pins s σ H _ _ v u Q I rx ry ⟨_, _, _, z, rfl, rfl, (hid_sub m H).sqL s1, hz, k z H (Sub.refl H) rz⟩ hs
theorem ixd_tup {xs : List D} {i : Int} (h : atI xs i = some d) : IxD X (.tup xs) (.int i) d := fun value slice pins s σ H x y v u Q I rx ry ⟨m, hm, h1, h2, k⟩ hs => by
  cases h1 with
  | tup s1 r1 =>
    cases h2
    obtain ⟨z, hz, rz⟩ := atI_rp r1 h
    exact ix_tup value slice pins s σ H _ _ v u Q I rx ry ⟨_, _, _, z, rfl, rfl, (hid_sub m H).sqT s1.sq, hz, k z H (Sub.refl H) rz⟩ hs
theorem ixd_str {l : List Nat} {i : Int} {c : Nat} (hl : l.length ≤ 100000) (h : atI l i = some c) : IxD X (.str (S l)) (.int i) (.str (S [c])) := fun value slice pins s σ H x y v u Q I rx ry ⟨m, hm, h1, h2, k⟩ hs => by
  cases h1; cases h2
  exact ix_str value slice pins s σ H _ _ v u Q I rx ry ⟨_, _, c, rfl, rfl, by rw [S_len]; exact Nat.le_trans hl (by decide), h, k _ H (Sub.refl H) (.str _)⟩ hs
def rCD (K : PySem.W.Frag) (ds : List D) (d : D) : List V → Hp → VK → Prop := fun vs H q => ∃ m : Addr → Bool, (∀ a, m a = true → ∃ o, H a = some o ∧ nT o = true) ∧ RpA K (hid m H) vs ds ∧ ∀ v H', Sub H H' → Rp K (hid m H') v d → q v H'
def CallD (X : Cx) (f : Value) (ds : List D) (d : D) : Prop := CallR X f (rCD X.K ds d)
def uC (X : Cx) (f : Value) : List V → Hp → VK → Prop := fun vs H q => ∃ r, CallR X f r ∧ r vs H q
theorem cr_u (f : Value) : CallR X f (uC X f) := fun pins s σ H xs us Q I rv ⟨_, h, q⟩ => h pins s σ H xs us Q I rv q
theorem CallD.of {f : Value} {ds : List D} {r : List V → Hp → VK → Prop} (h : CallR X f r) (i : ∀ vs H q m, (∀ a, m a = true → ∃ o, H a = some o ∧ nT o = true) → RpA X.K (hid m H) vs ds → (∀ v H', Sub H H' → Rp X.K (hid m H') v d → q v H') → r vs H q) : CallD X f ds d :=
  fun pins s σ H vs us Q I rv ⟨m, hm, h1, k⟩ => h pins s σ H vs us Q I rv (i vs H Q m hm h1 k)
theorem xe_callB {x : Str} {id : String} {p : Pos} (hg : Gl X x) (hm : X.mg x = none) (hv : bootBuiltins x = some (.builtin id)) (h : XA X μ (e :: es) Γ fun ds Γ1 => ∃ d, CallD X (.builtin id) ds d ∧ Q d Γ1) (hn : x ≠ "__name__" := by decide) (hdb : (x == ("__debug__" : Str)) = false := by decide)
    (he : starEach (e :: es) X.env = (false, eval e X.env) :: starEach es X.env := by rfl) (hpl : (backTo pos (starEach es X.env)).any (·.1) = false := by rfl) : XE X μ (.Call (.Name x p) (e :: es) [] pos) Γ Q :=
  PE.imp (pe_callB (cr_u _) hg hm hv h hn hdb he hpl) fun σ H q ⟨R, k⟩ => ⟨R, fun vs H1 ds Γ1 s1 f1 R1 r1 ⟨d, ho, hq⟩ => ⟨_, ho, tot μ.m Γ1.c, R1.domT, r1, fun z H3 e3 r3 => k z H3 d Γ1 s1 (f1.trans (Fw.of_sub e3)) (R1.more e3) r3 hq⟩⟩
theorem xe_callTy {x : Str} {T : String} {p : Pos} (hg : Gl X x) (hm : X.mg x = none) (hv : bootBuiltins x = some (.type T)) (h : XA X μ (e :: es) Γ fun ds Γ1 => ∃ d, CallD X (.type T) ds d ∧ Q d Γ1) (hn : x ≠ "__name__" := by decide) (hdb : (x == ("__debug__" : Str)) = false := by decide)
    (he : starEach (e :: es) X.env = (false, eval e X.env) :: starEach es X.env := by rfl) (hpl : (backTo pos (starEach es X.env)).any (·.1) = false := by rfl) : XE X μ (.Call (.Name x p) (e :: es) [] pos) Γ Q :=
  PE.imp (pe_callTy (cr_u _) hg hm hv h hn hdb he hpl) fun σ H q ⟨R, k⟩ => ⟨R, fun vs H1 ds Γ1 s1 f1 R1 r1 ⟨d, ho, hq⟩ => ⟨_, ho, tot μ.m Γ1.c, R1.domT, r1, fun z H3 e3 r3 => k z H3 d Γ1 s1 (f1.trans (Fw.of_sub e3)) (R1.more e3) r3 hq⟩⟩
/-- one argument -/
theorem RpA.one {K : PySem.W.Frag} {G : Hp} {vs : List V} {d : D} (r : RpA K G vs [d]) : ∃ v, vs = [v] ∧ Rp K G v d := by
  cases r with
  | cons h t =>
    cases t
    exact ⟨_, rfl, h⟩
theorem RpA.two {K : PySem.W.Frag} {G : Hp} {vs : List V} {d e : D} (r : RpA K G vs [d, e]) : ∃ v u, vs = [v, u] ∧ Rp K G v d ∧ Rp K G u e := by
  cases r with
  | cons h t =>
    obtain ⟨u, rfl, h2⟩ := t.one
    exact ⟨_, _, rfl, h, h2⟩
theorem cd_len_str {l : List Nat} (hl : l.length ≤ 100000) : CallD X (.builtin "len") [.str (S l)] (.int l.length) := .of call_len_str fun vs H q m hm h1 k => by
  obtain ⟨v, rfl, r⟩ := h1.one
  cases r
  exact ⟨_, rfl, by rw [S_len]; exact Nat.le_trans hl (by decide), by rw [S_len]; exact k _ H (Sub.refl H) (.int _)⟩
theorem cd_len_lst {xs : List D} : CallD X (.builtin "len") [.lst xs] (.int xs.length) := .of call_len_seq fun vs H q m hm h1 k => by
  obtain ⟨v, rfl, r⟩ := h1.one
  cases r with
  | lst s1 r1 => exact ⟨_, _, rfl, .inl ((hid_sub m H).sqL s1), by rw [r1.length]; exact k _ H (Sub.refl H) (.int _)⟩
theorem cd_len_tup {xs : List D} : CallD X (.builtin "len") [.tup xs] (.int xs.length) := .of call_len_seq fun vs H q m hm h1 k => by
  obtain ⟨v, rfl, r⟩ := h1.one
  cases r with
  | tup s1 r1 => exact ⟨_, _, rfl, .inr ((hid_sub m H).sqT s1.sq), by rw [r1.length]; exact k _ H (Sub.refl H) (.int _)⟩
theorem cd_abs {i : Int} : CallD X (.builtin "abs") [.int i] (.int (if i < 0 then -i else i)) := .of call_abs fun vs H q m hm h1 k => by
  obtain ⟨v, rfl, r⟩ := h1.one
  cases r
  exact ⟨_, rfl, k _ H (Sub.refl H) (.int _)⟩
theorem cd_int {i : Int} : CallD X (.type "int") [.int i] (.int i) := .of call_int1 fun vs H q m hm h1 k => by
  obtain ⟨v, rfl, r⟩ := h1.one
  cases r
  exact .inl ⟨_, rfl, k _ H (Sub.refl H) (.int _)⟩
theorem cd_intB {i : Bool} : CallD X (.type "int") [.bl i] (.int (if i then 1 else 0)) := .of call_int1 fun vs H q m hm h1 k => by
  obtain ⟨v, rfl, r⟩ := h1.one
  cases r
  exact .inr ⟨_, rfl, k _ H (Sub.refl H) (.int _)⟩
theorem cd_max2 (hc : X.calm = true) {i j : Int} : CallD X (.builtin "max") [.int i, .int j] (.int (if j > i then j else i)) := .of (call_max2 hc) fun vs H q m hm h1 k => by
  obtain ⟨v, u, rfl, r, r'⟩ := h1.two
  cases r; cases r'
  exact ⟨_, _, rfl, k _ H (Sub.refl H) (.int _)⟩
theorem cd_min2 (hc : X.calm = true) {i j : Int} : CallD X (.builtin "min") [.int i, .int j] (.int (if j < i then j else i)) := .of (call_min2 hc) fun vs H q m hm h1 k => by
  obtain ⟨v, u, rfl, r, r'⟩ := h1.two
  cases r; cases r'
  exact ⟨_, _, rfl, k _ H (Sub.refl H) (.int _)⟩
/-- list(x), tuple(x) -/
theorem cd_list_lst {xs : List D} : CallD X (.type "list") [.lst xs] (.lst xs) := .of call_list_of fun vs H q m hm h1 k => by
  obtain ⟨v, rfl, r⟩ := h1.one
  cases r with
  | lst s1 r1 => exact ⟨_, _, rfl, .inl ((hid_sub m H).sqL s1), fun l hl => k _ _ (sub_upd hl) (.lst (.of (hid_upd (fresh_m hm hl))) (r1.mono (sub_hid (sub_upd hl))))⟩
theorem cd_list_tup {xs : List D} : CallD X (.type "list") [.tup xs] (.lst xs) := .of call_list_of fun vs H q m hm h1 k => by
  obtain ⟨v, rfl, r⟩ := h1.one
  cases r with
  | tup s1 r1 => exact ⟨_, _, rfl, .inr ((hid_sub m H).sqT s1.sq), fun l hl => k _ _ (sub_upd hl) (.lst (.of (hid_upd (fresh_m hm hl))) (r1.mono (sub_hid (sub_upd hl))))⟩
theorem cd_tuple_lst {xs : List D} : CallD X (.type "tuple") [.lst xs] (.tup xs) := .of call_tuple_of fun vs H q m hm h1 k => by
  obtain ⟨v, rfl, r⟩ := h1.one
  cases r with
  | lst s1 r1 => exact ⟨_, _, rfl, .inl ⟨(hid_sub m H).sqL s1, fun l hl => k _ _ (sub_upd hl) (.tup (.of (hid_upd (fresh_m hm hl))) (r1.mono (sub_hid (sub_upd hl))))⟩⟩
theorem cd_tuple_tup {xs : List D} : CallD X (.type "tuple") [.tup xs] (.tup xs) := .of call_tuple_of fun vs H q m hm h1 k => by
  obtain ⟨v, rfl, r⟩ := h1.one
  cases r with
  | tup s1 r1 => exact ⟨_, _, rfl, .inr ⟨(hid_sub m H).sqT s1.sq, k _ H (Sub.refl H) (.tup s1 r1)⟩⟩
theorem RpA.of_bls {K : PySem.W.Frag} {G : Hp} : ∀ {zs : List Bool} {vs : List V}, RpA K G vs (zs.map D.bl) → vs = zs.map V.bl
  | [], _, .nil => rfl
  | _ :: _, _, .cons h t => by
    cases h
    rw [RpA.of_bls t]
    all_goals rfl
theorem cd_any (hc : X.calm = true) {bs : List Bool} : CallD X (.builtin "any") [.lst (bs.map D.bl)] (.bl (bs.any id)) := .of (cr_any hc) fun vs H q m hm h1 k => by
  obtain ⟨v, rfl, r⟩ := h1.one
  cases r with
  | lst s1 r1 =>
    rw [r1.of_bls] at s1
    exact ⟨_, _, rfl, (hid_sub m H).sqL s1, k _ H (Sub.refl H) (.bl _)⟩
theorem cd_all (hc : X.calm = true) {bs : List Bool} : CallD X (.builtin "all") [.lst (bs.map D.bl)] (.bl (bs.all id)) := .of (cr_all hc) fun vs H q m hm h1 k => by
  obtain ⟨v, rfl, r⟩ := h1.one
  cases r with
  | lst s1 r1 =>
    rw [r1.of_bls] at s1
    exact ⟨_, _, rfl, (hid_sub m H).sqL s1, k _ H (Sub.refl H) (.bl _)⟩
theorem cd_sum (hc : X.calm = true) {bs : List Int} : CallD X (.builtin "sum") [.lst (bs.map D.int)] (.int bs.sum) := .of (cr_sum hc) fun vs H q m hm h1 k => by
  obtain ⟨v, rfl, r⟩ := h1.one
  cases r with
  | lst s1 r1 =>
    rw [r1.of_ints] at s1
    exact ⟨_, _, rfl, (hid_sub m H).sqL s1, k _ H (Sub.refl H) (.int _)⟩
end
end Pdl
namespace Pdl
open PySem L2 PyProof.Rows
section
variable {X : Cx} {μ : Md} {Γ : En} {Q : QE} {a b c e o : Expr} {es : List Expr} {pos apos cpos : Pos} {x y d : D} {m : Addr → Bool} {H : Hp} {P : Po}
def rMD (K : PySem.W.Frag) (x : D) (ds : List D) (d : D) : V → List V → Hp → VK → Prop := fun v vs H q => ∃ m : Addr → Bool, (∀ a, m a = true → ∃ o, H a = some o ∧ nT o = true) ∧ Rp K (hid m H) v x ∧ RpA K (hid m H) vs ds ∧ ∀ v H', Sub H H' → Rp K (hid m H') v d → q v H'
def MtD (X : Cx) (id : String) (x : D) (ds : List D) (d : D) : Prop := MtR X id (rMD X.K x ds d)
def uM (X : Cx) (id : String) : V → List V → Hp → VK → Prop := fun v vs H q => ∃ r, MtR X id r ∧ r v vs H q
theorem mt_u (id : String) : MtR X id (uM X id) := fun pins s σ H x xs v us Q I rx rv ⟨_, h, q⟩ => h pins s σ H x xs v us Q I rx rv q
theorem MtD.of {id : String} {ds : List D} {r : V → List V → Hp → VK → Prop} (h : MtR X id r) (i : ∀ v vs H q m, (∀ a, m a = true → ∃ o, H a = some o ∧ nT o = true) → Rp X.K (hid m H) v x → RpA X.K (hid m H) vs ds → (∀ v H', Sub H H' → Rp X.K (hid m H') v d → q v H') → r v vs H q) : MtD X id x ds d :=
  fun pins s σ H v vs u us Q I rx rv ⟨m, hm, h1, h2, k⟩ => h pins s σ H v vs u us Q I rx rv (i v vs H Q m hm h1 h2 k)
/-- a text's method with arguments -/
theorem xe_ms {name : Str} {id : String} (slot : Slot "str" name id) (hty : typeOf (.builtin id) = pure (.type "method_descriptor")) (h : XE X μ o Γ fun x Γ1 => ∃ z, x = .str z ∧ XA X μ (e :: es) Γ1 fun ds Γ2 => ∃ d, MtD X id (.str z) ds d ∧ Q d Γ2)
    (hbase : attributeBase o name X.env (eval o X.env) = eval o X.env := by rfl)
    (hfew : ((backTo cpos (starEach (e :: es) X.env)).all (fun x => !x.1) && (backToKw cpos (keywordEach [] X.env)).all (fun x => x.1.isSome) && decide ((e :: es).length + ([] : List Keyword).length + (if ([] : List Keyword).isEmpty then 0 else 1) < 30)) = true := by rfl)
    (hline : (apos.endLine == cpos.line) = true := by rfl) (hs : starEach (e :: es) X.env = (false, eval e X.env) :: starEach es X.env := by rfl) (hplain : (backTo cpos (starEach es X.env)).any (·.1) = false := by rfl) :
    XE X μ (.Call (.Attribute o name apos) (e :: es) [] cpos) Γ Q :=
  PE.imp (pe_bm PySem.F.plainAttrs_str slot hty (mt_u id) h pa_u hbase hfew hline hs hplain) fun σ H q ⟨R, k⟩ => ⟨R, fun v H1 x Γ1 s1 f1 R1 r1 ⟨z, hz, hq⟩ => by
    subst hz
    cases r1
    exact ⟨rfl, _, hq, R1, fun vs H2 ds Γ2 s2 f2 R2 r2 ⟨d, ho, hq⟩ => ⟨_, ho, tot μ.m Γ2.c, R2.domT, .str z, r2, fun w H3 e3 r3 => k w H3 d Γ2 (s2.trans s1) ((f1.trans f2).trans (Fw.of_sub e3)) (R2.more e3) r3 hq⟩⟩⟩
/-- sep.join(texts) -/
def SL (ls : List (List Nat)) : List D := ls.map fun l => .str (S l)
theorem SL_strs (ls : List (List Nat)) : SL ls = (ls.map S).map D.str := by simp [SL]
theorem SL_len (ls : List (List Nat)) : (SL ls).length = ls.length := by simp [SL]
theorem join_S (sep : List Nat) (ls : List (List Nat)) : Txt.join (S sep) (ls.map S) = S (TL.joinL sep ls) := by
  refine TL.ext_tl ?_
  rw [TL.join_eq, TL.tl_join, List.map_map]
  show TL.joinL sep (ls.map id) = TL.joinL sep ls
  rw [List.map_id]
theorem lens_S (ls : List (List Nat)) : ((ls.map S).map (·.length)).sum = (ls.map List.length).sum := by
  rw [List.map_map]
  exact congrArg List.sum (List.map_congr_left fun l _ => S_len l)
theorem md_join_lst {sep : List Nat} {ls : List (List Nat)} (hz : (ls.map List.length).sum + ls.length * sep.length ≤ 100000) : MtD X "str.join" (.str (S sep)) [.lst (SL ls)] (.str (S (TL.joinL sep ls))) := .of mt_join fun v vs H q m hm h1 h2 k => by
  obtain ⟨u, rfl, r⟩ := h2.one
  cases h1
  cases r with
  | lst s1 r1 =>
    rw [SL_strs] at r1
    rw [r1.of_strs] at s1
    exact ⟨_, _, ls.map S, rfl, rfl, .inl ((hid_sub m H).sqL s1), by rw [lens_S, List.length_map, S_len]; exact Nat.le_trans hz (by decide), by rw [join_S]; exact k _ H (Sub.refl H) (.str _)⟩
theorem md_join_tup {sep : List Nat} {ls : List (List Nat)} (hz : (ls.map List.length).sum + ls.length * sep.length ≤ 100000) : MtD X "str.join" (.str (S sep)) [.tup (SL ls)] (.str (S (TL.joinL sep ls))) := .of mt_join fun v vs H q m hm h1 h2 k => by
  obtain ⟨u, rfl, r⟩ := h2.one
  cases h1
  cases r with
  | tup s1 r1 =>
    rw [SL_strs] at r1
    rw [r1.of_strs] at s1
    exact ⟨_, _, ls.map S, rfl, rfl, .inr ((hid_sub m H).sqT s1.sq), by rw [lens_S, List.length_map, S_len]; exact Nat.le_trans hz (by decide), by rw [join_S]; exact k _ H (Sub.refl H) (.str _)⟩
theorem cell_get {K : PySem.W.Frag} {m : Addr → Bool} {H : Hp} {c1 c2 : Cs} {p : Addr} {cl : Cell} (co : COk K m H (c1 ++ (p, cl) :: c2)) : CellRp K (hid (tot m (c1 ++ (p, cl) :: c2)) H) (H p) cl := co.cells (p, cl) (List.mem_append_right _ List.mem_cons_self)
theorem inC_swap {c1 c2 : Cs} {p : Addr} {cl cl' : Cell} {a : Addr} : inC (c1 ++ (p, cl) :: c2) a = inC (c1 ++ (p, cl') :: c2) a := by
  simp [inC]
theorem tot_swap {m : Addr → Bool} {c1 c2 : Cs} {p : Addr} {cl cl' : Cell} : tot m (c1 ++ (p, cl) :: c2) = tot m (c1 ++ (p, cl') :: c2) := by
  funext a
  unfold tot
  rw [inC_swap (cl' := cl')]
/-- a cell is changed -/
theorem Rel.put {K : PySem.W.Frag} {σ : L2.St} {s : List (Option D)} {c1 c2 : Cs} {p : Addr} {cl cl' : Cell} {o : HO} (R : Rel K μ H σ ⟨s, c1 ++ (p, cl) :: c2⟩)
    (h : CellRp K (hid (tot μ.m (c1 ++ (p, cl) :: c2)) H) (some o) cl') : Rel K μ (upd H p o) σ ⟨s, c1 ++ (p, cl') :: c2⟩ ∧ Fw (c1 ++ (p, cl) :: c2) (c1 ++ (p, cl') :: c2) H (upd H p o) := by
  have hp : inC (c1 ++ (p, cl) :: c2) p = true := inC_of (p := (p, cl)) (List.mem_append_right _ List.mem_cons_self)
  have f : Fw (c1 ++ (p, cl) :: c2) (c1 ++ (p, cl') :: c2) H (upd H p o) := fun a u h e => by
    have hne : a ≠ p := fun z => by rw [z, hp] at h; cases h
    exact ⟨by rw [upd_ne hne]; exact e, by rw [inC_swap (cl' := cl)]; exact h⟩
  have nd := R.co.nd
  have km : (c1 ++ (p, cl') :: c2).map (·.1) = (c1 ++ (p, cl) :: c2).map (·.1) := by simp
  refine ⟨⟨⟨fun a hma => ?_, by show ((c1 ++ (p, cl') :: c2).map (·.1)).Nodup; rw [km]; exact nd, fun q hq => ?_, fun q hq => ?_⟩, R.slots.mono f.sub, R.fw.trans f⟩, f⟩
  · by_cases e : a = p
    · subst e
      have z : μ.m a = false := R.co.off (a, cl) (List.mem_append_right _ List.mem_cons_self)
      rw [z] at hma
      cases hma
    · obtain ⟨u, hu, z⟩ := R.co.dom a hma
      exact ⟨u, by rw [upd_ne e]; exact hu, z⟩
  · have : q.1 ∈ (c1 ++ (p, cl) :: c2).map (·.1) := by rw [← km]; exact List.mem_map_of_mem hq
    obtain ⟨r, hr, er⟩ := List.mem_map.mp this
    rw [← er]
    exact R.co.off r hr
  · rcases List.mem_append.mp hq with h1 | h1
    · have z := R.co.cells q (List.mem_append_left _ h1)
      have hne : q.1 ≠ p := fun e => by
        rw [List.map_append, List.nodup_append] at nd
        exact nd.2.2 q.1 (List.mem_map_of_mem h1) p (by simp) e
      show CellRp K _ (upd H p o q.1) q.2
      rw [upd_ne hne]
      exact z.mono f.sub
    · rcases List.mem_cons.mp h1 with h1 | h1
      · subst h1
        show CellRp K _ (upd H p o p) cl'
        rw [upd_same]
        exact h.mono f.sub
      · have z := R.co.cells q (List.mem_append_right _ (List.mem_cons_of_mem _ h1))
        have hne : q.1 ≠ p := fun e => by
          rw [List.map_append, List.map_cons, List.nodup_append, List.nodup_cons] at nd
          refine nd.2.1.1 ?_
          show p ∈ c2.map (·.1)
          rw [← e]
          exact List.mem_map_of_mem h1
        show CellRp K _ (upd H p o q.1) q.2
        rw [upd_ne hne]
        exact z.mono f.sub
/-- a new object becomes a cell, the last one -/
theorem Rel.newC {K : PySem.W.Frag} {σ : L2.St} {s : List (Option D)} {cs : Cs} {p : Addr} {cl : Cell} {o : HO} (R : Rel K μ H σ ⟨s, cs⟩) (hp : H p = none)
    (h : CellRp K (hid (tot μ.m cs) H) (some o) cl) : Rel K μ (upd H p o) σ ⟨s, cs ++ [(p, cl)]⟩ ∧ Fw cs (cs ++ [(p, cl)]) H (upd H p o) := by
  have fr := R.fresh hp
  have f : Fw cs (cs ++ [(p, cl)]) H (upd H p o) := fun a u h e => by
    have hne := ne_of_none e hp
    refine ⟨by rw [upd_ne hne]; exact e, ?_⟩
    rw [inC_app, h]
    simp [inC, Ne.symm hne]
  obtain ⟨fm, fc⟩ := tot_false.mp fr
  refine ⟨⟨⟨fun a h => ?_, ?_, fun q hq => ?_, fun q hq => ?_⟩, R.slots.mono f.sub, R.fw.trans f⟩, f⟩
  · obtain ⟨u, hu, z⟩ := R.co.dom a h
    exact ⟨u, sub_upd hp _ _ hu, z⟩
  · show ((cs ++ [(p, cl)]).map (·.1)).Nodup
    rw [List.map_append, List.nodup_append]
    refine ⟨R.co.nd, by simp, fun a ha b hb e => ?_⟩
    have hb : b = p := by simpa using hb
    subst hb; subst e
    obtain ⟨q, hq, rfl⟩ := List.mem_map.mp ha
    rw [inC_of hq] at fc
    cases fc
  · rcases List.mem_append.mp hq with h1 | h1
    · exact R.co.off q h1
    · have e : q = (p, cl) := by simpa using h1
      subst e
      exact fm
  · rcases List.mem_append.mp hq with h1 | h1
    · have z := R.co.cells q h1
      obtain ⟨u, hu⟩ := z.some
      show CellRp K _ (upd H p o q.1) q.2
      rw [upd_ne (ne_of_none hu hp)]
      exact z.mono f.sub
    · have e : q = (p, cl) := by simpa using h1
      subst e
      show CellRp K _ (upd H p o p) cl
      rw [upd_same]
      exact h.mono f.sub
/-- x.append(e), x a cell -/
theorem xe_append {i : Nat} {xn : Str} {p : Addr} {np : Pos} (hN : X.N[i]? = some xn) (hv : Vis X.env.scope xn) (hx : Γ.s[i]? = some (some (.ref p)))
    (h : XE X μ e Γ fun d Γ1 => ∃ c1 xs c2, Γ1.c = c1 ++ (p, .lst xs) :: c2 ∧ xs.length < 100000 ∧ Q .non ⟨Γ1.s, c1 ++ (p, .lst (xs ++ [d])) :: c2⟩)
    (hc : ∃ c1 xs c2, Γ.c = c1 ++ (p, .lst xs) :: c2)
    (h1 : (xn == ("__debug__" : Str)) = false := by decide) (h2 : (xn == ("__classdict__" : Str)) = false := by decide)
    (hbase : attributeBase (.Name xn np) "append" X.env (eval (.Name xn np) X.env) = eval (.Name xn np) X.env := by rfl)
    (hfew : ((backTo cpos (starEach [e] X.env)).all (fun x => !x.1) && (backToKw cpos (keywordEach [] X.env)).all (fun x => x.1.isSome) && decide ([e].length + ([] : List Keyword).length + (if ([] : List Keyword).isEmpty then 0 else 1) < 30)) = true := by rfl)
    (hline : (apos.endLine == cpos.line) = true := by rfl) (hs : starEach [e] X.env = (false, eval e X.env) :: starEach [] X.env := by rfl) :
    XE X μ (.Call (.Attribute (.Name xn np) "append" apos) [e] [] cpos) Γ Q := by
  have hv' : XE X μ (.Name xn np) Γ fun x Γ1 => x = .ref p ∧ Γ1 = Γ := xe_var hN hv hx ⟨rfl, rfl⟩ h1 h2
  refine PE.imp (pe_bm PySem.F.plainAttrs_list PySem.F.slot_list_append PySem.F.type_list_append mt_append hv' (pa_cons h pa_nil hs) hbase hfew hline hs) fun σ H q ⟨R, k⟩ => ?_
  refine ⟨R, fun v H1 x Γ1 s1 f1 R1 r1 ⟨hx, hG⟩ => ?_⟩
  subst hx; subst hG
  cases r1
  obtain ⟨c1, xs, c2, ec⟩ := hc
  obtain ⟨sl, cc⟩ := Γ1
  have ec : cc = c1 ++ (p, .lst xs) :: c2 := ec
  subst ec
  obtain ⟨vs, hvs, _⟩ := cell_get R1.co
  refine ⟨.inl ⟨rfl, vs, .of hvs⟩, R1, fun w H2 d Γ2 s2 f2 R2 r2 ⟨c1', xs', c2', ec', hl, hq⟩ => ?_⟩
  obtain ⟨sl2, cc2⟩ := Γ2
  have ec' : cc2 = c1' ++ (p, .lst xs') :: c2' := ec'
  subst ec'
  obtain ⟨us, hus, ru⟩ := cell_get R2.co
  obtain ⟨R3, f3⟩ := R2.put (cl' := .lst (xs' ++ [d])) (o := .lst (us ++ [w])) ⟨_, rfl, ru.app (.cons r2 .nil)⟩
  exact ⟨p, us, w, rfl, rfl, hus, by rw [ru.length]; exact Nat.lt_of_lt_of_le hl (by decide), k _ _ .non ⟨sl2, c1' ++ (p, .lst (xs' ++ [d])) :: c2'⟩ (s2.trans s1) ((f1.trans f2).trans f3) R3 .non hq⟩
end
end Pdl
namespace Pdl
open PySem L2 PyProof.Rows
def Wk (K : PySem.W.Frag) (G : Hp) (J : It) (ds : List D) : Prop := ∀ (i : Nat) (H : Hp) (M : Addr → Bool), Sub G (hid M H) → (∀ a, M a = true → ∃ o, H a = some o ∧ nT o = true) →
  (∀ d, ds[i]? = some d → J.go i H ∧ ∀ x H', J.yld i H x H' → Sub H H' ∧ Rp K (hid M H') x d) ∧ (ds.length ≤ i → J.stop i H)
def tID (K : PySem.W.Frag) (μ : Md) (Γ : En) (Q : List D → En → Prop) : TI := fun σ H R => Rel K μ H σ Γ ∧ ∀ J H' ds Γ', Γ'.s = Γ.s → Fw Γ.c Γ'.c H H' → Rel K μ H' σ Γ' → Wk K (Vw μ Γ' H') J ds → Q ds Γ' → R J H'
def XI (X : Cx) (μ : Md) (tg it : Expr) (Γ : En) (Q : List D → En → Prop) : Prop := PI X tg it (tID X.K μ Γ Q)
def tGD (K : PySem.W.Frag) (μ : Md) (d : D) (Γ : En) (Q : En → Prop) : TG := fun v σ H q => Rel K μ H σ Γ ∧ Rp K (Vw μ Γ H) v d ∧ ∀ σ' H' Γ', Fw Γ.c Γ'.c H H' → Rel K μ H' σ' Γ' → Q Γ' → q σ' H'
def tGsD (K : PySem.W.Frag) (μ : Md) (ds : List D) (Γ : En) (Q : En → Prop) : TGs := fun vs σ H q => Rel K μ H σ Γ ∧ RpA K (Vw μ Γ H) vs ds ∧ ∀ σ' H' Γ', Fw Γ.c Γ'.c H H' → Rel K μ H' σ' Γ' → Q Γ' → q σ' H'
def XG (X : Cx) (μ : Md) (tg : Expr) (d : D) (Γ : En) (Q : En → Prop) : Prop := PG X tg (tGD X.K μ d Γ Q)
def XGs (X : Cx) (μ : Md) (tg : List Expr) (ds : List D) (Γ : En) (Q : En → Prop) : Prop := PGs X tg (tGsD X.K μ ds Γ Q)
section
variable {X : Cx} {μ : Md} {Γ : En} {Q : List D → En → Prop} {a b c e o it tg : Expr} {es : List Expr} {pos apos cpos : Pos} {x y d : D} {m : Addr → Bool} {H : Hp} {P : Po}
/-- what a list, a tuple, a text yields -/
def Items : D → List D → Prop
  | .lst xs, ds => ds = xs
  | .tup xs, ds => ds = xs
  | .tupx xs, ds => ds = xs
  | .str z, ds => ds = z.cps.toList.map fun c => .str (S [c])
  | _, _ => False
theorem wk_lst {K : PySem.W.Frag} {cs : Cs} {a : Addr} {vs : List V} {ds : List D} (s1 : SqL K (hid (tot m cs) H) a vs) (r : RpA K (hid (tot m cs) H) vs ds) : Wk K (hid (tot m cs) H) (Itl K a) ds := fun i H1 M sb _ => by
  have s2 : SqL K H1 a vs := (hid_sub _ _).sqL (sb.sqL s1)
  refine ⟨fun d hd => ?_, fun hl => ⟨vs, s2, by rw [r.length]; exact hl⟩⟩
  obtain ⟨v, hv, rv⟩ := r.got hd
  refine ⟨⟨vs, v, s2, hv⟩, fun x H' ⟨e, hx⟩ => ?_⟩
  subst e
  have e : x = v := by
    have := hx vs s2
    rw [hv] at this
    exact (Option.some.inj this).symm
  subst e
  exact ⟨Sub.refl _, rv.mono sb⟩
theorem wk_tup {K : PySem.W.Frag} {cs : Cs} {a : Addr} {vs : List V} {ds : List D} (s1 : SqT K (hid (tot m cs) H) a vs) (r : RpA K (hid (tot m cs) H) vs ds) : Wk K (hid (tot m cs) H) (Itt K a) ds := fun i H1 M sb _ => by
  have s2 : SqT K H1 a vs := (hid_sub _ _).sqT (sb.sqT s1)
  refine ⟨fun d hd => ?_, fun hl => ⟨vs, s2, by rw [r.length]; exact hl⟩⟩
  obtain ⟨v, hv, rv⟩ := r.got hd
  refine ⟨⟨vs, v, s2, hv⟩, fun x H' ⟨e, hx⟩ => ?_⟩
  subst e
  have e : x = v := by
    have := hx vs s2
    rw [hv] at this
    exact (Option.some.inj this).symm
  subst e
  exact ⟨Sub.refl _, rv.mono sb⟩
theorem wk_str {K : PySem.W.Frag} {G : Hp} {z : Str} : Wk K G (Its z) (z.cps.toList.map fun c => .str (S [c])) := fun i H1 M f _ => by
  refine ⟨fun d hd => ?_, fun hl => (show z.cps.size ≤ i by simpa using hl)⟩
  rw [List.getElem?_map] at hd
  obtain ⟨cd, hc, e⟩ := Option.map_eq_some_iff.mp hd
  subst e
  have hi : i < z.cps.size := by
    have := (List.getElem?_eq_some_iff.mp hc).1
    simpa using this
  refine ⟨hi, fun x H' ⟨e, c2, hc2, ex⟩ => ?_⟩
  subst e; subst ex
  have e : c2 = cd := by
    rw [Array.getElem?_toList] at hc
    rw [hc] at hc2
    exact (Option.some.inj hc2).symm
  subst e
  exact ⟨Sub.refl _, .str _⟩
theorem xi_lst (h : XE X μ e Γ fun d Γ1 => ∃ ds, d = .lst ds ∧ Q ds Γ1) : XI X μ tg e Γ Q :=
  PI.imp (pi_list h) fun σ H R ⟨Rl, k⟩ => ⟨Rl, fun v H1 d Γ1 s1 f1 R1 r1 ⟨ds, hd, hq⟩ => by
    subst hd
    cases r1 with
    | lst q1 q2 => exact ⟨_, rfl, ⟨_, (hid_sub _ _).sqL q1⟩, k _ H1 ds Γ1 s1 f1 R1 (wk_lst q1 q2) hq⟩⟩
theorem xi_str (h : XE X μ e Γ fun d Γ1 => ∃ l, d = .str (S l) ∧ Q (l.map fun c => .str (S [c])) Γ1) : XI X μ tg e Γ Q :=
  PI.imp (pi_str h) fun σ H R ⟨Rl, k⟩ => ⟨Rl, fun v H1 d Γ1 s1 f1 R1 r1 ⟨l, hd, hq⟩ => by
    subst hd
    cases r1
    exact ⟨_, rfl, k _ H1 _ Γ1 s1 f1 R1 wk_str hq⟩⟩
/-- one of the three, told by the value -/
theorem xi_any (h : XE X μ e Γ fun d Γ1 => ∃ ds, Items d ds ∧ Q ds Γ1) : XI X μ tg e Γ Q := by
  refine ⟨fun pins s σ H R I ⟨Rl, k⟩ => ?_⟩
  have h' : PE X e (tD X.K μ Γ fun d Γ1 => ∃ ds, Items d ds ∧ Q ds Γ1) := h
  refine thn (h'.run pins s σ H (fun v H1 => ∃ d Γ1, Γ1.s = Γ.s ∧ Fw Γ.c Γ1.c H H1 ∧ Rel X.K μ H1 σ Γ1 ∧ Rp X.K (Vw μ Γ1 H1) v d ∧ ∃ ds, Items d ds ∧ Q ds Γ1) I ⟨Rl, fun v H1 d Γ1 s1 f1 R1 r1 hq => ⟨d, Γ1, s1, f1, R1, r1, hq⟩⟩)
    fun u s1 ⟨v, H1, I1, rv, d, Γ1, e1, f1, R1, r1, ds, hi, hq⟩ => ?_
  cases r1 with
  | @lst a vs xs q1 q2 =>
    have hi : ds = xs := hi
    subst hi
    cases rv
    obtain ⟨its, rv, p, hz⟩ := I1.list ((hid_sub _ _).sqL q1)
    refine wpAny_pyIter_list p.isList ?_
    refine ⟨s1.heap.objs.size, [s1.heap.objs.size], _, _, H1, rfl, I1.kept (t' := s1.toks) fun b o e => Heap.get?_push_of_some _ e, turn_list a _, ⟨_, Heap.get?_push_size _ rfl, rfl, rfl⟩, fun b hb => ?_, k _ H1 ds Γ1 e1 f1 R1 (wk_lst q1 q2) hq⟩
    obtain rfl : b = s1.heap.objs.size := by simpa using hb
    exact I1.fpOk (Nat.le_refl _) (I1.hok.fresh (Nat.le_refl _))
  | @tup a vs xs q1 q2 =>
    have hi : ds = xs := hi
    subst hi
    cases rv
    obtain ⟨its, rv, p, hz⟩ := I1.tuple ((hid_sub _ _).sqT q1.sq)
    refine wpAny_pyIter_tuple (show s1.heap.IsTuple a its.toArray from p) ?_
    refine ⟨s1.heap.objs.size, [s1.heap.objs.size], _, _, H1, rfl, I1.kept (t' := s1.toks) fun b o e => Heap.get?_push_of_some _ e, turn_tuple a _, ⟨_, Heap.get?_push_size _ rfl, rfl, rfl⟩, fun b hb => ?_, k _ H1 ds Γ1 e1 f1 R1 (wk_tup q1.sq q2) hq⟩
    obtain rfl : b = s1.heap.objs.size := by simpa using hb
    exact I1.fpOk (Nat.le_refl _) (I1.hok.fresh (Nat.le_refl _))
  | str z =>
    obtain ⟨t, rfl⟩ := rv
    have hi : ds = z.cps.toList.map fun c => .str (S [c]) := hi
    subst hi
    cases ha : z.cps.all (· < 128)
    · exact wpAny_pyIter_wide ha (pi_one (tk := s1.toks) I1 _ (turn_str _ z t "str_iterator" (.inr rfl)) ⟨_, Heap.get?_push_size _ rfl, rfl, rfl⟩ (k _ H1 _ Γ1 e1 f1 R1 wk_str hq))
    · exact wpAny_pyIter_ascii ha (pi_one (tk := s1.toks) I1 _ (turn_str _ z t "str_ascii_iterator" (.inl rfl)) ⟨_, Heap.get?_push_size _ rfl, rfl, rfl⟩ (k _ H1 _ Γ1 e1 f1 R1 wk_str hq))
  | non => exact hi.elim
  | bl _ => exact hi.elim
  | int _ => exact hi.elim
  | ty _ => exact hi.elim
  | ref _ => exact hi.elim
  | dct _ _ => exact hi.elim
  | ins _ _ => exact hi.elim
  | exc0 _ => exact hi.elim
  | exc1 _ _ _ => exact hi.elim
  | set _ => exact hi.elim
  | dcT _ _ => exact hi.elim
  | dcL _ _ => exact hi.elim
  | dctL _ _ => exact hi.elim
  | @tupx a vs xs q1 q2 =>
    have hi : ds = xs := hi
    subst hi
    cases rv
    obtain ⟨its, rv, p, hz⟩ := I1.tuple ((hid_sub _ _).sqT q1)
    refine wpAny_pyIter_tuple (show s1.heap.IsTuple a its.toArray from p) ?_
    refine ⟨s1.heap.objs.size, [s1.heap.objs.size], _, _, H1, rfl, I1.kept (t' := s1.toks) fun b o e => Heap.get?_push_of_some _ e, turn_tuple a _, ⟨_, Heap.get?_push_size _ rfl, rfl, rfl⟩, fun b hb => ?_, k _ H1 ds Γ1 e1 f1 R1 (wk_tup q1 q2) hq⟩
    obtain rfl : b = s1.heap.objs.size := by simpa using hb
    exact I1.fpOk (Nat.le_refl _) (I1.hok.fresh (Nat.le_refl _))
/-- a range -/
def rngD (lo : Int) (n : Nat) : List D := (List.range n).map fun (i : Nat) => .int (lo + (i : Int))
theorem wk_rng {K : PySem.W.Frag} {G : Hp} {lo : Int} {n : Nat} : Wk K G (Itr lo n) (rngD lo n) := fun i H1 M f _ => by
  refine ⟨fun d hd => ?_, fun hl => (show n ≤ i by simpa [rngD] using hl)⟩
  unfold rngD at hd
  rw [List.getElem?_map] at hd
  obtain ⟨j, hj, e⟩ := Option.map_eq_some_iff.mp hd
  subst e
  obtain ⟨hi, hj⟩ := List.getElem?_eq_some_iff.mp hj
  rw [List.getElem_range] at hj
  subst hj
  refine ⟨(show i < n by simpa using hi), fun x H' ⟨e, ex⟩ => ?_⟩
  subst e; subst ex
  exact ⟨Sub.refl _, .int _⟩
theorem xi_rng1 {p : Pos} (hg : Gl X "range") (hm : X.mg "range" = none) (h : XA X μ [a] Γ fun ds Γ1 => ∃ n : Int, ds = [.int n] ∧ -100000 ≤ n ∧ n ≤ 100000 ∧ Q (rngD 0 n.toNat) Γ1) (hs : starEach [a] X.env = [(false, eval a X.env)] := by rfl) : XI X μ tg (.Call (.Name "range" p) [a] [] pos) Γ Q :=
  PI.imp (pi_range1 hg hm h hs) fun σ H R ⟨Rl, k⟩ => ⟨Rl, fun vs H1 ds Γ1 s1 f1 R1 r1 ⟨n, hd, h1, h2, hq⟩ => by
    subst hd
    obtain ⟨v, rfl, r⟩ := r1.one
    cases r
    exact ⟨n, rfl, by omega, by omega, k _ H1 _ Γ1 s1 f1 R1 wk_rng hq⟩⟩
theorem xi_rng2 {p : Pos} (hg : Gl X "range") (hm : X.mg "range" = none) (h : XA X μ [a, b] Γ fun ds Γ1 => ∃ l n : Int, ds = [.int l, .int n] ∧ (-100000 ≤ l ∧ l ≤ 100000) ∧ (-100000 ≤ n ∧ n ≤ 100000) ∧ Q (rngD l (n - l).toNat) Γ1)
    (hs : starEach [a, b] X.env = [(false, eval a X.env), (false, eval b X.env)] := by rfl) (hs2 : starEach [b] X.env = [(false, eval b X.env)] := by rfl) : XI X μ tg (.Call (.Name "range" p) [a, b] [] pos) Γ Q :=
  PI.imp (pi_range2 hg hm h hs hs2) fun σ H R ⟨Rl, k⟩ => ⟨Rl, fun vs H1 ds Γ1 s1 f1 R1 r1 ⟨l, n, hd, h1, h2, hq⟩ => by
    subst hd
    obtain ⟨v, u, rfl, r, r'⟩ := r1.two
    cases r; cases r'
    exact ⟨l, n, rfl, ⟨by omega, by omega, by omega, by omega⟩, k _ H1 _ Γ1 s1 f1 R1 wk_rng hq⟩⟩
theorem xg_name {i : Nat} {xn : Str} {Q : En → Prop} (hN : X.N.Nodup) (hi : X.N[i]? = some xn) (hx : Loc X.env.scope xn) (h : Q { Γ with s := Γ.s.set i (some d) }) (hf : X.fn xn = true ∨ X.env.scope.names.lookup xn = some .local := by first | exact .inl rfl | exact .inr rfl | assumption) : XG X μ (.Name xn pos) d Γ Q :=
  PG.imp (pg_name (i := i) hN hi hx hf) fun v σ H q ⟨R, r, k⟩ => k _ H { Γ with s := Γ.s.set i (some d) } (Fw.refl _ _) (R.set i r) h
theorem xgs_nil {Q : En → Prop} (h : Q Γ) : XGs X μ [] [] Γ Q := PGs.imp pgs_nil fun v σ H q ⟨R, r, k⟩ => by
  cases r
  exact ⟨rfl, k σ H Γ (Fw.refl _ _) R h⟩
theorem xgs_cons {Q : En → Prop} {ts : List Expr} {ds : List D} (h : XG X μ tg d Γ fun Γ1 => XGs X μ ts ds Γ1 Q) (hs : (assignEach (tg :: ts) X.env).map (·.2) = assign tg X.env :: (assignEach ts X.env).map (·.2) := by rfl) : XGs X μ (tg :: ts) (d :: ds) Γ Q :=
  PGs.imp (pgs_cons h pgs_u hs) fun vs σ H q ⟨R, r, k⟩ => by
    cases r with
    | cons r1 r2 => exact ⟨_, _, rfl, R, r1, fun σ1 H1 Γ1 f1 R1 hq => ⟨_, hq, R1, r2.mono f1.sub, fun σ2 H2 Γ2 f2 R2 hq => k σ2 H2 Γ2 (f1.trans f2) R2 hq⟩⟩
theorem xg_tup {Q : En → Prop} {ts : List Expr} {ds : List D} {j : Nat} (hc : X.calm = true) (hl : ds.length = ts.length) (h : XGs X μ ts ds Γ Q) (hn : (assignEach ts X.env).length = ts.length := by rfl) (hst : (assignEach ts X.env).findIdx? (·.1) = none := by rfl) : XG X μ (.Tuple ts j pos) (.tup ds) Γ Q :=
  PG.imp (pg_tup hc h hn hst) fun v σ H q ⟨R, r, k⟩ => by
    cases r with
    | tup s1 r1 => exact ⟨_, _, rfl, (hid_sub _ _).sqT s1.sq, by rw [r1.length, hl], R, r1, k⟩
/-- target = e -/
theorem xs_asg {e : Expr} (h : XE X μ e Γ fun d Γ1 => XG X μ tg d Γ1 P.nx) (hs : swapsWithSole [tg] e pos.line X.env = pure false := by rfl) (hw : swappedStores [tg] e X.env = pure none := by rfl)
    (h1 : (assignEach [tg] X.env).map (·.2) = [assign tg X.env] := by rfl) : XS X μ (.Assign [tg] e pos) Γ P :=
  PS.imp (ps_asg h pg_u hs hw h1) fun D σ H ⟨R, k, _⟩ => ⟨R, fun v H1 d Γ1 s1 f1 R1 r1 hq => ⟨_, hq, R1, r1, fun σ2 H2 Γ2 f2 R2 hq => k σ2 H2 Γ2 (f1.trans f2) R2 hq⟩⟩
/-- a, b = x, y -/
theorem xs_par {i j : Nat} {xn yn : Str} {px py pt : Pos} {kt k2 pt2} (hc : X.calm = true) (hN : X.N.Nodup) (hi : X.N[i]? = some xn) (hj : X.N[j]? = some yn) (hij : i ≠ j)
    (hx : X.env.scope.names.lookup xn = some .local) (hy : X.env.scope.names.lookup yn = some .local) (h : XA X μ [a, b] Γ fun ds Γ1 => ∃ d e, ds = [d, e] ∧ P.nx { Γ1 with s := (Γ1.s.set i (some d)).set j (some e) })
    (hw : swappedStores [.Tuple [.Name xn px, .Name yn py] kt pt] (.Tuple [a, b] k2 pt2) X.env = pure (some [xn, yn]) := by rfl)
    (hs : swapsWithSole [.Tuple [.Name xn px, .Name yn py] kt pt] (.Tuple [a, b] k2 pt2) pos.line X.env = pure false := by rfl) :
    XS X μ (.Assign [.Tuple [.Name xn px, .Name yn py] kt pt] (.Tuple [a, b] k2 pt2) pos) Γ P :=
  PS.imp (ps_par hc hN hi hj hij hx hy h hw hs) fun D σ H ⟨R, k, _⟩ => ⟨R, fun vs H1 ds Γ1 s1 f1 R1 r1 ⟨d, e, hd, hq⟩ => by
    subst hd
    obtain ⟨v, u, rfl, r, r'⟩ := r1.two
    exact ⟨v, u, rfl, k _ H1 { Γ1 with s := (Γ1.s.set i (some d)).set j (some e) } f1 ((R1.set i r).set j r') hq⟩⟩
theorem xs_for {body : List Stmt} (hp : PassesOwn (model X.prog X.w) X.A X.env X.xe) (hc : X.calm = true)
    (h : XI X μ tg it Γ fun ds Γ1 => ∃ I : Nat → En → Prop, I 0 Γ1 ∧ (∀ i d Γ2, ds[i]? = some d → I i Γ2 → XG X μ tg d Γ2 fun Γ3 => XB X μ body Γ3 { P with nx := I (i + 1), ct := I (i + 1), bk := P.nx }) ∧ ∀ Γ2, I ds.length Γ2 → P.nx Γ2)
    (hs : ∀ x, foldedSetIterable it X.env x = pure x := by intro _; rfl) : XS X μ (.For tg it body [] pos) Γ P := by
  refine PS.imp (ps_for hp hc h pg_u pss_u hs) fun D σ H ⟨R, k1, k2, k3, k4⟩ => ⟨R, fun J H1 ds Γ1 s1 f1 R1 wk ⟨I, h0, ht, hd⟩ => ?_⟩
  refine ⟨fun i n σ' H' => n = ds.length - i ∧ i ≤ ds.length ∧ ∃ Γ', Fw Γ1.c Γ'.c H1 H' ∧ Rel X.K μ H' σ' Γ' ∧ I i Γ', ⟨ds.length, by simp, Nat.zero_le _, Γ1, Fw.refl _ _, R1, h0⟩, ?_⟩
  rintro i n σ' H' ⟨rfl, hi, Γ', f', R', hI⟩
  obtain ⟨w1, w2⟩ := wk i H' (tot μ.m Γ'.c) f'.sub R'.domT
  by_cases hlt : i < ds.length
  · obtain ⟨go, yl⟩ := w1 ds[i] (by simp [hlt])
    refine .inr ⟨go, fun σ2 H2 => ∃ Γ2, Fw Γ1.c Γ2.c H1 H2 ∧ Rel X.K μ H2 σ2 Γ2 ∧ I (i + 1) Γ2, fun σ2 H2 q => ⟨ds.length - (i + 1), by omega, rfl, hlt, q⟩, fun x H2 y => ?_⟩
    obtain ⟨e2, r2⟩ := yl x H2 y
    have f2 : Fw Γ'.c Γ'.c H' H2 := Fw.of_sub e2
    refine ⟨_, ht i ds[i] Γ' (by simp [hlt]) hI, R'.more e2, r2, fun σ3 H3 Γ3 f3 R3 hb => ⟨_, hb, R3, fun σ4 H4 Γ4 f4 R4 q => ?_, fun v σ4 H4 d Γ4 f4 R4 r q => ?_, fun σ4 H4 Γ4 f4 R4 q => ?_, fun σ4 H4 Γ4 f4 R4 q => ?_⟩⟩
    · exact ⟨Γ4, ((f'.trans f2).trans f3).trans f4, R4, q⟩
    · exact k2 v σ4 H4 d Γ4 ((((f1.trans f').trans f2).trans f3).trans f4) R4 r q
    · exact k1 σ4 H4 Γ4 ((((f1.trans f').trans f2).trans f3).trans f4) R4 q
    · exact ⟨Γ4, ((f'.trans f2).trans f3).trans f4, R4, q⟩
  · have e : i = ds.length := by omega
    subst e
    exact .inl ⟨w2 (Nat.le_refl _), k1 σ' H' Γ' (f1.trans f') R' (hd Γ' hI)⟩
theorem xs_while {body : List Stmt} (hp : PassesOwn (model X.prog X.w) X.A X.env X.xe) (I : En → Prop) (M : En → Nat) (h0 : I Γ)
    (ht : ∀ Γ1, I Γ1 → XT X μ c Γ1 fun b Γ2 => if b = true then XB X μ body Γ2 { P with nx := fun Γ3 => I Γ3 ∧ M Γ3 < M Γ1, ct := fun Γ3 => I Γ3 ∧ M Γ3 < M Γ1, bk := P.nx } else P.nx Γ2) : XS X μ (.While c body [] pos) Γ P := by
  refine PS.imp (ps_while hp pt_u pss_u) fun D σ H ⟨R, k1, k2, k3, k4⟩ => ?_
  refine ⟨fun n σ' H' => ∃ Γ', n = M Γ' ∧ Fw Γ.c Γ'.c H H' ∧ Rel X.K μ H' σ' Γ' ∧ I Γ', ⟨_, Γ, rfl, Fw.refl _ _, R, h0⟩, ?_⟩
  rintro n σ' H' ⟨Γ', rfl, f', R', hI⟩
  refine ⟨_, ht Γ' hI, R', fun H1 b Γ1 s1 f1 R1 hq => ?_⟩
  cases b with
  | true =>
    rw [if_pos rfl] at hq
    refine iteT ⟨fun σ2 H2 => ∃ Γ2, Fw Γ.c Γ2.c H H2 ∧ Rel X.K μ H2 σ2 Γ2 ∧ I Γ2 ∧ M Γ2 < M Γ', fun σ2 H2 ⟨Γ2, g1, g2, g3, g4⟩ => ⟨M Γ2, g4, Γ2, rfl, g1, g2, g3⟩, _, hq, R1, fun σ4 H4 Γ4 f4 R4 q => ?_, fun v σ4 H4 d Γ4 f4 R4 r q => ?_, fun σ4 H4 Γ4 f4 R4 q => ?_, fun σ4 H4 Γ4 f4 R4 q => ?_⟩
    · exact ⟨Γ4, (f'.trans f1).trans f4, R4, q⟩
    · exact k2 v σ4 H4 d Γ4 ((f'.trans f1).trans f4) R4 r q
    · exact k1 σ4 H4 Γ4 ((f'.trans f1).trans f4) R4 q
    · exact ⟨Γ4, (f'.trans f1).trans f4, R4, q⟩
  | false =>
    rw [if_neg Bool.false_ne_true] at hq
    exact iteF (k1 σ' H1 Γ1 (f'.trans f1) R1 hq)
end
end Pdl
namespace Pdl
open PySem L2 PyProof.Rows
def XTl (X : Cx) (μ : Md) (ifs : List Expr) (Γ : En) (Q : Bool → En → Prop) : Prop := PTs X ifs (tTD X.K μ Γ Q)
/-- all block contexts of a comprehension -/
abbrev Blk (X : Cx) (scope : Scope) (F : Cx → Prop) : Prop := ∀ (s : Shared) (H : Hp) (C : Addr) (cl : List (Str × Addr)) (fp : List Addr), F (X.blk s H scope (compEnvC scope cl C X.env) fp)
def uBT (X : Cx) (scope : Scope) (ifs : List Expr) : TT := fun σ H q => ∃ t, Blk X scope (fun Y => PTs Y ifs t) ∧ t σ H q
def uBE (X : Cx) (scope : Scope) (e : Expr) : TE := fun σ H q => ∃ t, Blk X scope (fun Y => PE Y e t) ∧ t σ H q
theorem hid_msk {m : Addr → Bool} {H : Hp} {p : Addr} {o : HO} (h : m p = true) : hid m (upd H p o) = hid m H := by
  funext a
  unfold hid
  by_cases e : a = p
  · subst e; rw [if_pos h, if_pos h]
  · rw [upd_ne e]
section
variable {X : Cx} {μ : Md} {Γ : En} {Q : QE} {a b c e o it tg elt : Expr} {es ifs : List Expr} {pos apos cpos tpos : Pos} {x y d : D} {m : Addr → Bool} {H : Hp} {P : Po} {scope : Scope}
theorem xtl_nil {Q : Bool → En → Prop} (h : Q true Γ) : XTl X μ [] Γ Q := ⟨fun pins s σ H q I ⟨R, k⟩ => (pts_nil (X := X)).run pins s σ H q I (k H true Γ rfl (Fw.refl _ _) R h)⟩
theorem xtl_one {Q : Bool → En → Prop} (h : XT X μ c Γ Q) : XTl X μ [c] Γ Q := pts_one h
/-- what is asked of a comprehension's items -/
def QLc (X : Cx) (scope : Scope) (ifs : List Expr) (elt : Expr) (i : Nat) (Q : QE) : List D → En → Prop := fun ds Γ1 => ∃ I : Nat → List D → Cs → Prop, I 0 [] Γ1.c ∧
      (∀ k d acc c2, ds[k]? = some d → I k acc c2 → ∀ μ', Blk X scope fun Y => XTl Y μ' ifs ⟨Γ1.s.set i (some d), c2⟩ fun b Γ3 => if b = true then Blk X scope fun Z => XE Z μ' elt Γ3 fun y Γ4 => I (k + 1) (acc ++ [y]) Γ4.c else I (k + 1) acc Γ3.c) ∧
      ds.length ≤ 100000 ∧ ∀ acc c2, I ds.length acc c2 → Q (.lst acc) ⟨Γ1.s, c2⟩
theorem lcD {i : Nat} (σ : L2.St) (H : Hp) (q : VK) (h : tD X.K μ Γ Q σ H q) : tLc (tID X.K μ Γ (QLc X scope ifs elt i Q)) (gName i) (uBT X scope ifs) (uBE X scope elt) [i] σ H q := by
  obtain ⟨R, k⟩ := h
  refine ⟨R, fun J H1 ds Γ1 s1 f1 R1 wk ⟨I, h0, ht, hlen, hd⟩ p hp => ?_⟩
  have hpm : tot μ.m Γ1.c p = false := R1.fresh hp
  let μ' : Md := { m := fun a => μ.m a || a == p, c0 := Γ1.c, H0 := H1, E := fun _ _ => False }
  have mp : μ'.m p = true := by show (μ.m p || p == p) = true; simp
  have mne : ∀ {a}, a ≠ p → μ'.m a = μ.m a := fun {a} h => by show (μ.m a || a == p) = _; rw [beq_eq_false_iff_ne.mpr h]; simp
  have tp : ∀ cs, tot μ'.m cs p = true := fun cs => by unfold tot; rw [mp]; rfl
  have less : ∀ (cs : Cs) (H' : Hp), Sub (hid (tot μ'.m cs) H') (hid (tot μ.m cs) H') := fun cs H' => hid_mono fun a o h e => by
    obtain ⟨h1, h2⟩ := tot_false.mp h
    have hne : a ≠ p := fun z => by rw [z, mp] at h1; cases h1
    rw [mne hne] at h1
    exact ⟨tot_false.mpr ⟨h1, h2⟩, e⟩
  have near : ∀ {cs : Cs} {H' : Hp}, Fw Γ1.c cs H1 H' → Sub (hid (tot μ.m Γ1.c) H1) (hid (tot μ'.m cs) H') := fun {cs H'} f => hid_mono fun a o h e => by
    obtain ⟨h1, h2⟩ := tot_false.mp h
    obtain ⟨h3, h4⟩ := f a o h2 e
    have hne : a ≠ p := ne_of_none e hp
    exact ⟨tot_false.mpr ⟨by rw [mne hne]; exact h1, h4⟩, h3⟩
  refine ⟨fun k' n H' => n = ds.length - k' ∧ k' ≤ ds.length ∧ ∃ (acc : List D) (vs : List V) (c' : Cs), H' p = some (.lst vs) ∧ RpA X.K (hid (tot μ'.m c') H') vs acc ∧ Fw Γ1.c c' H1 H' ∧
    Rel X.K μ' H' (σ.set i none) ⟨Γ1.s.set i none, c'⟩ ∧ acc.length ≤ k' ∧ I k' acc c', ⟨ds.length, by simp, Nat.zero_le _, [], [], Γ1.c, upd_same, .nil, Fw.of_sub (sub_upd hp), ?_, Nat.le_refl _, h0⟩, ?_⟩
  · have f0 : Fw Γ1.c Γ1.c H1 (upd H1 p (.lst [])) := Fw.of_sub (sub_upd hp)
    refine ⟨⟨fun a h => ?_, R1.co.nd, fun r hr => ?_, fun r hr => ?_⟩, (R1.slots.unset i).mono (near f0), f0⟩
    · by_cases e : a = p
      · subst e; exact ⟨_, upd_same, rfl⟩
      · rw [mne e] at h
        obtain ⟨o, ho, z⟩ := R1.co.dom a h
        exact ⟨o, sub_upd hp _ _ ho, z⟩
    · have hne : r.1 ≠ p := fun z => by
        have := (tot_false.mp hpm).2
        rw [← z, inC_of hr] at this
        cases this
      rw [mne hne]
      exact R1.co.off r hr
    · have z := R1.co.cells r hr
      obtain ⟨u, hu⟩ := z.some
      show CellRp X.K _ (upd H1 p _ r.1) r.2
      rw [upd_ne (ne_of_none hu hp)]
      exact z.mono (near f0)
  · rintro k' n H' ⟨rfl, hk, acc, vs, c', hD, ra, f', R', hl, hI⟩
    obtain ⟨w1, w2⟩ := wk k' H' (tot μ'.m c') (near f') R'.domT
    by_cases hlt : k' < ds.length
    · obtain ⟨go, yl⟩ := w1 ds[k'] (by simp [hlt])
      refine .inr ⟨go, fun H2 => ∃ (acc : List D) (vs : List V) (c' : Cs), H2 p = some (.lst vs) ∧ RpA X.K (hid (tot μ'.m c') H2) vs acc ∧ Fw Γ1.c c' H1 H2 ∧
        Rel X.K μ' H2 (σ.set i none) ⟨Γ1.s.set i none, c'⟩ ∧ acc.length ≤ k' + 1 ∧ I (k' + 1) acc c', fun H2 q2 => ⟨ds.length - (k' + 1), by omega, rfl, hlt, q2⟩, fun v H2 y => ?_⟩
      obtain ⟨e2, r2⟩ := yl v H2 y
      have f2 : Fw c' c' H' H2 := Fw.of_sub e2
      have R2 : Rel X.K μ' H2 ((σ.set i none).set i (some v)) ⟨Γ1.s.set i (some ds[k']), c'⟩ := by
        have z := (R'.more e2).set i r2
        have ez : (Γ1.s.set i none).set i (some ds[k']) = Γ1.s.set i (some ds[k']) := List.set_set ..
        have z' : Rel X.K μ' H2 ((σ.set i none).set i (some v)) ⟨(Γ1.s.set i none).set i (some ds[k']), c'⟩ := z
        rw [ez] at z'
        exact z'
      have npc : ∀ {cs : Cs} {G : Hp} {σ' : L2.St} {sl : List (Option D)}, Rel X.K μ' G σ' ⟨sl, cs⟩ → inC cs p = false := fun {cs G σ' sl} R => by
        cases e : inC cs p with
        | false => rfl
        | true =>
          obtain ⟨r, hr, er⟩ := of_inC e
          have := R.co.off r hr
          rw [er, mp] at this
          cases this
      refine ⟨?_, ?_⟩
      · show ((σ.set i none).set i (some v)).set i none = σ.set i none
        rw [List.set_set, List.set_set]
      · refine ⟨tTD X.K μ' _ _, ht k' ds[k'] acc c' (by simp [hlt]) hI μ', R2, fun H3 b Γ3 s3 f3 R3 hq => ?_⟩
        obtain ⟨sl3, c3⟩ := Γ3
        have s3 : sl3 = Γ1.s.set i (some ds[k']) := s3
        subst s3
        have hD2 : H2 p = some (.lst vs) := e2 _ _ hD
        have hD3 : H3 p = some (.lst vs) := (f3 _ _ (npc R2) hD2).1
        have unset : ∀ {G : Hp} {cs : Cs}, Rel X.K μ' G ((σ.set i none).set i (some v)) ⟨Γ1.s.set i (some ds[k']), cs⟩ → Rel X.K μ' G (σ.set i none) ⟨Γ1.s.set i none, cs⟩ := fun {G cs} R => by
          refine ⟨R.co, ?_, R.fw⟩
          have z := R.slots.unset i
          have z' : SlotRp X.K (hid (tot μ'.m cs) G) (((σ.set i none).set i (some v)).set i none) ((Γ1.s.set i (some ds[k'])).set i none) := z
          rw [List.set_set, List.set_set, List.set_set] at z'
          exact z'
        cases b with
        | false =>
          rw [if_neg Bool.false_ne_true] at hq
          exact iteF ⟨acc, vs, c3, hD3, ra.mono (f2.sub.trans f3.sub), (f'.trans f2).trans f3, unset R3, Nat.le_succ_of_le hl, hq⟩
        | true =>
          rw [if_pos rfl] at hq
          refine iteT ⟨tD X.K μ' _ _, hq, R3, fun y H4 d4 Γ4 s4 f4 R4 r4 hI4 => ?_⟩
          obtain ⟨sl4, c4⟩ := Γ4
          have s4 : sl4 = Γ1.s.set i (some ds[k']) := s4
          subst s4
          have hD4 : H4 p = some (.lst vs) := (f4 _ _ (npc R3) hD3).1
          have lv : vs.length ≤ k' := by rw [ra.length]; exact hl
          refine ⟨vs, hD4, Nat.lt_of_le_of_lt (Nat.le_trans lv (Nat.le_trans hk hlen)) (by decide), acc ++ [d4], vs ++ [y], c4, upd_same, ?_, ?_, ?_, by rw [List.length_append]; exact Nat.succ_le_succ hl, hI4⟩
          · rw [hid_msk (tp c4)]
            exact (ra.mono ((f2.sub.trans f3.sub).trans f4.sub)).app (.cons r4 .nil)
          · intro a o ha e
            obtain ⟨z1, z2⟩ := (((f'.trans f2).trans f3).trans f4) a o ha e
            exact ⟨by rw [upd_ne (ne_of_none e hp)]; exact z1, z2⟩
          · have R5 := unset R4
            refine ⟨⟨fun a h => ?_, R5.co.nd, R5.co.off, fun r hr => ?_⟩, ?_, fun a o ha e => ?_⟩
            · by_cases ea : a = p
              · subst ea; exact ⟨_, upd_same, rfl⟩
              · obtain ⟨o, ho, z⟩ := R5.co.dom a h
                exact ⟨o, by rw [upd_ne ea]; exact ho, z⟩
            · have hne : r.1 ≠ p := fun z => by
                have := R5.co.off r hr
                rw [z, mp] at this
                cases this
              show CellRp X.K (hid (tot μ'.m c4) (upd H4 p _)) (upd H4 p _ r.1) r.2
              rw [hid_msk (tp c4), upd_ne hne]
              exact R5.co.cells r hr
            · show SlotRp X.K (hid (tot μ'.m c4) (upd H4 p _)) _ _
              rw [hid_msk (tp c4)]
              exact R5.slots
            · obtain ⟨z1, z2⟩ := R5.fw a o ha e
              exact ⟨by rw [upd_ne (ne_of_none e hp)]; exact z1, z2⟩
    · have e : k' = ds.length := by omega
      subst e
      refine .inl ⟨w2 (Nat.le_refl _), k _ H' (.lst acc) ⟨Γ1.s, c'⟩ s1 (f1.trans f') ⟨⟨fun a h => R'.co.dom a ?_, R'.co.nd, fun r hr => ?_, fun r hr => (R'.co.cells r hr).mono (less c' H')⟩, R1.slots.mono f'.sub, R1.fw.trans f'⟩ (.lst (.of ?_) (ra.mono (less c' H'))) (hd acc c' hI)⟩
      · show (μ.m a || a == p) = true
        rw [h]; rfl
      · have z : (μ.m r.1 || r.1 == p) = false := R'.co.off r hr
        exact (Bool.or_eq_false_iff.mp z).1
      · refine hid_some.mpr ⟨tot_false.mpr ⟨(tot_false.mp hpm).1, ?_⟩, hD⟩
        cases e : inC c' p with
        | false => rfl
        | true =>
          obtain ⟨r, hr, er⟩ := of_inC e
          have := R'.co.off r hr
          rw [er, mp] at this
          cases this
/-- [elt for x in it if ..], one name as the target -/
theorem xe_lc {i : Nat} {xn : Str} (hc : X.calm = true) (hN : X.N.Nodup) (hi : X.N[i]? = some xn) (hb : BlkOk X.N X.env.scope scope [(xn, i)]) (hx : Blk X scope fun Y => Loc Y.env.scope xn) (hf : Blk X scope fun Y => Y.fn xn = true ∨ Y.env.scope.names.lookup xn = some .local)
    (h : XI X μ (.Name xn tpos) it Γ (QLc X scope ifs elt i Q))
    (hs : ∀ x, foldedSetIterable it X.env x = pure x := by intro _; rfl) : XE X μ (.ListComp elt [⟨.Name xn tpos, it, ifs, 0⟩] scope pos) Γ Q :=
  PE.imp (pe_lc (g := gName i) (tt := uBT X scope ifs) (te := uBE X scope elt) hc hN h hb (fun s H C cl fp => pg_name hN hi (hx s H C cl fp) (hf s H C cl fp))
    (fun s H C cl fp => ⟨fun pins s' σ H' q I ⟨t, ht, hq⟩ => (ht s H C cl fp).run pins s' σ H' q I hq⟩) (fun s H C cl fp => ⟨fun pins s' σ H' q I ⟨t, ht, hq⟩ => (ht s H C cl fp).run pins s' σ H' q I hq⟩) hs) fun σ H q h => lcD σ H q h
/-- y = [elt for x in it if ..] -/
theorem xs_lc {i j : Nat} {xn yn : Str} {py spos : Pos} (hc : X.calm = true) (hN : X.N.Nodup) (hi : X.N[i]? = some xn) (hb : BlkOk X.N X.env.scope scope [(xn, i)]) (hx : Blk X scope fun Y => Loc Y.env.scope xn) (hf : Blk X scope fun Y => Y.fn xn = true ∨ Y.env.scope.names.lookup xn = some .local)
    (hy : X.N[j]? = some yn) (hyl : X.env.scope.names.lookup yn = some .local) (hsw : swapsWith (.ListComp elt [⟨.Name xn tpos, it, ifs, 0⟩] scope pos) (some (.Name yn py)) spos.line X.env = pure true)
    (h : XI X μ (.Name xn tpos) it Γ (QLc X scope ifs elt i fun d Γ1 => P.nx { Γ1 with s := Γ1.s.set j (some d) }))
    (hs : ∀ x, foldedSetIterable it X.env x = pure x := by intro _; rfl) : XS X μ (.Assign [.Name yn py] (.ListComp elt [⟨.Name xn tpos, it, ifs, 0⟩] scope pos) spos) Γ P :=
  PS.imp (ps_setLc (i := j) (g := gName i) (tt := uBT X scope ifs) (te := uBE X scope elt) hc hN hy hyl hsw h hb (fun s H C cl fp => pg_name hN hi (hx s H C cl fp) (hf s H C cl fp))
    (fun s H C cl fp => ⟨fun pins s' σ H' q I ⟨t, ht, hq⟩ => (ht s H C cl fp).run pins s' σ H' q I hq⟩) (fun s H C cl fp => ⟨fun pins s' σ H' q I ⟨t, ht, hq⟩ => (ht s H C cl fp).run pins s' σ H' q I hq⟩) hs)
    fun D σ H ⟨R, k, _⟩ => lcD σ H _ ⟨R, fun v H1 d Γ1 s1 f1 R1 r1 hq => k _ H1 { Γ1 with s := Γ1.s.set j (some d) } f1 (R1.set j r1) hq⟩
end
end Pdl
namespace Pdl
open PySem L2 PyProof.Rows
/-- the def st stands at the module's name x -/
def Def (K : PySem.W.Frag) (mg : Str → Option Value) (x : Str) (ps : List Str) (st : Stmt) : Prop := ∃ (f : Addr) (fd : FuncData), mg x = some (.ref f) ∧ PySem.W.keepIn K (.ref f) = true ∧ Fun K x x st f fd ∧ Binds K fd ps []
/-- the module's name x may be called: its promise -/
def Cal (P : Program) (w : World) (K : PySem.W.Frag) (mg : Str → Option Value) (base : Heap) (x : Str) (k : Nat) (ps : List Str) (S : SpD) : Prop :=
  ∃ (f : Addr) (fd : FuncData), mg x = some (.ref f) ∧ PySem.W.keepIn K (.ref f) = true ∧ FnOk P w K mg base CX0 k f fd ps (spD K S) ∧ Binds K fd ps []
/-- .. of a def that is run where no repr is under way -/
structure FnG (P : Program) (w : World) (K : PySem.W.Frag) (mg : Str → Option Value) (base : Heap) (k : Nat) (f : Addr) (fd : FuncData) (ps : List Str) (sp : Sp) : Prop where
  len : ∀ vs H Q E, sp vs H Q E → vs.length = ps.length
  run : ∀ (A : Around) (outer : List Env) (s : Shared) (H : Hp) (args : Args) (us : List Value) (vs : List V) (Q : VK) (E : XK), Room k A → A.guards = some [] → Env0 P w K mg base A outer s H → BindsTo s fd args (ps.zip us) → Vals vs us → sp vs H Q E →
    codeAny (model P w) A (.call (.ref f) args) (CR CX0 outer P w H s Q E) s
theorem FnG.of {P : Program} {w : World} {K : PySem.W.Frag} {mg : Str → Option Value} {base : Heap} {k : Nat} {f : Addr} {fd : FuncData} {ps : List Str} {sp : Sp} (F : FnOk P w K mg base CX0 k f fd ps sp) : FnG P w K mg base k f fd ps sp :=
  ⟨F.len, fun A outer s H args us vs Q E hr _ he hb hv hs => F.run A outer s H args us vs Q E hr he hb hv hs⟩
def CalG (P : Program) (w : World) (K : PySem.W.Frag) (mg : Str → Option Value) (base : Heap) (x : Str) (k : Nat) (ps : List Str) (S : SpD) : Prop :=
  ∃ (f : Addr) (fd : FuncData), mg x = some (.ref f) ∧ PySem.W.keepIn K (.ref f) = true ∧ FnG P w K mg base k f fd ps (spD K S) ∧ Binds K fd ps []
section
variable {P : Program} {w : World} {K : PySem.W.Frag} {mg : Str → Option Value} {base : Heap}
theorem Cal.g {x : Str} {k : Nat} {ps : List Str} {S : SpD} (h : Cal P w K mg base x k ps S) : CalG P w K mg base x k ps S := let ⟨f, fd, a, b, F, c⟩ := h; ⟨f, fd, a, b, .of F, c⟩
theorem cal_of {x : Str} {st : Stmt} {N ps : List Str} {k : Nat} {S : SpD} (D : Def K mg x ps st) (sc : FnScope N ps (defScope st)) (len : ∀ ds c Q E, S ds c Q E → ds.length = ps.length)
    (hbody : ∀ (f : Addr) (cdv : Value) (A : Around) (outer : List Env) (s : Shared) (H : Hp) (E0 : XK), Room k (bX P w K mg base N x st f cdv A outer s H E0).A →
      ∀ m ds c Q E, S ds c Q E → XB (bX P w K mg base N x st f cdv A outer s H E0) (mdOf m c H E) (defBody st) ⟨startD N ds, c⟩ (poOf Q)) : Cal P w K mg base x (k + 1) ps S := by
  obtain ⟨f, fd, h1, h2, F, b⟩ := D
  exact ⟨f, fd, h1, h2, fn_D F sc len (hbody f), b⟩
/-- the body, where no repr is under way -/
theorem fn_G {x qual : Str} {st : Stmt} {f : Addr} {fd : FuncData} {N ps : List Str} {k : Nat} {sp : Sp} (F : Fun K x qual st f fd) (sc : FnScope N ps (defScope st)) (len : ∀ vs H Q E, sp vs H Q E → vs.length = ps.length)
    (hbody : ∀ (cdv : Value) (A : Around) (outer : List Env) (s : Shared) (H : Hp) (vs : List V) (Q : VK) (E : XK), Room k (bX P w K mg base N qual st f cdv A outer s H E).A → (bX P w K mg base N qual st f cdv A outer s H E).A.guards = some [] → sp vs H Q E →
      ∃ t, PSs (bX P w K mg base N qual st f cdv A outer s H E) (defBody st) t ∧ t { nx := fun _ H' => Q .non H', rt := Q } (L2.start N vs) H) : FnG P w K mg base (k + 1) f fd ps sp := by
  obtain ⟨oc, od, kV, doc, pm, an, cdv, ct, osl, rfl, lk, hcd⟩ := F.ex
  refine ⟨len, fun A outer s₀ H₀ args us vs Q E room gd en bnd rel hsp => ?_⟩
  have kin : K.In s₀.heap := en.mod.kin.keeps fun b o z => (en.bs b o z).1
  have nol : s₀.heap.NoLimit := en.mod.nolimit.keeps fun b o z => (en.bs b o z).1
  have kinds : ∀ z ∈ ps.zip us, (defScope st).names.lookup z.1 = some .local ∨ ((defScope st).names.lookup z.1 = some .cell ∧ ((cellsFrom (s₀.heap.objs.size + 1) (defScope st).names []).lookup z.1).isSome = true) := fun ⟨nm, vl⟩ hz => by
    rcases sc.par nm (List.of_mem_zip hz).1 with g | g
    · exact .inl g
    · exact .inr ⟨g, PySem.W.cellsFrom_some _ _ _ (.inl g)⟩
  refine codeAny_call_function room.depth (kin _ _ lk) rfl sc.co sc.gen rfl (PySem.W.codeRec_of kin hcd) (bnd _ _ _ _ ?_)
  refine wpAny_newFunctionEnv_cells sc.kind kinds fun env he s₁ icl => ?_
  subst he
  refine ⟨nol.keeps icl.toInCall.keep, codeAny_func ?_⟩
  obtain ⟨t, pt, ht⟩ := hbody cdv A outer s₀ H₀ vs Q E (room.deeper _) gd hsp
  have inv : Inv (cxOf CX0 P w K mg base N qual (defScope st) f cdv A outer s₀ H₀ E) [] (L2.start N vs) H₀ s₁ := inv_start sc room.hd en (len _ _ _ _ hsp) rel icl
  refine wpAny_mono (pt.nox.run [] s₁ (L2.start N vs) H₀ _ inv ht) (fun fl s₂ done => ?_) fun e s₂ z => z
  have close : ∀ {σ' : L2.St} {H' : Hp} {v : V} {u : Value}, Inv (cxOf CX0 P w K mg base N qual (defScope st) f cdv A outer s₀ H₀ E) [] σ' H' s₂ → RelV v u → Q v H' → CE outer P w H₀ s₀ Q u s₂ :=
    fun {σ' H' v u} J rv q => ⟨v, H', J.os, J.bare, J.base, J.hok, rv, q⟩
  cases fl with
  | next =>
    obtain ⟨_, _, J, q⟩ := done
    exact close (v := V.non) (u := Value.none) J rfl q
  | ret u =>
    obtain ⟨_, _, _, J, rv, q⟩ := done
    exact close J rv q
  | brk => exact done.elim fun _ ⟨_, _, q⟩ => q.elim
  | cont => exact done.elim fun _ ⟨_, _, q⟩ => q.elim
theorem calg_of {x : Str} {st : Stmt} {N ps : List Str} {k : Nat} {S : SpD} (D : Def K mg x ps st) (sc : FnScope N ps (defScope st)) (len : ∀ ds c Q E, S ds c Q E → ds.length = ps.length)
    (hbody : ∀ (f : Addr) (cdv : Value) (A : Around) (outer : List Env) (s : Shared) (H : Hp) (E0 : XK), Room k (bX P w K mg base N x st f cdv A outer s H E0).A → (bX P w K mg base N x st f cdv A outer s H E0).A.guards = some [] →
      ∀ m ds c Q E, S ds c Q E → XB (bX P w K mg base N x st f cdv A outer s H E0) (mdOf m c H E) (defBody st) ⟨startD N ds, c⟩ (poOf Q)) : CalG P w K mg base x (k + 1) ps S := by
  obtain ⟨f, fd, h1, h2, F, b⟩ := D
  refine ⟨f, fd, h1, h2, fn_G F sc (fun vs H Q E h => ?_) (fun cdv A outer s H vs Q E hr hg h => ?_), b⟩
  · obtain ⟨m, ds, c, _, r, hs⟩ := h
    rw [r.length]
    exact len _ _ _ _ hs
  · exact body_D (X := bX P w K mg base N x st f cdv A outer s H E) rfl (fun m ds c Q' E' _ hs => hbody f cdv A outer s H E hr hg m ds c Q' E' hs) h
end
section
variable {X : Cx} {μ : Md} {Γ : En} {S : SpD} {Q : QE} {k : Nat} {x : Str} {ps : List Str} {p pos apos : Pos} {e o : Expr} {es : List Expr}
/-- f(e, ..) -/
theorem xe_call (C : Cal X.prog X.w X.K X.mg X.base x k ps S) (hr : Room k X.A) (hg : Gl X x) (h : XA X μ (e :: es) Γ (Asks μ S Q)) (hdb : (x == ("__debug__" : Str)) = false := by decide)
    (he : starEach (e :: es) X.env = (false, eval e X.env) :: starEach es X.env := by rfl) (hpl : (backTo pos (starEach es X.env)).any (·.1) = false := by rfl) : XE X μ (.Call (.Name x p) (e :: es) [] pos) Γ Q := by
  obtain ⟨f, fd, h1, h2, F, b⟩ := C
  refine PE.imp pe_u fun σ H q ⟨R, k⟩ => ⟨_, pe_call (E := wD X.K μ σ) F hr hg h1 h2 b .nil pass0' h hdb he hpl, R, fun vs H1 ds Γ1 s1 f1 R1 r1 hs => ?_⟩
  show spD X.K S (vs ++ []) H1 q (wD X.K μ σ)
  rw [List.append_nil]
  exact asks_sp R1 r1 hs fun v H2 d Γ2 s2 f2 R2 r2 hq => k v H2 d Γ2 (s2.trans s1) (f1.trans f2) R2 r2 hq
/-- .. of a def that is run where no repr is under way -/
theorem pe_callG {f : Addr} {fd : FuncData} {sp : Sp} {E : XK} {t : TA} (F : FnG X.prog X.w X.K X.mg X.base k f fd ps sp) (hr : Room k X.A) (gd : X.A.guards = some []) (hg : Gl X x) (hm : X.mg x = some (.ref f)) (hk : PySem.W.keepIn X.K (.ref f) = true) (hb : Binds X.K fd ps [])
    (ha : PA X (e :: es) t) (hdb : (x == ("__debug__" : Str)) = false := by decide) (he : starEach (e :: es) X.env = (false, eval e X.env) :: starEach es X.env := by rfl) (hpl : (backTo pos (starEach es X.env)).any (·.1) = false := by rfl) :
    PE X (.Call (.Name x p) (e :: es) [] pos) (fun σ H Q => t σ H fun vs H1 => sp vs H1 Q E) := by
  refine ⟨fun pins s₀ σ H₀ Q I₀ h => ?_⟩
  refine wpAny_Call_Name_kw (ld_glob I₀ hg hm ?_ hdb)
  refine PySem.W.callWith_K (h₀ := X.base) I₀.ok.mod.kin hk (thn (ha.run pos pins s₀ σ H₀ _ I₀ h) fun us s₁ ⟨vs, H₁, I₁, rv, q⟩ => ⟨I₁.kIn, ?_⟩) he hpl
  have lu : us.length = ps.length := by rw [← rv.length]; exact F.len _ _ _ _ q
  have bd := hb s₁ us I₁.kIn (by rw [List.append_nil]; exact lu)
  rw [List.append_nil] at bd
  refine wpAny_call (codeAny_mono (F.run X.A X.stack s₁ H₁ ⟨us, []⟩ us vs Q E hr gd I₁.env0 bd rv q) fun res s₂ done => ?_)
  match res, done with
  | .ok (.ret u), done => exact I₁.after done
  | .ok .next, done => exact False.elim done
  | .ok .brk, done => exact False.elim done
  | .ok .cont, done => exact False.elim done
  | .error e, done => exact False.elim done
theorem xe_callG (C : CalG X.prog X.w X.K X.mg X.base x k ps S) (hr : Room k X.A) (gd : X.A.guards = some []) (hg : Gl X x) (h : XA X μ (e :: es) Γ (Asks μ S Q)) (hdb : (x == ("__debug__" : Str)) = false := by decide)
    (he : starEach (e :: es) X.env = (false, eval e X.env) :: starEach es X.env := by rfl) (hpl : (backTo pos (starEach es X.env)).any (·.1) = false := by rfl) : XE X μ (.Call (.Name x p) (e :: es) [] pos) Γ Q := by
  obtain ⟨f, fd, h1, h2, F, b⟩ := C
  refine PE.imp pe_u fun σ H q ⟨R, k⟩ => ⟨_, pe_callG (E := wD X.K μ σ) F hr gd hg h1 h2 b h hdb he hpl, R, fun vs H1 ds Γ1 s1 f1 R1 r1 hs => ?_⟩
  exact asks_sp R1 r1 hs fun v H2 d Γ2 s2 f2 R2 r2 hq => k v H2 d Γ2 (s2.trans s1) (f1.trans f2) R2 r2 hq
/-- pure promises, promises with the jar -/
abbrev PSp := List D → (D → Prop) → Prop
def pS (S : PSp) : SpD := fun ds c Q _ => c = [] ∧ S ds fun d => Q d []
def jS (S : PSp) : SpD := fun ds c Q _ => ∃ J ds', ds = .ref J :: ds' ∧ c = [(J, .jar)] ∧ S ds' fun d => Q d [(J, .jar)]
theorem asks_p {S : PSp} {ds : List D} (h : ∀ Qc : D → Prop, (∀ d, Q d Γ → Qc d) → S ds Qc) : Asks μ (pS S) Q ds Γ := ⟨[], Γ.c, rfl, fun Qc Ec kq _ => ⟨rfl, h _ fun d hq => kq d [] hq⟩⟩
theorem asks_j {S : PSp} {J : Addr} {cs : Cs} {ds : List D} (hc : Γ.c = (J, .jar) :: cs) (h : ∀ Qc : D → Prop, (∀ d, Q d Γ → Qc d) → S ds Qc) : Asks μ (jS S) Q (.ref J :: ds) Γ := by
  refine ⟨[(J, .jar)], cs, hc, fun Qc Ec kq _ => ⟨J, ds, rfl, rfl, h _ fun d hq => kq d _ ?_⟩⟩
  obtain ⟨sl, c⟩ := Γ
  have hc : c = (J, .jar) :: cs := hc
  subst hc
  exact hq
end
end Pdl
namespace Pdl
open PySem PySem.Spec L2 PyProof.Rows
section
variable {P : Program} {w : World} {h h' : Heap} {a : Addr} {L : List Key}
theorem goodK_el {l : List (Int × Value)} (g : ∀ e ∈ l, GoodK w e) : ElemsOf (mixKind P w) l := fun e he => by
  obtain ⟨h1, h2⟩ := g e he
  refine ⟨⟨kOf e, h1, h2⟩, ?_⟩
  rcases keyIs_shape h1 with ⟨j, t, _, q⟩ | ⟨x, t, _, q⟩ <;> (rw [q]; rfl)
theorem goodK_mem {l : List (Int × Value)} (g : ∀ e ∈ l, GoodK w e) (k : Key) : k ∈ l.map kOf ↔ ∃ e ∈ l, (mixKind P w).is k e.2 = true := by
  rw [List.mem_map]
  constructor
  · rintro ⟨e, he, q⟩
    exact ⟨e, he, by rw [← q]; exact (g e he).1⟩
  · rintro ⟨e, he, q⟩
    exact ⟨e, he, kOf_is (i := e.1) q⟩
end
section
variable {P : Program} {w : World} {A : Around} {E : Value → Shared → Prop} {s : Shared} {a : Addr} {L : List Key}
theorem setQ_tail {g : Bool → Sem Unit} (hg : ∀ (b : Bool) (s₁ : Shared) (Q' : Unit → Shared → Prop), Q' () s₁ → wpAny (model P w) A (g b) Q' E s₁)
    {o : Obj} {es : Array (Int × Value)} {ep : Nat} {t : SetTable} (ho : s.heap.get? a = some o) (hex : o.ExactSet) (hd : o.data = .set es ep t)
    {es1 : Array (Int × Value)} {t2 : SetTable} {L' : List Key} (g1 : ∀ e ∈ es1.toList, GoodK w e) (nd1 : (es1.toList.map kOf).Nodup) (m1 : ∀ k, k ∈ L' ↔ k ∈ es1.toList.map kOf)
    (hz1 : es1.size ≤ L'.length) (hb1 : es1.size < scanBound) (hf2 : t2.fits es1.size = true) (hr : Ris t2.place.toList) (hl : w.params.followText "set-order" = true ∨ t2.led = true) {wasDummy : Bool} {R : Option Bool → Shared → Prop}
    (hR : ∀ h', Heap.SameBut a s.heap h' → SetQ w h' a L' → R (some true) { s with heap := h' }) :
    wpAny (model P w) A (do
        storeSet a es1 t2
        if (!wasDummy && t2.tooFull) = true then do
            g (relayAll t2 es1 (SetTable.grown es1.size)).2.2
            storeSet a (relayAll t2 es1 (SetTable.grown es1.size)).1 (relayAll t2 es1 (SetTable.grown es1.size)).2.1
            pure (some true)
          else pure (some true)) R E s := by
  refine wpAny_bind (wpAny_storeSet_of ho hd ?_ (fits_of_scanBound hb1))
  have ho1 := store_at (es' := es1) (t' := t2) ho hd
  have sb1 := Heap.SameBut.update s.heap a (Obj.putSet es1 t2)
  split
  · have pm := relayAll_perm t2 es1 (SetTable.grown es1.size)
    have hf3 := relayAll_fits t2 es1 (SetTable.grown es1.size)
    have hr3 := relayAll_ris t2 es1 (SetTable.grown es1.size)
    have hl3 := relayAll_led t2 es1 (SetTable.grown es1.size)
    generalize relayAll t2 es1 (SetTable.grown es1.size) = Z at pm hf3 hr3 hl3 ⊢
    obtain ⟨es2, t3, gave⟩ := Z
    dsimp only at pm hf3 hr3 hl3 ⊢
    have hsz : es2.size = es1.size := by rw [← Array.length_toList, pm.length_eq, Array.length_toList]
    refine wpAny_bind (hg _ _ _ ?_)
    refine wpAny_bind (wpAny_storeSet_of ho1 rfl ?_ (fits_of_scanBound (by rw [hsz]; exact hb1)))
    have ho2 := store_at (es' := es2) (t' := t3) ho1 rfl
    refine wpAny_pure (hR _ (sb1.trans (Heap.SameBut.update _ a _)) ?_)
    exact ⟨_, es2, _, t3, ho2, hex, rfl, fun e he => g1 e (pm.mem_iff.mp he), (pm.map kOf).nodup_iff.mpr nd1, fun k => (m1 k).trans (pm.map kOf).mem_iff.symm, by rw [hsz]; exact hz1, hf3, hr3, hl.imp id fun z => by rw [hl3]; exact z⟩
  · exact wpAny_pure (hR _ sb1 ⟨_, es1, _, t2, ho1, hex, rfl, g1, nd1, m1, hz1, hf2, hr, hl⟩)
theorem setQ_add {k : Key} {v : Value} {Q : Bool → Shared → Prop} (hv : keyIs k v = true) (R : SetQ w s.heap a L) (room : L.length + 1 < scanBound)
    (hQ : ∀ b h', Heap.SameBut a s.heap h' → SetQ w h' a (L ++ [k]) → Q b { s with heap := h' }) :
    wpAny (model P w) A (setAddHashed a v ((mixKind P w).hash k)) Q E s := by
  obtain ⟨o, es, ep, t, ho, hex, hd, g, nd, hm, hz, hf, hr, hl⟩ := R
  have hkey : (mixKind P w).is k v = true := hv
  have hsc : v.scannable = true := by rcases keyIs_shape hv with ⟨j, t, _, q⟩ | ⟨x, t, _, q⟩ <;> (rw [q]; rfl)
  have hel : ElemsOf (mixKind P w) es.toList := goodK_el g
  have hb : es.size < scanBound := by omega
  unfold setAddHashed setAddHashedIn
  refine wpAny_holding (wpAny_bind (wpAny_setState_of ho hd hf ?_))
  dsimp only
  rw [byScan_of hsc hb hel]
  simp only [↓reduceIte]
  unfold setAddByScan
  refine wpAny_bind ?_
  refine wpAny_bind (wpAny_rule ?_)
  refine wpAny_bind (wpAny_setScan_of hkey ho hd hf hel ?_)
  cases hfi : List.findIdx? (fun e => (mixKind P w).is k e.2) es.toList with
  | some j =>
    dsimp only
    obtain ⟨hj, pj, _⟩ := List.findIdx?_eq_some_iff_getElem.mp hfi
    have hin : k ∈ es.toList.map kOf := (goodK_mem (P := P) g k).2 ⟨es.toList[j], List.getElem_mem hj, pj⟩
    refine wpAny_pure (wpAny_pure (hQ _ s.heap (Heap.SameBut.refl a s.heap) ⟨o, es, ep, t, ho, hex, hd, g, nd, fun i => ?_, by rw [List.length_append]; omega, hf, hr, hl⟩))
    rw [List.mem_append, List.mem_singleton, hm i]
    exact ⟨fun z => z.elim id (fun e => e ▸ hin), .inl⟩
  | none =>
    dsimp only
    have hnk : k ∉ es.toList.map kOf := fun z => by
      obtain ⟨e, he, q⟩ := (goodK_mem (P := P) g k).1 z
      have c := List.findIdx?_eq_none_iff.mp hfi e he
      rw [q] at c
      cases c
    have hgw : ∀ (b : Bool) {s₁ : Shared} {Q' : Unit → Shared → Prop}, Q' () s₁ → wpAny (model P w) A (match b with | true => rule "set.scan.the-table-gave-way" | false => pure ()) Q' E s₁ :=
      fun b s₁ Q' q => by cases b <;> first | exact wpAny_pure q | exact wpAny_rule q
    have pm := layNew_perm t es ((mixKind P w).hash k) v
    have hf1 := layNew_fits t es ((mixKind P w).hash k) v
    have hr1 := layNew_ris t es ((mixKind P w).hash k) v hr
    have hl1 := layNew_led t es ((mixKind P w).hash k) v
    generalize layNew t es ((mixKind P w).hash k) v = Z at pm hf1 hr1 hl1 ⊢
    obtain ⟨es1, t1, wasDummy, gave⟩ := Z
    dsimp only at pm hf1 hr1 hl1 ⊢
    rw [Array.toList_push] at pm
    have pc : es1.toList.Perm (((mixKind P w).hash k, v) :: es.toList) := pm.trans (List.perm_append_singleton _ _)
    have kv : kOf ((mixKind P w).hash k, v) = k := kOf_is hv
    have pk : (es1.toList.map kOf).Perm (k :: es.toList.map kOf) := by
      have q := pc.map kOf
      rw [List.map_cons, kv] at q
      exact q
    have g1 : ∀ e ∈ es1.toList, GoodK w e := fun e he => by
      rcases List.mem_cons.mp (pc.mem_iff.mp he) with z | z
      · rw [z]
        exact ⟨by rw [kv]; exact hv, by rw [kv]; rfl⟩
      · exact g e z
    have nd1 : (es1.toList.map kOf).Nodup := pk.nodup_iff.mpr (List.nodup_cons.mpr ⟨hnk, nd⟩)
    have m1 : ∀ i, i ∈ L ++ [k] ↔ i ∈ es1.toList.map kOf := fun i => by
      rw [List.mem_append, List.mem_singleton, hm i, pk.mem_iff, List.mem_cons]
      exact Or.comm
    have hsz : es1.size = es.size + 1 := by rw [← Array.length_toList, pc.length_eq, List.length_cons, Array.length_toList]
    have hz1 : es1.size ≤ (L ++ [k]).length := by rw [List.length_append, hsz]; exact Nat.succ_le_succ hz
    have hb1 : es1.size < scanBound := by omega
    have hled : w.params.followText "set-order" = true ∨ t1.led = true := hl.imp id fun z => by rw [hl1]; exact z
    refine wpAny_bind (hgw _ ?_)
    split
    · refine wpAny_bind ?_
      rw [hashByValue_scannable 8 hsc]
      refine wpAny_pure ?_
      refine setQ_tail ?_ ho hex hd g1 nd1 m1 hz1 hb1 ?_ ?_ ?_ ?_
      · intro b s₁ Q' q; cases b <;> first | exact wpAny_pure q | exact wpAny_rule q
      · first | (split <;> first | exact hf1 | exact SetTable.fits_plain_off hf1) | exact hf1
      · first | (split <;> exact hr1) | exact hr1
      · first | (split <;> exact hled) | exact hled
      · intro h' sb r; dsimp only; exact wpAny_pure (hQ _ h' sb r)
    · refine wpAny_bind (wpAny_pure ?_)
      simp only [↓reduceIte]
      refine setQ_tail ?_ ho hex hd g1 nd1 m1 hz1 hb1 hf1 hr1 hled ?_
      · intro b s₁ Q' q; cases b <;> first | exact wpAny_pure q | exact wpAny_rule q
      · intro h' sb r; dsimp only; exact wpAny_pure (hQ _ h' sb r)
theorem setQ_fresh {h : Heap} {a : Addr} (ho : h.get? a = some { cls := .type "set", dict := none, data := .set #[] 0 (.fresh 0 0 (!w.params.followText "set-order")) }) : SetQ w h a [] :=
  ⟨_, #[], 0, _, ho, ⟨rfl, rfl, rfl⟩, rfl, (fun e he => by simp at he), (by simp), (fun k => by simp), Nat.le_refl _, (by rfl), List.Pairwise.nil, by
    show _ ∨ (!w.params.followText "set-order") = true
    cases w.params.followText "set-order"
    · exact .inr rfl
    · exact .inl rfl⟩
/-- set.update's loop over keys -/
theorem setQ_loop {I : Addr} {fp wr : List Addr} {G : Array GenState → Array GenState → Prop} {n : Nat} {Pv : Nat → Value → Prop} {St : Nat → Shared → Prop} {R : Result → Shared → Prop}
    (W : WalksS P w A.in1 I fp wr G n Pv St) (a : Addr) (hSf : a ∉ fp) (ks : List Key) (hn : n = ks.length) (hfew : ks.length + 1 < scanBound) (hval : ∀ i v, Pv i v → ∃ k, ks[i]? = some k ∧ keyIs k v = true) :
    ∀ (m i : Nat) (s : Shared), n - i = m → i ≤ n → St i s → SetQ w s.heap a (ks.take i) → (∀ s', Moved (a :: wr) G s s' → SetQ w s'.heap a ks → R (.ok (.ret .none)) s') →
      codeAny (model P w) A (.builtin "set.update.loop" ⟨[.ref a, .ref I], []⟩) R s := by
  have hSw : a ∉ wr := fun h => hSf (W.sub _ h)
  have hsub : ∀ b ∈ wr, b ∈ a :: wr := fun b hb => List.mem_cons_of_mem _ hb
  intro m
  induction m with
  | zero =>
    intro i s hk hi hst hS hR
    have hin : i = n := by omega
    subst hin
    refine codeAny_builtin PyProof.Rows.F.entry_set_update_loop ?_
    rw [Around.under_plainId PyProof.Rows.F.plain_set_update_loop _]
    show wpAny _ A.in1 (pyNext (.ref I) >>= _) _ _ s
    refine wpAny_bind (W.done s _ _ hst fun s' hm => ?_)
    show wpAny _ A.in1 (ret Value.none) _ _ s'
    rw [hn, List.take_length] at hS
    exact wpAny_pure (hR s' (hm.mono hsub) (hS.at fun o e => hm.heap a o hSw e))
  | succ m ih =>
    intro i s hk hi hst hS hR
    have hlt : i < n := by omega
    refine codeAny_builtin PyProof.Rows.F.entry_set_update_loop ?_
    rw [Around.under_plainId PyProof.Rows.F.plain_set_update_loop _]
    show wpAny _ A.in1 (pyNext (.ref I) >>= _) _ _ s
    refine wpAny_bind (W.item i s _ _ hlt hst fun v s' hP hst' hm => ?_)
    obtain ⟨k, hki, hkv⟩ := hval i v hP
    have hS' : SetQ w s'.heap a (ks.take i) := hS.at fun o e => hm.heap a o hSw e
    show wpAny _ A.in1 (holding [v] (setAdd a v) >>= _) _ _ s'
    refine wpAny_bind (wpAny_holding ?_)
    unfold setAdd
    refine wpAny_holding ?_
    refine wpAny_bind ((mixKind P w).pyHash (k := k) hkv ?_)
    refine setQ_add (s := { s' with toks := s'.toks + 1 }) hkv hS' (by rw [List.length_take]; omega) fun b h' hsb hS2 => ?_
    have et : ks.take i ++ [k] = ks.take (i + 1) := by rw [List.take_add_one, hki]; rfl
    rw [et] at hS2
    refine wpAny_pure ⟨plainId_quiet PyProof.Rows.F.plain_set_update_loop _, ih (i + 1) _ (by omega) hlt (W.frame _ s' _ _ hst' (Nat.le_succ _) fun b hb o e => ?_) hS2 fun s'' hm'' hS'' => ?_⟩
    · rw [hsb.2 b (fun h : b = a => hSf (by rw [← h]; exact hb))]; exact e
    · refine hR s'' (Moved.trans W.gtrans ((hm.mono hsub).then_heap (Nat.le_succ _) fun b o hb e => ?_) hm'') hS''
      rw [hsb.2 b (fun h : b = a => hb (by rw [h]; exact List.mem_cons_self))]; exact e
end
end Pdl
namespace Pdl
open PySem PySem.Spec L2 PyProof.Rows
section
variable {P : Program} {w : World} {A : Around} {E : Value → Shared → Prop} {s : Shared}
abbrev freshSet (w : World) : Obj := { cls := .type "set", dict := none, data := .set #[] 0 (.fresh 0 0 (!w.params.followText "set-order")) }
/-- set(x), by what its update does -/
theorem call_set_by {x : Value} {ks : List Key} {Q : Value → Shared → Prop}
    (hup : ∀ {A' : Around} {R : Unit → Shared → Prop}, A'.handled = A.handled → (∀ s', (∀ b o, s.heap.get? b = some o → s'.heap.get? b = some o) → s'.gens = s.gens → s'.drawn = s.drawn → s'.os = s.os → SetQ w s'.heap s.heap.objs.size ks → R () s') →
      wpAny (model P w) A' (Builtin.Frozenset.updateFrom "set.__init__" s.heap.objs.size x) R E { s with heap := s.heap.push (freshSet w) })
    (h : ∀ (h' : Heap) (tk : Nat), SetQ w h' s.heap.objs.size ks → (∀ b o, s.heap.get? b = some o → h'.get? b = some o) → Q (.ref s.heap.objs.size) { s with heap := h', toks := tk }) :
    wpAny (model P w) A (call (.type "set") [x]) Q E s := by
  obtain ⟨c, tl, hmro⟩ := PySem.F.called_set.mro
  have hmade := PySem.F.called_set.made
  have hsub := PySem.F.called_set.sub
  refine wpAny_call (codeAny_of_tree ?_)
  show wpAny _ _ (callAny (.type "set") _) _ _ _
  refine wpAny_pure ⟨Code.quiet_builtin _ (by decide +kernel), codeAny_builtin PySem.F.entry_type_call ?_⟩
  rw [Around.under_plain (weight_type_call_type "set" [x] []) rfl]
  have h1 := PySem.F.called_set.notType
  have h2 := PySem.F.called_set.canCreate
  have hct := PySem.F.typeCall_set_1 x
  repeat (any_goals (first | assumption | wp_step))
  refine codeAny_mono (code_set_led1 x (E := E) (Q₁ := fun obj s₁ => obj = .ref s.heap.objs.size ∧ s₁ = { s with heap := s.heap.push (freshSet w) }) ⟨rfl, rfl⟩) fun r s₁ hr => ?_
  cases r with
  | error e => exact hr
  | ok fl =>
    cases fl with
    | ret obj =>
      obtain ⟨rfl, rfl⟩ := hr
      have hS : (s.heap.push (freshSet w)).get? s.heap.objs.size = some (freshSet w) := Heap.get?_push_size _ rfl
      have hT : Shared.TypeIs { s with heap := s.heap.push (freshSet w) } (.ref s.heap.objs.size) "set" := ⟨_, hS, rfl⟩
      have hli := PySem.F.called_set.init.lookup
      have hbi := PySem.F.called_set.init.bind (.ref s.heap.objs.size)
      repeat (any_goals (first | assumption | wp_step))
      refine codeAny_mono (codeAny_call_builtin (R := wants (fun r s₂ => r = .none ∧ ∃ h' tk, s₂ = { s with heap := h', toks := tk } ∧ SetQ w h' s.heap.objs.size ks ∧ (∀ b o, s.heap.get? b = some o → h'.get? b = some o)) E) PySem.F.called_set.init.plain PySem.F.entry_set_init (check_set_init_1 hT ?_)) fun r₂ s₂ hr₂ => ?_
      · unfold Builtin.«set.__init__» noKeywords
        generalize hPI : Builtin.Frozenset.updateFrom = PI
        wp_walk
        subst hPI
        refine hup ?_ fun s' hk hg hd ho hq => ?_
        · simp
        · obtain ⟨h', g', d', tk', os'⟩ := s'
          obtain rfl : g' = s.gens := hg
          obtain rfl : d' = s.drawn := hd
          obtain rfl : os' = s.os := ho
          show wpAny _ _ (ret Value.none) _ _ _
          exact wpAny_pure ⟨rfl, h', tk', rfl, hq, hk⟩
      · cases r₂ with
        | error e => exact hr₂
        | ok fl₂ =>
          cases fl₂ with
          | ret r =>
            obtain ⟨rfl, h', tk, rfl, hS', hk'⟩ := hr₂
            repeat (any_goals (first | assumption | wp_step))
            exact h _ _ hS' hk'
          | _ => exact hr₂.elim
    | _ => exact hr.elim
end
end Pdl
namespace Pdl
open PySem PySem.Spec L2 PyProof.Rows
section
variable {P : Program} {w : World} {A : Around} {E : Value → Shared → Prop} {s : Shared}
/-- the loop, behind the iterator -/
theorem setQ_run {A : Around} {I : Addr} {fp wr : List Addr} {n : Nat} {Pv : Nat → Value → Prop} {St : Nat → Heap → Prop} {s0 s2 : Shared} {ks : List Key} {R : Unit → Shared → Prop} {E : Value → Shared → Prop}
    (W : Walks P w A.in1 I fp wr n Pv St) (hn : n = ks.length) (hfew : ks.length + 1 < scanBound) (hval : ∀ i v, Pv i v → ∃ k, ks[i]? = some k ∧ keyIs k v = true) (hst : St 0 s2.heap) (hf : s0.heap.objs.size ∉ fp) (hwr : ∀ b o, s0.heap.get? b = some o → b ∉ wr)
    (hq : SetQ w s2.heap s0.heap.objs.size []) (hk0 : ∀ b o, s0.heap.get? b = some o → s2.heap.get? b = some o) (hg : s2.gens = s0.gens) (hd : s2.drawn = s0.drawn) (ho : s2.os = s0.os)
    (hR : ∀ s', (∀ b o, s0.heap.get? b = some o → s'.heap.get? b = some o) → s'.gens = s0.gens → s'.drawn = s0.drawn → s'.os = s0.os → SetQ w s'.heap s0.heap.objs.size ks → R () s') :
    wpAny (model P w) A (runValue (.builtin "set.update.loop" ⟨[.ref s0.heap.objs.size, .ref I], []⟩) >>= fun _ => pure ()) R E s2 := by
  refine wpAny_bind (wpAny_runValue ?_)
  refine setQ_loop W.toS s0.heap.objs.size hf ks hn hfew hval (n - 0) 0 s2 rfl (Nat.zero_le _) hst (by rw [List.take_zero]; exact hq) fun s' hm hS' => ?_
  refine wpAny_pure (hR s' (fun b o e => hm.heap b o ?_ (hk0 b o e)) (hm.gens.trans hg) (hm.drawn.trans hd) (hm.os.trans ho) hS')
  intro hb
  rcases List.mem_cons.mp hb with z | z
  · exact absurd (Heap.lt_size e) (by rw [z]; exact Nat.lt_irrefl _)
  · exact hwr b o e z
theorem up_list {l : Addr} {items : Array Value} {ks : List Key} (hh : A.handled = none) (hl : s.heap.IsList l items) (hv : ∀ (i : Nat) (v : Value), items[i]? = some v → ∃ k, ks[i]? = some k ∧ keyIs k v = true) (hz : items.size = ks.length) (hfew : ks.length + 1 < scanBound)
    {A' : Around} {R : Unit → Shared → Prop} (hA : A'.handled = A.handled)
    (hR : ∀ s', (∀ b o, s.heap.get? b = some o → s'.heap.get? b = some o) → s'.gens = s.gens → s'.drawn = s.drawn → s'.os = s.os → SetQ w s'.heap s.heap.objs.size ks → R () s') :
    wpAny (model P w) A' (Builtin.Frozenset.updateFrom "set.__init__" s.heap.objs.size (.ref l)) R E { s with heap := s.heap.push (freshSet w) } := by
  obtain ⟨ol, hol, hcl, nl, hdl⟩ := hl
  obtain ⟨ocls, odict, odata, oslots⟩ := ol
  simp only at hcl hdl
  subst hcl; subst hdl
  have hol' : (s.heap.push (freshSet w)).get? l = some { cls := .type "list", dict := odict, data := .seq items nl, slots := oslots } := Heap.get?_push_of_some _ hol
  have hsls := PySem.F.sub_list_set
  have hslf := PySem.F.sub_list_frozenset
  have hne : (Value.type "list" == Value.type "dict") = false := by decide
  have hl1 : (s.heap.push (freshSet w)).IsList l items := ⟨_, hol', rfl, nl, rfl⟩
  have hlS : l < s.heap.objs.size := Heap.lt_size hol
  have hz1 : (s.heap.push (freshSet w)).objs.size = s.heap.objs.size + 1 := Heap.size_push ..
  unfold Builtin.Frozenset.updateFrom
  generalize hPI : pyIter = PI
  generalize hRV : runValue = RV
  wp_walk
  subst hPI
  subst hRV
  refine wpAny_pyIter_list hl1 ?_
  refine setQ_run (s0 := s) (Walks.list (by simp [hA, hh]) (s.heap.push (freshSet w)).objs.size l (by rw [hz1]; exact Nat.ne_of_lt (Nat.lt_succ_of_lt hlS)) items) hz hfew hv ⟨⟨_, Heap.get?_push_size _ rfl, rfl, rfl⟩, hl1.push _⟩ ?_ ?_ ?_ ?_ rfl rfl rfl hR
  · rw [hz1]; simp only [List.mem_cons, List.not_mem_nil, or_false, not_or]
    exact ⟨Nat.ne_of_lt (Nat.lt_succ_self _), Nat.ne_of_gt hlS⟩
  · intro b o e hb
    have hb' : b = s.heap.objs.size + 1 := (List.mem_singleton.mp hb).trans hz1
    exact absurd (Heap.lt_size e) (by rw [hb']; exact Nat.not_lt_of_le (Nat.le_succ _))
  · exact setQ_fresh (Heap.get?_push_of_some _ (Heap.get?_push_size _ rfl))
  · exact fun b o e => Heap.get?_push_of_some _ (Heap.get?_push_of_some _ e)
theorem up_tuple {l : Addr} {items : Array Value} {ks : List Key} (hh : A.handled = none) (hl : s.heap.IsTuple l items) (hv : ∀ (i : Nat) (v : Value), items[i]? = some v → ∃ k, ks[i]? = some k ∧ keyIs k v = true) (hz : items.size = ks.length) (hfew : ks.length + 1 < scanBound)
    {A' : Around} {R : Unit → Shared → Prop} (hA : A'.handled = A.handled)
    (hR : ∀ s', (∀ b o, s.heap.get? b = some o → s'.heap.get? b = some o) → s'.gens = s.gens → s'.drawn = s.drawn → s'.os = s.os → SetQ w s'.heap s.heap.objs.size ks → R () s') :
    wpAny (model P w) A' (Builtin.Frozenset.updateFrom "set.__init__" s.heap.objs.size (.ref l)) R E { s with heap := s.heap.push (freshSet w) } := by
  obtain ⟨ol, hol, hcl, nl, hdl⟩ := hl
  obtain ⟨ocls, odict, odata, oslots⟩ := ol
  simp only at hcl hdl
  subst hcl; subst hdl
  have hol' : (s.heap.push (freshSet w)).get? l = some { cls := .type "tuple", dict := odict, data := .seq items nl, slots := oslots } := Heap.get?_push_of_some _ hol
  have hsls := PySem.F.sub_tuple_set
  have hslf := PySem.F.sub_tuple_frozenset
  have hne : (Value.type "tuple" == Value.type "dict") = false := by decide
  have hl1 : (s.heap.push (freshSet w)).IsTuple l items := ⟨_, hol', rfl, nl, rfl⟩
  have hlS : l < s.heap.objs.size := Heap.lt_size hol
  have hz1 : (s.heap.push (freshSet w)).objs.size = s.heap.objs.size + 1 := Heap.size_push ..
  unfold Builtin.Frozenset.updateFrom
  generalize hPI : pyIter = PI
  generalize hRV : runValue = RV
  wp_walk
  subst hPI
  subst hRV
  refine wpAny_pyIter_tuple hl1 ?_
  refine setQ_run (s0 := s) (Walks.tuple (by simp [hA, hh]) (s.heap.push (freshSet w)).objs.size l (by rw [hz1]; exact Nat.ne_of_lt (Nat.lt_succ_of_lt hlS)) items) hz hfew hv ⟨⟨_, Heap.get?_push_size _ rfl, rfl, rfl⟩, hl1.push _⟩ ?_ ?_ ?_ ?_ rfl rfl rfl hR
  · rw [hz1]; simp only [List.mem_cons, List.not_mem_nil, or_false, not_or]
    exact ⟨Nat.ne_of_lt (Nat.lt_succ_self _), Nat.ne_of_gt hlS⟩
  · intro b o e hb
    have hb' : b = s.heap.objs.size + 1 := (List.mem_singleton.mp hb).trans hz1
    exact absurd (Heap.lt_size e) (by rw [hb']; exact Nat.not_lt_of_le (Nat.le_succ _))
  · exact setQ_fresh (Heap.get?_push_of_some _ (Heap.get?_push_size _ rfl))
  · exact fun b o e => Heap.get?_push_of_some _ (Heap.get?_push_of_some _ e)
theorem up_str {x : Str} {t : Tok} {ks : List Key} (hh : A.handled = none) (hks : ks = x.cps.toList.map fun c => Sum.inr (S [c])) (hfew : ks.length + 1 < scanBound)
    {A' : Around} {R : Unit → Shared → Prop} (hA : A'.handled = A.handled)
    (hR : ∀ s', (∀ b o, s.heap.get? b = some o → s'.heap.get? b = some o) → s'.gens = s.gens → s'.drawn = s.drawn → s'.os = s.os → SetQ w s'.heap s.heap.objs.size ks → R () s') :
    wpAny (model P w) A' (Builtin.Frozenset.updateFrom "set.__init__" s.heap.objs.size (.str x t)) R E { s with heap := s.heap.push (freshSet w) } := by
  have hne : (Value.type "str" == Value.type "dict") = false := by decide
  have hz1 : (s.heap.push (freshSet w)).objs.size = s.heap.objs.size + 1 := Heap.size_push ..
  unfold Builtin.Frozenset.updateFrom
  refine wpAny_bind (L2.Fz.anySet ?_)
  generalize hPI : pyIter = PI
  generalize hRV : runValue = RV
  wp_walk
  subst hPI
  subst hRV
  refine wpAny_pyIter_str fun o St W st => ?_
  refine setQ_run (s0 := s) (W _ (by simp [hA, hh])) (by rw [hks]; simp) hfew (fun i v ⟨c, u, hc, hv⟩ => ?_) st ?_ ?_ ?_ ?_ rfl rfl rfl hR
  · refine ⟨Sum.inr (S [c]), ?_, by rw [hv]; exact keyIs_str _ _⟩
    rw [hks, List.getElem?_map, Array.getElem?_toList, hc]
    rfl
  · rw [hz1]; simp only [List.mem_cons, List.not_mem_nil, or_false]
    exact Nat.ne_of_lt (Nat.lt_succ_self _)
  · intro b o e hb
    have hb' : b = s.heap.objs.size + 1 := (List.mem_singleton.mp hb).trans hz1
    exact absurd (Heap.lt_size e) (by rw [hb']; exact Nat.not_lt_of_le (Nat.le_succ _))
  · exact setQ_fresh (Heap.get?_push_of_some _ (Heap.get?_push_size _ rfl))
  · exact fun b o e => Heap.get?_push_of_some _ (Heap.get?_push_of_some _ e)
end
end Pdl
namespace Pdl
open PySem PySem.Spec L2 PyProof.Rows PySem.W
mutual
theorem reads_lt {h : Heap} : ∀ {v : Value} {d : PyData} {as : List Addr}, Reads h v d as → ∀ a ∈ as, a < h.objs.size
  | _, _, _, .none => fun _ h => nomatch h
  | _, _, _, .bool _ => fun _ h => nomatch h
  | _, _, _, .int _ _ => fun _ h => nomatch h
  | _, _, _, .str _ _ => fun _ h => nomatch h
  | _, _, _, .list h1 _ _ r => fun b hb => by
    rcases List.mem_cons.mp hb with z | z
    · rw [z]; exact Heap.lt_size h1
    · exact readsAll_lt r b z
  | _, _, _, .tuple _ _ _ r => fun b hb => readsAll_lt r b hb
  | _, _, _, .dict h1 _ _ r r' => fun b hb => by
    rcases List.mem_append.mp hb with z | z
    · rcases List.mem_cons.mp z with z | z
      · rw [z]; exact Heap.lt_size h1
      · exact readsAll_lt r b z
    · exact readsAll_lt r' b z
theorem readsAll_lt {h : Heap} : ∀ {v : List Value} {d : List PyData} {as : List Addr}, ReadsAll h v d as → ∀ a ∈ as, a < h.objs.size
  | _, _, _, .nil => fun _ h => nomatch h
  | _, _, _, .cons r1 r2 => fun b hb => by
    rcases List.mem_append.mp hb with z | z
    · exact reads_lt r1 b z
    · exact readsAll_lt r2 b z
end
section
variable {P : Program} {w : World} {A : Around} {E : Value → Shared → Prop} {s : Shared} {β : Type} {R : Value → β → Prop} {enc : β → PyData}
/-- sorted(x), by what x yields -/
theorem sorted_by {x : Value} {Q : Value → Shared → Prop}
    (hc : wpAny (model P w) A.in1 (collect x) (fun vs s1 => ∃ bs : List β, EachIs R vs bs ∧ EachIs (fun v b => ∃ as, Reads s1.heap v (enc b) as) vs bs ∧ AllAlike (bs.map enc) ∧ Sortable (bs.map enc) ∧ bs.length ≤ sizeLine ∧ (∀ b, b ∈ bs → A.in1.units + 1 + (enc b).depth < cLine) ∧
      ∀ h' p (out : List Value) (c : Nat), (∀ b o, s1.heap.get? b = some o → h'.get? b = some o) → s1.heap.objs.size ≤ p → h'.get? p = some (seqObj "list" out.toArray c) → EachIs R out (bs.mergeSort (dataLe false enc)) → Q (.ref p) { s1 with heap := h' }) E s) :
    wpAny (model P w) A (call (.builtin "sorted") [x]) Q E s := by
  refine Calls.call_function_entry kind_sorted plain_sorted entry_sorted (args_sorted1 _) ?_
  unfold Builtin.«sorted»
  refine wpAny_bind (m := checkCount "sorted" 1 1 _) (wpAny_pure ?_)
  refine wpAny_bind (wpAny_mono hc (fun vs s1 hq => ?_) fun _ _ z => z)
  obtain ⟨bs, e, er, hal, hk, hL, hu, hQ⟩ := hq
  refine wpAny_bind (wpAny_newList ?_ (by rw [e.length]; exact hL))
  have hoL : (s1.heap.push (seqObj "list" vs.toArray 0)).get? s1.heap.objs.size = some (seqObj "list" vs.toArray 0) := Heap.get?_push_size _ rfl
  refine wpAny_bind (wpAny_holding (list_sort_data (s := { s1 with heap := s1.heap.push (seqObj "list" vs.toArray 0) }) hoL e (er.mono fun v b ⟨as, r⟩ => ⟨as, Reads.keeps (fun _ _ q => Heap.get?_push_of_some _ q) r, fun hm => absurd (reads_lt r _ hm) (Nat.lt_irrefl _)⟩) hal hk hL hu fun out hlen hout => ?_))
  obtain ⟨c, hc'⟩ := sortedHeap_at (vs := vs) (out := out.toArray) hoL
  refine wpAny_pure ⟨_, rfl, hQ _ s1.heap.objs.size out c (fun b u q => ?_) (Nat.le_refl _) hc' hout⟩
  have hlt := Heap.lt_size q
  rw [sortedHeap_old (Nat.ne_of_lt hlt) (by rw [size_push']; exact Nat.lt_succ_of_lt hlt)]
  exact Heap.get?_push_of_some _ q
end
end Pdl
namespace Pdl
open PySem PySem.Spec L2 PyProof.Rows PySem.W
theorem toPyL_map : ∀ ds : List D, toPyL ds = ds.map toPy
  | [] => rfl
  | d :: ds => by show toPy d :: toPyL ds = _; rw [toPyL_map ds]; rfl
theorem isPyL_all : ∀ ds : List D, isPyL ds = ds.all isPy
  | [] => rfl
  | d :: ds => by show (isPy d && isPyL ds) = _; rw [isPyL_all ds]; rfl
theorem RpA.mem {K : PySem.W.Frag} {G : Hp} : ∀ {vs : List V} {ds : List D}, RpA K G vs ds → ∀ p ∈ vs.zip ds, Rp K G p.1 p.2
  | _, _, .nil => fun p hp => nomatch hp
  | _, _, .cons h t => fun p hp => by
    rcases List.mem_cons.mp hp with z | z
    · rw [z]; exact h
    · exact RpA.mem t p z
theorem rpA_of {K : PySem.W.Frag} {G : Hp} : ∀ (ps : List (V × D)), (∀ p ∈ ps, Rp K G p.1 p.2) → RpA K G (ps.map (·.1)) (ps.map (·.2))
  | [], _ => .nil
  | p :: ps, h => .cons (h p List.mem_cons_self) (rpA_of ps fun q hq => h q (List.mem_cons_of_mem _ hq))
theorem each_vals : ∀ {vs : List Value} {ps : List (V × D)}, EachIs (fun v (b : V × D) => RelV b.1 v) vs ps → Vals (ps.map (·.1)) vs
  | _, _, .nil => .nil
  | _, _, .cons h t => .cons h (each_vals t)
theorem vals_each : ∀ {vs : List Value} {ws : List V} {ds : List D}, Vals ws vs → ws.length = ds.length → EachIs (fun v (b : V × D) => RelV b.1 v) vs (ws.zip ds)
  | _, _, [], .nil, _ => .nil
  | _, _, d :: ds, .cons h t, e => .cons h (vals_each t (by simpa using e))
theorem zip_enc : ∀ {ws : List V} {ds : List D}, ws.length = ds.length → (ws.zip ds).map (fun b => toPy b.2) = toPyL ds
  | [], [], _ => rfl
  | w :: ws, d :: ds, e => by
    show toPy d :: (ws.zip ds).map (fun b => toPy b.2) = toPy d :: toPyL ds
    rw [zip_enc (by simpa using e)]
theorem zip_snd : ∀ {ws : List V} {ds : List D}, ws.length = ds.length → (ws.zip ds).map (·.2) = ds
  | [], [], _ => rfl
  | w :: ws, d :: ds, e => by
    show d :: (ws.zip ds).map (·.2) = d :: ds
    rw [zip_snd (by simpa using e)]
/-- what may be sorted -/
structure SortOk (ds : List D) : Prop where
  py : isPyL ds = true
  alike : AllAlike (toPyL ds)
  able : Sortable (toPyL ds)
  deep : ∀ d ∈ ds, (toPy d).depth ≤ 50
  len : ds.length ≤ 100000
def srtD (ds : List D) : List D := ds.mergeSort (dataLe false toPy)
section
variable {X : Cx} {μ : Md} {Γ : En} {Q : QE} {pins : List (Addr × Obj)} {σ : L2.St} {H : Hp} {s : Shared}
/-- behind the collecting -/
theorem sorted_end {ws : List V} {ds : List D} {m : Addr → Bool} {q : VK} {vs : List Value} {s1 : Shared} (I1 : Inv X pins σ H s1) (hu : X.A.units + 64 < cLine) (ok : SortOk ds) (hm : ∀ a, m a = true → ∃ o, H a = some o ∧ nT o = true) (r : RpA X.K (hid m H) ws ds) (rv : Vals ws vs)
    (k : ∀ v H', Sub H H' → Rp X.K (hid m H') v (.lst (srtD ds)) → q v H') :
    ∃ bs : List (V × D), EachIs (fun v b => RelV b.1 v) vs bs ∧ EachIs (fun v b => ∃ as, Reads s1.heap v (toPy b.2) as) vs bs ∧ AllAlike (bs.map fun b => toPy b.2) ∧ Sortable (bs.map fun b => toPy b.2) ∧ bs.length ≤ sizeLine ∧ (∀ b, b ∈ bs → X.A.in1.units + 1 + (toPy b.2).depth < cLine) ∧
      ∀ h' p (out : List Value) (c : Nat), (∀ b o, s1.heap.get? b = some o → h'.get? b = some o) → s1.heap.objs.size ≤ p → h'.get? p = some (seqObj "list" out.toArray c) → EachIs (fun v b => RelV b.1 v) out (bs.mergeSort (dataLe false fun b => toPy b.2)) → EP X pins σ q (.ref p) { s1 with heap := h' } := by
  have hl := r.length
  have hlen : (ws.zip ds).length = ds.length := by rw [List.length_zip, hl, Nat.min_self]
  obtain ⟨as, hr⟩ := Dp.readsAll I1 (toPyL ds) ws vs ((r.mono (hid_sub m H)).dp ok.py) rv
  have hz := zip_enc hl
  refine ⟨ws.zip ds, vals_each rv hl, readsAll_each (fun b : V × D => toPy b.2) (by rw [hz]; exact hr), by rw [hz]; exact ok.alike, by rw [hz]; exact ok.able, by rw [hlen]; exact Nat.le_trans ok.len (by decide), fun b hb => ?_, fun h' p out c hk hp ho he => ?_⟩
  · have hd := ok.deep b.2 (by rw [← zip_snd hl]; exact List.mem_map_of_mem hb)
    show X.A.units + 1 + 1 + _ < _
    omega
  · have hps : ∀ b ∈ (ws.zip ds).mergeSort (dataLe false fun b => toPy b.2), Rp X.K (hid m H) b.1 b.2 := fun b hb => r.mem b ((List.mergeSort_perm _ _).mem_iff.mp hb)
    have hvals := each_vals he
    have hszL : ((ws.zip ds).mergeSort (dataLe false fun b => toPy b.2)).length ≤ 100000 := by rw [List.length_mergeSort, hlen]; exact ok.len
    have hfr : H p = none := I1.hok.fresh hp
    have es2 : ((ws.zip ds).mergeSort (dataLe false fun b => toPy b.2)).map (·.2) = srtD ds := by
      have z := sort_maps (r := dataLe false fun b : V × D => toPy b.2) (s := dataLe false toPy) (fun b : V × D => b.2) (l := ws.zip ds) (fun _ _ _ _ => rfl)
      rw [zip_snd hl] at z
      exact z
    have hr2 := rpA_of _ hps
    rw [es2] at hr2
    refine ⟨.ref p, upd H p (.lst (((ws.zip ds).mergeSort (dataLe false fun b => toPy b.2)).map (·.1))), I1.laid (t' := s1.toks) hk hp ⟨by rw [List.length_map]; exact Nat.le_trans hszL (by decide), out, c, hvals, ho⟩, rfl, k _ _ (sub_upd hfr) (.lst (.of (hid_upd (fresh_m hm hfr))) (hr2.mono (sub_hid (sub_upd hfr))))⟩
theorem cd_sorted {d : D} {ds : List D} (hc : X.calm = true) (hu : X.A.units + 64 < cLine) (hi : Items d ds) (ok : SortOk ds) : CallD X (.builtin "sorted") [d] (.lst (srtD ds)) := fun pins s σ H vs us q I rv ⟨m, hm, h1, k⟩ => by
  obtain ⟨v, rfl, r⟩ := h1.one
  obtain ⟨u, rfl, ru⟩ := rv.one
  refine sorted_by (R := fun v (b : V × D) => RelV b.1 v) (enc := fun b => toPy b.2) ?_
  cases r with
  | lst s1 r1 =>
    have hi : ds = _ := hi
    subst hi
    cases ru
    obtain ⟨its, rw', ⟨o, n, ho, hcl, _, hd⟩, hz⟩ := I.list ((hid_sub m H).sqL s1)
    refine wpAny_collect_seq _ (.inl rfl) ho hcl hd (fun h' hk => ?_) (by rw [List.size_toArray, ← rw'.length]; exact hz)
    exact sorted_end (I.kept (t' := s.toks) hk) hu ok hm r1 (by simpa using rw') k
  | tup s1 r1 =>
    have hi : ds = _ := hi
    subst hi
    cases ru
    obtain ⟨its, rw', ⟨o, ho, hcl, n, hd⟩, hz⟩ := I.tuple ((hid_sub m H).sqT s1.sq)
    refine wpAny_collect_seq _ (.inr rfl) ho hcl hd (fun h' hk => ?_) (by rw [List.size_toArray, ← rw'.length]; exact hz)
    exact sorted_end (I.kept (t' := s.toks) hk) hu ok hm r1 (by simpa using rw') k
  | str z =>
    obtain ⟨t, rfl⟩ := ru
    have hi : ds = z.cps.toList.map fun c => .str (S [c]) := hi
    subst hi
    have hz : z.cps.size ≤ 100000 := by have := ok.len; simpa using this
    refine wpAny_collect_str (A := X.A.in1) (I.ok.hd hc) z t (fun s' acc hk hg hd ho hit => ?_) (Nat.le_trans hz (by decide))
    obtain ⟨h', g', d', tk', os'⟩ := s'
    obtain rfl : g' = s.gens := hg
    obtain rfl : d' = s.drawn := hd
    obtain rfl : os' = s.os := ho
    have hws : RpA X.K (hid m H) (z.cps.toList.map fun c => V.str (S [c])) (z.cps.toList.map fun c => D.str (S [c])) := by
      generalize z.cps.toList = l
      induction l with
      | nil => exact .nil
      | cons c l ih => exact .cons (.str _) ih
    refine sorted_end (I.kept (t' := tk') hk) hu ok hm hws ?_ k
    have hsz : acc.size = z.cps.size := hit.1
    have hat : ∀ i v, acc[i]? = some v → SignAt z i v := hit.2
    have gen : ∀ (l : List Nat) (as : List Value) (j : Nat), as.length = l.length → (∀ (i : Nat) (v : Value), as[i]? = some v → ∃ c u, l[i]? = some c ∧ v = Value.str ⟨#[c]⟩ u) → Vals (l.map fun c => V.str (S [c])) as := by
      intro l
      induction l with
      | nil => intro as j hl _; cases as with | nil => exact .nil | cons _ _ => simp at hl
      | cons c l ih =>
        intro as j hl ha
        cases as with
        | nil => simp at hl
        | cons a as =>
          obtain ⟨c', u, hc', hv⟩ := ha 0 a rfl
          cases hc'
          exact .cons ⟨u, hv⟩ (ih as j (by simpa using hl) fun i v hi => ha (i + 1) v (by simpa using hi))
    refine gen z.cps.toList acc.toList 0 (by simp [hsz]) fun i v hi => ?_
    obtain ⟨c, u, hc', hv⟩ := hat i v (by rw [← Array.getElem?_toList]; exact hi)
    exact ⟨c, u, by rw [Array.getElem?_toList]; exact hc', hv⟩
  | non => exact hi.elim
  | bl _ => exact hi.elim
  | int _ => exact hi.elim
  | ty _ => exact hi.elim
  | ref _ => exact hi.elim
  | dct _ _ => exact hi.elim
  | ins _ _ => exact hi.elim
  | exc0 _ => exact hi.elim
  | exc1 _ _ _ => exact hi.elim
  | set _ => exact hi.elim
  | dcT _ _ => exact hi.elim
  | dcL _ _ => exact hi.elim
  | dctL _ _ => exact hi.elim
  | tupx s1 r1 =>
    have hi : ds = _ := hi
    subst hi
    cases ru
    obtain ⟨its, rw', ⟨o, ho, hcl, n, hd⟩, hz⟩ := I.tuple ((hid_sub m H).sqT s1)
    refine wpAny_collect_seq _ (.inr rfl) ho hcl hd (fun h' hk => ?_) (by rw [List.size_toArray, ← rw'.length]; exact hz)
    exact sorted_end (I.kept (t' := s.toks) hk) hu ok hm r1 (by simpa using rw') k
end
end Pdl
namespace Pdl
open PySem PySem.Spec L2 PyProof.Rows PySem.W
def leL (a b : List Nat) : Bool := decide (a ≤ b)
theorem leL_trans (a b c : List Nat) (h1 : leL a b = true) (h2 : leL b c = true) : leL a c = true := by
  simp only [leL, decide_eq_true_eq] at *
  exact List.le_trans h1 h2
theorem leL_total (a b : List Nat) : (leL a b || leL b a) = true := by
  simp only [leL, Bool.or_eq_true, decide_eq_true_eq]
  exact List.le_total a b
theorem leL_anti {a b : List Nat} (h1 : leL a b = true) (h2 : leL b a = true) : a = b := by
  simp only [leL, decide_eq_true_eq] at *
  exact List.le_antisymm h1 h2
def srt (ls : List (List Nat)) : List (List Nat) := ls.mergeSort leL
theorem srt_perm (ls : List (List Nat)) : (srt ls).Perm ls := List.mergeSort_perm _ _
theorem srt_sorted (ls : List (List Nat)) : (srt ls).Pairwise (fun a b => leL a b = true) := List.pairwise_mergeSort leL_trans leL_total ls
theorem sorted_eq {l m : List (List Nat)} (h1 : l.Pairwise (fun a b => leL a b = true)) (h2 : m.Pairwise (fun a b => leL a b = true)) (p : l.Perm m) : l = m :=
  List.Perm.eq_of_pairwise (fun a b _ _ x y => leL_anti x y) h1 h2 p
theorem srt_eq {l m : List (List Nat)} (h1 : m.Pairwise (fun a b => leL a b = true)) (p : m.Perm l) : srt l = m := sorted_eq (srt_sorted l) h1 ((srt_perm l).trans p.symm)
theorem nodup_ed {α : Type} [BEq α] [LawfulBEq α] : ∀ (n : Nat) (l : List α), l.length ≤ n → l.eraseDups.Nodup
  | _, [], _ => by simp
  | 0, a :: l, h => by simp at h
  | n + 1, a :: l, h => by
    rw [List.eraseDups_cons, List.nodup_cons]
    refine ⟨fun hm => ?_, nodup_ed n _ (Nat.le_trans (List.length_filter_le _ _) (by simpa using h))⟩
    rw [List.mem_eraseDups, List.mem_filter] at hm
    simp at hm
theorem ed_nodup {α : Type} [BEq α] [LawfulBEq α] (l : List α) : l.eraseDups.Nodup := nodup_ed l.length l (Nat.le_refl _)
/-- the unlike ones, in order -/
def usL (ls : List (List Nat)) : List (List Nat) := srt ls.eraseDups
theorem mem_usL {ls : List (List Nat)} {x : List Nat} : x ∈ usL ls ↔ x ∈ ls := by
  unfold usL
  rw [(srt_perm _).mem_iff, List.mem_eraseDups]
theorem usL_nodup (ls : List (List Nat)) : (usL ls).Nodup := (srt_perm _).nodup_iff.mpr (ed_nodup _)
theorem usL_eq {ls m : List (List Nat)} (h1 : m.Pairwise (fun a b => leL a b = true)) (h2 : m.Nodup) (h3 : ∀ x, x ∈ m ↔ x ∈ ls) : usL ls = m := by
  refine srt_eq h1 ((List.perm_ext_iff_of_nodup h2 (ed_nodup _)).mpr fun x => ?_)
  rw [h3, List.mem_eraseDups]
theorem dataLe_S (k : List Nat → Str) (hk : ∀ l, (k l).cps.toList = l) : dataLe false (fun l => PyData.str (k l)) = leL := by
  rw [dataLe_str]
  funext a b
  rw [hk, hk]
  rfl
theorem srtD_SL (ls : List (List Nat)) : srtD (SL ls) = SL (srt ls) := by
  unfold srtD SL srt
  have z := sort_maps (r := leL) (s := dataLe false toPy) (fun l : List Nat => D.str (S l)) (l := ls) (fun a _ b _ => by
    have e := congrFun (congrFun (dataLe_S S S_cps) a) b
    rw [← e]
    rfl)
  exact z.symm
theorem SL_alike (ls : List (List Nat)) : AllAlike (toPyL (SL ls)) := by
  rw [toPyL_map]
  unfold SL
  rw [List.map_map]
  exact AllAlike.of (enc := fun l : List Nat => PyData.str (S l)) fun b b' => rfl
theorem SL_sortable (ls : List (List Nat)) : Sortable (toPyL (SL ls)) := by
  rw [toPyL_map]
  unfold SL
  rw [List.map_map]
  exact Sortable.others (enc := fun l : List Nat => PyData.str (S l)) fun b => ⟨fun h => (nomatch h), fun xs h => (nomatch h)⟩
theorem SL_py : ∀ (ls : List (List Nat)), isPyL (SL ls) = true
  | [] => rfl
  | l :: ls => by
    show (true && isPyL (SL ls)) = true
    rw [SL_py ls]
    rfl
theorem SL_sortOk {ls : List (List Nat)} (h : ls.length ≤ 100000) : SortOk (SL ls) := ⟨SL_py ls, SL_alike ls, SL_sortable ls, fun d hd => by
  obtain ⟨l, _, rfl⟩ := List.mem_map.mp hd
  exact Nat.zero_le _, by rw [SL_len]; exact h⟩
section
variable {X : Cx}
/-- sorted of texts -/
theorem cd_sortedS {d : D} {ls : List (List Nat)} (hc : X.calm = true) (hu : X.A.units + 64 < cLine) (hi : Items d (SL ls)) (hl : ls.length ≤ 100000) : CallD X (.builtin "sorted") [d] (.lst (SL (srt ls))) := by
  have h := cd_sorted hc hu hi (SL_sortOk hl)
  rw [srtD_SL] at h
  exact h
/-- set of texts -/
def kL (ls : List (List Nat)) : List Key := ls.map fun l => Sum.inr (S l)
theorem setE_ok {P : Program} {w : World} {H : Hp} {h : Heap} {a : Addr} {L : List Key} (q : SetQ w h a L) : ObjOk P w H h a (SetE w a L) := by
  obtain ⟨o, es, ep, t, ho, r⟩ := id q
  exact ⟨q, ⟨o, ho⟩, fun h1 h2 q1 k => q1.at k⟩
theorem set_end {L : List Key} {pins : List (Addr × Obj)} {σ : L2.St} {H : Hp} {s : Shared} {m : Addr → Bool} {q : VK} (I : Inv X pins σ H s) (hm : ∀ a, m a = true → ∃ o, H a = some o ∧ nT o = true) (k : ∀ v H', Sub H H' → Rp X.K (hid m H') v (.set X.w L) → q v H')
    {h' : Heap} {tk : Nat} (hq : SetQ X.w h' s.heap.objs.size L) (hk : ∀ b o, s.heap.get? b = some o → h'.get? b = some o) : EP X pins σ q (.ref s.heap.objs.size) { s with heap := h', toks := tk } := by
  have hfr : H s.heap.objs.size = none := I.hok.fresh (Nat.le_refl _)
  exact ⟨.ref s.heap.objs.size, upd H s.heap.objs.size (SetE X.w s.heap.objs.size L), I.laid hk (Nat.le_refl _) (setE_ok hq), rfl, k _ _ (sub_upd hfr) (.set (hid_upd (fresh_m hm hfr)))⟩
theorem cd_set {d : D} {ls : List (List Nat)} (hc : X.calm = true) (hi : Items d (SL ls)) (hl : ls.length ≤ 4000) : CallD X (.type "set") [d] (.set X.w (kL ls)) := fun pins s σ H vs us q I rv ⟨m, hm, h1, k⟩ => by
  obtain ⟨v, rfl, r⟩ := h1.one
  obtain ⟨u, rfl, ru⟩ := rv.one
  have hfew : (kL ls).length + 1 < scanBound := by
    unfold kL scanBound
    rw [List.length_map]
    omega
  have ats : ∀ {its : List Value}, Vals ((ls.map S).map V.str) its → ∀ (i : Nat) (v : Value), its.toArray[i]? = some v → ∃ kk, (kL ls)[i]? = some kk ∧ keyIs kk v = true := fun {its} rw' i v hv => by
    have hv' : its[i]? = some v := by simpa using hv
    have hi' : i < its.length := (List.getElem?_eq_some_iff.mp hv').1
    have hlen := rw'.length
    simp only [List.length_map] at hlen
    have hli : i < ls.length := by omega
    obtain ⟨u, hu, ru⟩ := rw'.get (i := i) (x := V.str (S ls[i])) (by simp [hli])
    rw [hv'] at hu
    cases hu
    obtain ⟨t, rfl⟩ := ru
    exact ⟨Sum.inr (S ls[i]), by simp [kL, hli], keyIs_str _ _⟩
  cases r with
  | lst s1 r1 =>
    have hi : SL ls = _ := hi
    rw [← hi, SL_strs] at r1
    rw [r1.of_strs] at s1
    cases ru
    obtain ⟨its, rw', pl, hz⟩ := I.list ((hid_sub m H).sqL s1)
    exact call_set_by (ks := kL ls) (fun hA hR => up_list (I.ok.hd hc) pl.isList (ats rw') (by have := rw'.length; simp only [List.length_map] at this; simp [kL, this]) hfew hA hR) fun h' tk hq hk => set_end I hm k hq hk
  | tup s1 r1 =>
    have hi : SL ls = _ := hi
    rw [← hi, SL_strs] at r1
    rw [r1.of_strs] at s1
    cases ru
    obtain ⟨its, rw', pl, hz⟩ := I.tuple ((hid_sub m H).sqT s1.sq)
    exact call_set_by (ks := kL ls) (fun hA hR => up_tuple (I.ok.hd hc) (show s.heap.IsTuple _ its.toArray from pl) (ats rw') (by have := rw'.length; simp only [List.length_map] at this; simp [kL, this]) hfew hA hR) fun h' tk hq hk => set_end I hm k hq hk
  | str z =>
    obtain ⟨t, rfl⟩ := ru
    have hi : SL ls = z.cps.toList.map fun c => .str (S [c]) := hi
    have hks : kL ls = z.cps.toList.map fun c => Sum.inr (S [c]) := by
      have e := congrArg (List.map fun d : D => match d with | .str x => (Sum.inr x : Key) | _ => Sum.inl 0) hi
      unfold SL at e
      rw [List.map_map, List.map_map] at e
      exact e
    exact call_set_by (ks := kL ls) (fun hA hR => up_str (I.ok.hd hc) hks hfew hA hR) fun h' tk hq hk => set_end I hm k hq hk
  | non => exact hi.elim
  | bl _ => exact hi.elim
  | int _ => exact hi.elim
  | ty _ => exact hi.elim
  | ref _ => exact hi.elim
  | dct _ _ => exact hi.elim
  | ins _ _ => exact hi.elim
  | exc0 _ => exact hi.elim
  | exc1 _ _ _ => exact hi.elim
  | set _ => exact hi.elim
  | dcT _ _ => exact hi.elim
  | dcL _ _ => exact hi.elim
  | dctL _ _ => exact hi.elim
  | tupx s1 r1 =>
    have hi : SL ls = _ := hi
    rw [← hi, SL_strs] at r1
    rw [r1.of_strs] at s1
    cases ru
    obtain ⟨its, rw', pl, hz⟩ := I.tuple ((hid_sub m H).sqT s1)
    exact call_set_by (ks := kL ls) (fun hA hR => up_tuple (I.ok.hd hc) (show s.heap.IsTuple _ its.toArray from pl) (ats rw') (by have := rw'.length; simp only [List.length_map] at this; simp [kL, this]) hfew hA hR) fun h' tk hq hk => set_end I hm k hq hk
theorem perm_keys {ls : List (List Nat)} {ks : List Key} (h : ∀ k, k ∈ kL ls ↔ k ∈ ks) : ∃ ms : List (List Nat), ks = kL ms ∧ ∀ x, x ∈ ms ↔ x ∈ ls := by
  have h1 : ∀ k ∈ ks, ∃ l ∈ ls, k = Sum.inr (S l) := fun k hk => by
    obtain ⟨l, hl, e⟩ := List.mem_map.mp ((h k).mpr hk)
    exact ⟨l, hl, e.symm⟩
  have ex : ∃ ms : List (List Nat), ks = kL ms := by
    clear h
    induction ks with
    | nil => exact ⟨[], rfl⟩
    | cons k ks ih =>
      obtain ⟨ms, e⟩ := ih fun q hq => h1 q (List.mem_cons_of_mem _ hq)
      obtain ⟨l, _, rfl⟩ := h1 k List.mem_cons_self
      exact ⟨l :: ms, by rw [e]; rfl⟩
  obtain ⟨ms, rfl⟩ := ex
  refine ⟨ms, rfl, fun x => ?_⟩
  have mem : ∀ (l : List (List Nat)), Sum.inr (S x) ∈ kL l ↔ x ∈ l := fun l => by
    unfold kL
    rw [List.mem_map]
    exact ⟨fun ⟨y, hy, e⟩ => S_inj (Sum.inr.inj e) ▸ hy, fun hx => ⟨x, hx, rfl⟩⟩
  rw [← mem ms, ← mem ls, h]
theorem kL_nodup {ms : List (List Nat)} (h : (kL ms).Nodup) : ms.Nodup := List.Pairwise.of_map (fun l => (Sum.inr (S l) : Key)) (fun _ _ hne e => hne (by rw [e])) h
theorem vals_keys : ∀ {vs : List Value} {ms : List (List Nat)}, (∀ v ∈ vs, keyIs (kOf (0, v)) v = true) → vs.map (fun v => kOf (0, v)) = kL ms → Vals ((ms.map S).map V.str) vs
  | [], [], _, _ => .nil
  | [], _ :: _, _, e => by cases e
  | _ :: _, [], _, e => by cases e
  | v :: vs, m :: ms, h, e => by
    have e' : kOf (0, v) :: vs.map (fun v => kOf (0, v)) = Sum.inr (S m) :: kL ms := e
    injection e' with e1 e2
    have hv := h v List.mem_cons_self
    rw [e1] at hv
    obtain ⟨t, rfl⟩ := Value.isStrOf_shape (x := S m) (v := v) hv
    exact .cons ⟨t, rfl⟩ (vals_keys (fun u hu => h u (List.mem_cons_of_mem _ hu)) e2)
theorem cd_sorted_set {ls : List (List Nat)} (hc : X.calm = true) (hu : X.A.units + 64 < cLine) (hl : ls.length ≤ 4000) : CallD X (.builtin "sorted") [.set X.w (kL ls)] (.lst (SL (usL ls))) := fun pins s σ H vs us q I rv ⟨m, hm, h1, k⟩ => by
  obtain ⟨v, rfl, r⟩ := h1.one
  obtain ⟨u, rfl, ru⟩ := rv.one
  cases r with
  | set ha =>
    cases ru
    obtain ⟨hq, _⟩ := I.hok _ _ (hid_sub m H _ _ ha)
    obtain ⟨o, es, ep, t, ho, hex, hd, g, nd, hmem, hz, hf, hr, hled⟩ := id hq
    have hb : es.size < scanBound := by
      unfold scanBound
      have : (kL ls).length = ls.length := by simp [kL]
      omega
    refine sorted_by (R := fun v (b : V × D) => RelV b.1 v) (enc := fun b => toPy b.2) ?_
    refine collect_set (A := X.A.in1) (I.ok.hd hc) ⟨o, ho, hex.1, hd⟩ hf hb hr hled fun s1 out k1 hz1 g1 o1 pm => ?_
    have I1 : Inv X pins σ H s1 := I.call' (ch := []) o1 (Un.kept k1) (I.hok.kept k1) (by rw [g1]; exact I.bare) (fun b z => nomatch z)
    have pk : (out.map fun v => kOf (0, v)).Perm (es.toList.map kOf) := by
      have z := pm.map fun v => kOf (0, v)
      rw [List.map_map] at z
      exact z
    obtain ⟨ms, ems, hms⟩ := perm_keys (ls := ls) (ks := out.map fun v => kOf (0, v)) fun kk => by rw [hmem, pk.mem_iff]
    have hnd : ms.Nodup := kL_nodup (by rw [← ems]; exact pk.nodup_iff.mpr nd)
    have hvs : Vals ((ms.map S).map V.str) out := vals_keys (fun v hv => by
      obtain ⟨e, he, rfl⟩ := List.mem_map.mp (pm.mem_iff.mp hv)
      exact (g e he).1) ems
    have hle : ms.length ≤ 4096 := by
      have e1 := congrArg List.length ems
      rw [List.length_map] at e1
      have e2 : (kL ms).length = ms.length := by simp [kL]
      have e3 : out.length = es.size := by rw [pm.length_eq, List.length_map, Array.length_toList]
      unfold scanBound at hb
      omega
    have er : srtD (SL ms) = SL (usL ls) := by
      rw [srtD_SL, usL_eq (ls := ls) (srt_sorted ms) ((srt_perm ms).nodup_iff.mpr hnd) fun x => by rw [(srt_perm ms).mem_iff, hms]]
    refine sorted_end I1 hu (SL_sortOk (ls := ms) (by omega)) hm (by rw [SL_strs]; exact RpA.strs _) hvs ?_
    rw [er]
    exact k
end
end Pdl
namespace Pdl
open PySem PySem.Spec L2 PyProof.Rows PySem.W
section
variable {P : Program} {w : World} {A : Around} {E : Value → Shared → Prop} {s : Shared}
theorem rcLt_str {x y : Str} {t u : Tok} {Q : Value → Shared → Prop} (h : Q (.bool (decide (x.cps.toList < y.cps.toList))) s) : wpAny (model P w) A (richCompare .Lt (.str x t) (.str y u)) Q E s :=
  richCompare_gives (op := .Lt) (typeIs_str s _ t) (typeIs_str s _ u) PySem.F.slot_str_lt PySem.F.entry_str_lt (PySem.F.args_str_lt_2 _ _) (gives_str_lt _ _ t u) (fun x => nomatch x) h
theorem rcGt_str {x y : Str} {t u : Tok} {Q : Value → Shared → Prop} (h : Q (.bool (decide (y.cps.toList < x.cps.toList))) s) : wpAny (model P w) A (richCompare .Gt (.str x t) (.str y u)) Q E s :=
  richCompare_gives (op := .Gt) (typeIs_str s _ t) (typeIs_str s _ u) PySem.F.slot_str_gt PySem.F.entry_str_gt (PySem.F.args_str_gt_2 _ _) (gives_str_gt _ _ t u) (fun x => nomatch x) h
theorem best1 (bt : Nat → Nat → Bool) : argBest bt 1 = if bt 1 0 then 1 else 0 := rfl
theorem two_texts {op : CmpOp} {fn : String} {x y : Str} {t u : Tok} {bt : Nat → Nat → Bool} {Q : Value → Shared → Prop} (hh : A.handled = none)
    (hcall : (wpAny (model P w) A.in1 (pyIter (.ref s.heap.objs.size)) (fun it s₂ => ∃ I fp wr n Pv St bt, it = .ref I ∧ Walks P w A.in1 I fp wr n Pv St ∧ St 0 s₂.heap ∧ (∀ b ∈ fp, b < s₂.heap.objs.size) ∧ 0 < n ∧ CmpOf P w A.in1 op Pv bt ∧
      ∀ v h' tk, Pv (argBest bt (n - 1)) v → (∀ b o, b ∉ wr → s₂.heap.get? b = some o → h'.get? b = some o) → Q v { s₂ with heap := h', toks := tk }) E
      { s with heap := s.heap.push { cls := .type "tuple", data := .seq #[.str x t, .str y u] } }) → wpAny (model P w) A (call (.builtin fn) [.str x t, .str y u]) Q E s)
    (hcmp : CmpOf P w A.in1 op (fun i v => #[Value.str x t, Value.str y u][i]? = some v) bt)
    (h : ∀ h' tk, (∀ c o, s.heap.get? c = some o → h'.get? c = some o) → Q (if bt 1 0 then .str y u else .str x t) { s with heap := h', toks := tk }) :
    wpAny (model P w) A (call (.builtin fn) [.str x t, .str y u]) Q E s := by
  have hT : (s.heap.push { cls := .type "tuple", data := .seq #[.str x t, .str y u] }).IsTuple s.heap.objs.size #[.str x t, .str y u] := ⟨_, Heap.get?_push_size _ rfl, rfl, 0, rfl⟩
  refine hcall (wpAny_pyIter_tuple hT ?_)
  have hsz : (s.heap.push { cls := .type "tuple", data := .seq #[.str x t, .str y u] }).objs.size = s.heap.objs.size + 1 := Heap.size_push ..
  refine ⟨_, [_, s.heap.objs.size], [_], _, _, _, bt, rfl, Walks.tuple (A := A.in1) hh _ s.heap.objs.size (by rw [hsz]; exact Nat.ne_of_lt (Nat.lt_succ_self _)) #[.str x t, .str y u],
    ⟨⟨_, Heap.get?_push_size _ rfl, rfl, rfl⟩, hT.push _⟩, fun c hc => ?_, (by show 0 < 2; decide), hcmp, fun v h' tk hP hk => ?_⟩
  · show c < ((s.heap.push _).push _).objs.size
    rw [Heap.size_push, hsz]
    rcases List.mem_cons.mp hc with rfl | hc
    · rw [hsz]; exact Nat.lt_succ_self _
    · rcases List.mem_cons.mp hc with rfl | hc
      · exact Nat.lt_succ_of_lt (Nat.lt_succ_self _)
      · cases hc
  · have hold : ∀ c o, s.heap.get? c = some o → h'.get? c = some o := fun c o e => by
      refine hk c o (fun hm => ?_) (Heap.get?_push_of_some _ (Heap.get?_push_of_some _ e))
      rcases List.mem_cons.mp hm with e1 | hm
      · have := Heap.lt_size e; rw [e1, hsz] at this; exact Nat.lt_irrefl _ (Nat.lt_of_succ_lt this)
      · cases hm
    have hv : v = if bt 1 0 then Value.str y u else Value.str x t := by
      have hP' : #[Value.str x t, Value.str y u][argBest bt 1]? = some v := hP
      rw [best1] at hP'
      cases e : bt 1 0 with
      | true => rw [e] at hP'; exact (Option.some.inj hP').symm
      | false => rw [e] at hP'; exact (Option.some.inj hP').symm
    rw [hv]
    exact h h' tk hold
def txtAt (x y : Str) (i : Nat) : List Nat := if i = 0 then x.cps.toList else y.cps.toList
theorem txt_at {x y : Str} {t u : Tok} {i : Nat} {v : Value} (h : #[Value.str x t, Value.str y u][i]? = some v) : ∃ z k, v = .str z k ∧ z.cps.toList = txtAt x y i := by
  match i, h with
  | 0, h => exact ⟨x, t, (Option.some.inj h).symm, rfl⟩
  | 1, h => exact ⟨y, u, (Option.some.inj h).symm, rfl⟩
  | i + 2, h => simp at h
theorem cmp_lt {x y : Str} {t u : Tok} : CmpOf P w A .Lt (fun i v => #[Value.str x t, Value.str y u][i]? = some v) (fun i j => decide (txtAt x y i < txtAt x y j)) := fun i j vi vj s Q E hi hj h => by
  obtain ⟨z, k, rfl, ez⟩ := txt_at hi
  obtain ⟨z', k', rfl, ez'⟩ := txt_at hj
  exact rcLt_str (by rw [ez, ez']; exact h)
theorem cmp_gt {x y : Str} {t u : Tok} : CmpOf P w A .Gt (fun i v => #[Value.str x t, Value.str y u][i]? = some v) (fun i j => decide (txtAt x y j < txtAt x y i)) := fun i j vi vj s Q E hi hj h => by
  obtain ⟨z, k, rfl, ez⟩ := txt_at hi
  obtain ⟨z', k', rfl, ez'⟩ := txt_at hj
  exact rcGt_str (by rw [ez, ez']; exact h)
end
section
variable {X : Cx}
theorem cd_min2S (hc : X.calm = true) {a b : List Nat} : CallD X (.builtin "min") [.str (S a), .str (S b)] (.str (S (if b < a then b else a))) := fun pins s σ H vs us q I rv ⟨m, hm, h1, k⟩ => by
  obtain ⟨v, v', rfl, r, r'⟩ := h1.two
  cases r; cases r'
  obtain ⟨u, u', rfl, ⟨t, rfl⟩, ⟨t', rfl⟩⟩ := vals2 rv
  refine two_texts (I.ok.hd hc) call_min_two cmp_lt fun h' tk hk => ⟨_, H, I.kept hk, ?_, k _ H (Sub.refl H) (.str _)⟩
  show RelV _ (if decide (b < a) = true then Value.str (S b) t' else Value.str (S a) t)
  by_cases h : b < a
  · rw [if_pos h, decide_eq_true h]; exact ⟨_, rfl⟩
  · rw [if_neg h, decide_eq_false h]; exact ⟨_, rfl⟩
theorem cd_max2S (hc : X.calm = true) {a b : List Nat} : CallD X (.builtin "max") [.str (S a), .str (S b)] (.str (S (if a < b then b else a))) := fun pins s σ H vs us q I rv ⟨m, hm, h1, k⟩ => by
  obtain ⟨v, v', rfl, r, r'⟩ := h1.two
  cases r; cases r'
  obtain ⟨u, u', rfl, ⟨t, rfl⟩, ⟨t', rfl⟩⟩ := vals2 rv
  refine two_texts (I.ok.hd hc) call_max_two cmp_gt fun h' tk hk => ⟨_, H, I.kept hk, ?_, k _ H (Sub.refl H) (.str _)⟩
  show RelV _ (if decide (a < b) = true then Value.str (S b) t' else Value.str (S a) t)
  by_cases h : a < b
  · rw [if_pos h, decide_eq_true h]; exact ⟨_, rfl⟩
  · rw [if_neg h, decide_eq_false h]; exact ⟨_, rfl⟩
end
end Pdl
namespace Pdl
open PySem L2 PyProof.Rows
/-- the same state, shown otherwise -/
def Conv (K : PySem.W.Frag) (μ : Md) (Γ Γ' : En) : Prop := ∀ H σ, Rel K μ H σ Γ → Rel K μ H σ Γ' ∧ Fw Γ.c Γ'.c H H
section
variable {X : Cx} {μ : Md} {Γ Γ' : En} {Q : QE} {a b c e o : Expr} {es : List Expr} {pos apos cpos : Pos} {P P' : Po} {st : Stmt} {sts : List Stmt} {m : Addr → Bool} {H : Hp} {K : PySem.W.Frag}
theorem xb_conv (cv : Conv X.K μ Γ Γ') (h : XB X μ sts Γ' P) : XB X μ sts Γ P := PSs.imp h fun D σ H ⟨R, k1, k2, k3, k4⟩ => by
  obtain ⟨R1, f1⟩ := cv H σ R
  exact ⟨R1, fun σ2 H2 Γ2 f2 R2 z => k1 σ2 H2 Γ2 (f1.trans f2) R2 z, fun v σ2 H2 d Γ2 f2 R2 r z => k2 v σ2 H2 d Γ2 (f1.trans f2) R2 r z, fun σ2 H2 Γ2 f2 R2 z => k3 σ2 H2 Γ2 (f1.trans f2) R2 z, fun σ2 H2 Γ2 f2 R2 z => k4 σ2 H2 Γ2 (f1.trans f2) R2 z⟩
/-- what is to hold behind: shown otherwise -/
theorem XB.post (h : XB X μ sts Γ P') (h1 : ∀ Γ1, P'.nx Γ1 → ∃ Γ2, Conv X.K μ Γ1 Γ2 ∧ P.nx Γ2)
    (h2 : ∀ d Γ1, P'.rt d Γ1 → ∃ Γ2, (∀ H σ v, Rel X.K μ H σ Γ1 → Rp X.K (Vw μ Γ1 H) v d → Rel X.K μ H σ Γ2 ∧ Fw Γ1.c Γ2.c H H ∧ Rp X.K (Vw μ Γ2 H) v d) ∧ P.rt d Γ2)
    (h3 : ∀ Γ1, P'.bk Γ1 → ∃ Γ2, Conv X.K μ Γ1 Γ2 ∧ P.bk Γ2) (h4 : ∀ Γ1, P'.ct Γ1 → ∃ Γ2, Conv X.K μ Γ1 Γ2 ∧ P.ct Γ2) : XB X μ sts Γ P := PSs.imp h fun D σ H ⟨R, k1, k2, k3, k4⟩ => by
  refine ⟨R, fun σ2 H2 Γ2 f2 R2 z => ?_, fun v σ2 H2 d Γ2 f2 R2 r z => ?_, fun σ2 H2 Γ2 f2 R2 z => ?_, fun σ2 H2 Γ2 f2 R2 z => ?_⟩
  · obtain ⟨Γ3, cv, q⟩ := h1 _ z
    obtain ⟨R3, f3⟩ := cv H2 σ2 R2
    exact k1 σ2 H2 Γ3 (f2.trans f3) R3 q
  · obtain ⟨Γ3, cv, q⟩ := h2 _ _ z
    obtain ⟨R3, f3, r3⟩ := cv H2 σ2 v R2 r
    exact k2 v σ2 H2 d Γ3 (f2.trans f3) R3 r3 q
  · obtain ⟨Γ3, cv, q⟩ := h3 _ z
    obtain ⟨R3, f3⟩ := cv H2 σ2 R2
    exact k3 σ2 H2 Γ3 (f2.trans f3) R3 q
  · obtain ⟨Γ3, cv, q⟩ := h4 _ z
    obtain ⟨R3, f3⟩ := cv H2 σ2 R2
    exact k4 σ2 H2 Γ3 (f2.trans f3) R3 q
theorem XB.imp (h : XB X μ sts Γ P') (h1 : ∀ Γ1, P'.nx Γ1 → P.nx Γ1) (h2 : ∀ d Γ1, P'.rt d Γ1 → P.rt d Γ1) (h3 : ∀ Γ1, P'.bk Γ1 → P.bk Γ1) (h4 : ∀ Γ1, P'.ct Γ1 → P.ct Γ1) : XB X μ sts Γ P :=
  h.post (fun Γ1 z => ⟨Γ1, fun H σ R => ⟨R, Fw.refl _ _⟩, h1 _ z⟩) (fun d Γ1 z => ⟨Γ1, fun H σ v R r => ⟨R, Fw.refl _ _, r⟩, h2 _ _ z⟩) (fun Γ1 z => ⟨Γ1, fun H σ R => ⟨R, Fw.refl _ _⟩, h3 _ z⟩) (fun Γ1 z => ⟨Γ1, fun H σ R => ⟨R, Fw.refl _ _⟩, h4 _ z⟩)
/-- another reading of a cell -/
theorem Rel.same {σ : L2.St} {s : List (Option D)} {c1 c2 : Cs} {p : Addr} {cl cl' : Cell} (R : Rel K μ H σ ⟨s, c1 ++ (p, cl) :: c2⟩)
    (h : CellRp K (hid (tot μ.m (c1 ++ (p, cl) :: c2)) H) (H p) cl') : Rel K μ H σ ⟨s, c1 ++ (p, cl') :: c2⟩ := by
  obtain ⟨u, hu⟩ := (cell_get R.co).some
  have e : upd H p u = H := by
    funext a
    by_cases ea : a = p
    · subst ea; rw [upd_same, hu]
    · rw [upd_ne ea]
  have z := (R.put (cl' := cl') (o := u) (by rw [hu] at h; exact h)).1
  rw [e] at z
  exact z
theorem fw_same {s : List (Option D)} {c1 c2 : Cs} {p : Addr} {cl cl' : Cell} : Fw (c1 ++ (p, cl) :: c2) (c1 ++ (p, cl') :: c2) H H := fun a o h e => ⟨e, by rw [inC_swap (cl' := cl)]; exact h⟩
/-- the jar, opened -/
theorem xb_open {s : List (Option D)} {c1 c2 : Cs} {p : Addr} (h : ∀ x y z : Int, 0 ≤ x → 0 ≤ y → 0 ≤ z → XB X μ sts ⟨s, c1 ++ (p, .lst [.int x, .int y, .int z]) :: c2⟩ P) : XB X μ sts ⟨s, c1 ++ (p, .jar) :: c2⟩ P := by
  refine ⟨fun pins s' σ H D I ⟨R, k⟩ => ?_⟩
  obtain ⟨x, y, z, ho, hx, hy, hz⟩ := cell_get R.co
  have R2 : Rel X.K μ H σ ⟨s, c1 ++ (p, .lst [.int x, .int y, .int z]) :: c2⟩ := R.same ⟨_, ho, .cons (.int _) (.cons (.int _) (.cons (.int _) .nil))⟩
  exact (h x y z hx hy hz).run pins s' σ H D I ⟨R2, fun σ2 H2 Γ2 f2 R2 q => k.1 σ2 H2 Γ2 ((fw_same (s := s)).trans f2) R2 q, fun v σ2 H2 d Γ2 f2 R2 r q => k.2.1 v σ2 H2 d Γ2 ((fw_same (s := s)).trans f2) R2 r q, fun σ2 H2 Γ2 f2 R2 q => k.2.2.1 σ2 H2 Γ2 ((fw_same (s := s)).trans f2) R2 q, fun σ2 H2 Γ2 f2 R2 q => k.2.2.2 σ2 H2 Γ2 ((fw_same (s := s)).trans f2) R2 q⟩
/-- .. and closed -/
theorem rel_close {σ : L2.St} {s : List (Option D)} {c1 c2 : Cs} {p : Addr} {x y z : Int} (hx : 0 ≤ x) (hy : 0 ≤ y) (hz : 0 ≤ z) (R : Rel K μ H σ ⟨s, c1 ++ (p, .lst [.int x, .int y, .int z]) :: c2⟩) : Rel K μ H σ ⟨s, c1 ++ (p, .jar) :: c2⟩ := by
  obtain ⟨vs, ho, r⟩ := cell_get R.co
  refine R.same ?_
  rw [show [D.int x, .int y, .int z] = [x, y, z].map D.int from rfl] at r
  rw [r.of_ints] at ho
  exact ⟨x, y, z, ho, hx, hy, hz⟩
/-- a cell becomes data -/
theorem Rel.freeze {σ : L2.St} {s : List (Option D)} {c1 c2 : Cs} {p : Addr} {cl : Cell} (R : Rel K μ H σ ⟨s, c1 ++ (p, cl) :: c2⟩) (h0 : inC μ.c0 p = true ∨ μ.H0 p = none ∨ True) : Rel K μ H σ ⟨s, c1 ++ c2⟩ ∧ Fw (c1 ++ (p, cl) :: c2) (c1 ++ c2) H H ∧ Sub (hid (tot μ.m (c1 ++ (p, cl) :: c2)) H) (hid (tot μ.m (c1 ++ c2)) H) := by
  have f : Fw (c1 ++ (p, cl) :: c2) (c1 ++ c2) H H := fun a o h e => by
    refine ⟨e, ?_⟩
    rw [inC_app, Bool.or_eq_false_iff] at h ⊢
    refine ⟨h.1, ?_⟩
    have := h.2
    simp only [inC, List.any_cons, Bool.or_eq_false_iff] at this
    exact this.2
  have nd := R.co.nd
  refine ⟨⟨⟨R.co.dom, ?_, fun q hq => ?_, fun q hq => ?_⟩, R.slots.mono f.sub, R.fw.trans f⟩, f, f.sub⟩
  · show ((c1 ++ c2).map (·.1)).Nodup
    rw [List.map_append, List.map_cons] at nd
    rw [List.map_append]
    exact nd.sublist ((List.Sublist.refl _).append (List.sublist_cons_self _ _))
  · refine R.co.off q ?_
    rcases List.mem_append.mp hq with h | h
    · exact List.mem_append_left _ h
    · exact List.mem_append_right _ (List.mem_cons_of_mem _ h)
  · refine (R.co.cells q ?_).mono f.sub
    rcases List.mem_append.mp hq with h | h
    · exact List.mem_append_left _ h
    · exact List.mem_append_right _ (List.mem_cons_of_mem _ h)
/-- what a cell shows when it is data -/
def Cell.d : Cell → Option D
  | .lst xs => some (.lst xs)
  | .dct xs => some (.dct xs)
  | .ins C fs => some (.ins C fs)
  | .dcT xs => some (.dcT xs)
  | .dcL xs => some (.dcL xs)
  | .dctL xs => some (.dctL xs)
  | .tupx xs => some (.tupx xs)
  | .jar => none
  | .tbl _ => none
theorem frozen {σ : L2.St} {s : List (Option D)} {c1 c2 : Cs} {p : Addr} {cl : Cell} {d : D} (R : Rel K μ H σ ⟨s, c1 ++ (p, cl) :: c2⟩) (hd : cl.d = some d) : Rp K (hid (tot μ.m (c1 ++ c2)) H) (.ref p) d := by
  have nd := R.co.nd
  have np : tot μ.m (c1 ++ c2) p = false := by
    refine tot_false.mpr ⟨R.co.off (p, cl) (List.mem_append_right _ List.mem_cons_self), ?_⟩
    rw [List.map_append, List.map_cons, List.nodup_append, List.nodup_cons] at nd
    rw [inC_app, Bool.or_eq_false_iff]
    constructor
    · cases e : inC c1 p with
      | false => rfl
      | true =>
        obtain ⟨q, hq, eq⟩ := of_inC e
        exact absurd eq (nd.2.2 q.1 (List.mem_map_of_mem hq) p (by simp))
    · cases e : inC c2 p with
      | false => rfl
      | true =>
        obtain ⟨q, hq, eq⟩ := of_inC e
        refine absurd ?_ nd.2.1.1
        show p ∈ c2.map (·.1)
        rw [← eq]
        exact List.mem_map_of_mem hq
  have sb := (R.freeze (.inr (.inr trivial))).2.2
  have z := (cell_get R.co).mono sb
  cases cl with
  | jar => cases hd
  | tbl q => cases hd
  | lst xs =>
    cases hd
    obtain ⟨vs, ho, r⟩ := z
    exact .lst (.of (hid_some.mpr ⟨np, ho⟩)) r
  | dct xs =>
    cases hd
    obtain ⟨vs, ho, r⟩ := z
    exact .dct (hid_some.mpr ⟨np, ho⟩) r
  | ins C fs =>
    cases hd
    obtain ⟨dx, vs, ho, r⟩ := z
    exact .ins (hid_some.mpr ⟨np, ho⟩) r
  | dcT xs =>
    cases hd
    obtain ⟨vs, ho, r⟩ := z
    exact .dcT (hid_some.mpr ⟨np, ho⟩) r
  | dcL xs =>
    cases hd
    obtain ⟨ob, vs, ho, r⟩ := z
    exact .dcL (hid_some.mpr ⟨np, ho⟩) r
  | dctL xs =>
    cases hd
    obtain ⟨ob, vs, ho, r⟩ := z
    exact .dctL (hid_some.mpr ⟨np, ho⟩) r
  | tupx xs =>
    cases hd
    obtain ⟨ob, vs, ho, _, _, r⟩ := z
    exact .tupx (.inl (.inr ⟨ob, hid_some.mpr ⟨np, ho⟩⟩)) r
theorem conv_freeze {i : Nat} {s : List (Option D)} {c1 c2 : Cs} {p : Addr} {cl : Cell} {d : D} (hi : s[i]? = some (some (.ref p))) (hd : cl.d = some d) : Conv K μ ⟨s, c1 ++ (p, cl) :: c2⟩ ⟨s.set i (some d), c1 ++ c2⟩ := fun H σ R => by
  obtain ⟨R2, f, sb⟩ := R.freeze (.inr (.inr trivial))
  refine ⟨?_, f⟩
  obtain ⟨v, hv, rv⟩ := R2.slots.2 i _ hi
  have e : v = .ref p := by cases rv; rfl
  subst e
  have z := R2.set i (frozen R hd)
  have eσ : σ.set i (some (V.ref p)) = σ := by
    obtain ⟨hl, hv⟩ := List.getElem?_eq_some_iff.mp hv
    rw [← hv]
    exact List.set_getElem_self hl
  rw [eσ] at z
  exact z
/-- a list, a dict of one's own becomes data -/
theorem xb_freeze {i : Nat} {s : List (Option D)} {c1 c2 : Cs} {p : Addr} {cl : Cell} {d : D} (hi : s[i]? = some (some (.ref p))) (hd : cl.d = some d) (h : XB X μ sts ⟨s.set i (some d), c1 ++ c2⟩ P) : XB X μ sts ⟨s, c1 ++ (p, cl) :: c2⟩ P := xb_conv (conv_freeze hi hd) h
/-- a cell forgotten -/
theorem xb_drop {s : List (Option D)} {c1 c2 : Cs} {p : Addr} {cl : Cell} (h : XB X μ sts ⟨s, c1 ++ c2⟩ P) : XB X μ sts ⟨s, c1 ++ (p, cl) :: c2⟩ P := xb_conv (fun H σ R => let z := R.freeze (.inr (.inr trivial)); ⟨z.1, z.2.1⟩) h
def flat : D → Bool
  | .non => true
  | .bl _ => true
  | .int _ => true
  | .str _ => true
  | _ => false
theorem Rp.flat {G G' : Hp} {v : V} {d : D} (r : Rp K G v d) (h : flat d = true) : Rp K G' v d := by
  cases r with
  | non => exact .non
  | bl b => exact .bl b
  | int i => exact .int i
  | str x => exact .str x
  | _ => cases h
/-- the mode while a cell is lent: all others are hidden -/
abbrev lent (μ : Md) (cs : Cs) : Md := { m := tot μ.m cs, c0 := [], H0 := fun _ => none, E := fun _ _ => False }
theorem rel_lent {i : Nat} {σ : L2.St} {s : List (Option D)} {c1 c2 : Cs} {p : Addr} {cl : Cell} {d : D} (R : Rel K μ H σ ⟨s, c1 ++ (p, cl) :: c2⟩) (hi : s[i]? = some (some (.ref p))) (hd : cl.d = some d) : Rel K (lent μ (c1 ++ c2)) H σ ⟨s.set i (some d), []⟩ := by
  obtain ⟨R2, f⟩ := conv_freeze hi hd H σ R
  refine ⟨⟨fun a h => R2.domT a h, List.nodup_nil, fun p hp => (by cases hp), fun p hp => (by cases hp)⟩, ?_, fun a o h e => (by cases e)⟩
  have e : tot (tot μ.m (c1 ++ c2)) [] = tot μ.m (c1 ++ c2) := by
    funext a
    simp [tot, inC]
  show SlotRp K (hid (tot (tot μ.m (c1 ++ c2)) []) H) σ _
  rw [e]
  exact R2.slots
theorem fw_nil {H H' : Hp} (f : Fw [] [] H H') : Sub H H' := fun a o e => (f a o rfl e).1
theorem xe_lend {i : Nat} {s : List (Option D)} {c1 c2 : Cs} {p : Addr} {cl : Cell} {d : D} (hi : s[i]? = some (some (.ref p))) (hd : cl.d = some d)
    (h : XE X (lent μ (c1 ++ c2)) e ⟨s.set i (some d), []⟩ fun r Γ1 => Γ1.c = [] ∧ flat r = true ∧ Q r ⟨s, c1 ++ (p, cl) :: c2⟩) : XE X μ e ⟨s, c1 ++ (p, cl) :: c2⟩ Q :=
  PE.imp h fun σ H q ⟨R, k⟩ => ⟨rel_lent R hi hd, fun v H1 r Γ1 s1 f1 R1 r1 ⟨hc, hf, hq⟩ => by
    have f1 : Fw [] Γ1.c H H1 := f1
    rw [hc] at f1
    have e := fw_nil f1
    exact k v H1 r _ rfl (Fw.of_sub e) (R.more e) (r1.flat hf) hq⟩
theorem xt_lend {i : Nat} {s : List (Option D)} {c1 c2 : Cs} {p : Addr} {cl : Cell} {d : D} {Q : Bool → En → Prop} (hi : s[i]? = some (some (.ref p))) (hd : cl.d = some d)
    (h : XT X (lent μ (c1 ++ c2)) e ⟨s.set i (some d), []⟩ fun r Γ1 => Γ1.c = [] ∧ Q r ⟨s, c1 ++ (p, cl) :: c2⟩) : XT X μ e ⟨s, c1 ++ (p, cl) :: c2⟩ Q :=
  PT.imp h fun σ H q ⟨R, k⟩ => ⟨rel_lent R hi hd, fun H1 r Γ1 s1 f1 R1 ⟨hc, hq⟩ => by
    have f1 : Fw [] Γ1.c H H1 := f1
    rw [hc] at f1
    have e := fw_nil f1
    exact k H1 r _ rfl (Fw.of_sub e) (R.more e) hq⟩
/-- a new object: the list that e makes becomes a cell -/
theorem xe_own_lst (h : XA X μ es Γ fun xs Γ1 => xs.length ≤ 100000 ∧ ∀ p, Q (.ref p) ⟨Γ1.s, Γ1.c ++ [(p, .lst xs)]⟩) : XE X μ (.List es pos) Γ Q :=
  PE.imp (pe_lst h) fun σ H q ⟨R, k⟩ => ⟨R, fun vs H1 xs Γ1 s1 f1 R1 r1 ⟨hl, hq⟩ => ⟨by rw [r1.length]; exact Nat.le_trans hl (by decide), fun p hp => by
    obtain ⟨R2, f2⟩ := R1.newC (cl := .lst xs) (o := .lst vs) hp ⟨vs, rfl, r1⟩
    exact k _ _ (.ref p) ⟨Γ1.s, Γ1.c ++ [(p, .lst xs)]⟩ s1 (f1.trans f2) R2 (.ref p) (hq p)⟩⟩
/-- x.pop(e), x a cell -/
theorem xe_pop {i : Nat} {xn : Str} {p : Addr} {np : Pos} (hN : X.N[i]? = some xn) (hv : Vis X.env.scope xn) (hx : Γ.s[i]? = some (some (.ref p)))
    (h : XE X μ e Γ fun d Γ1 => ∃ c1 xs c2 j y, Γ1.c = c1 ++ (p, .lst xs) :: c2 ∧ d = .int (j : Nat) ∧ j < 100000 ∧ xs[j]? = some y ∧ Q y ⟨Γ1.s, c1 ++ (p, .lst (xs.eraseIdx j)) :: c2⟩)
    (hc : ∃ c1 xs c2, Γ.c = c1 ++ (p, .lst xs) :: c2)
    (h1 : (xn == ("__debug__" : Str)) = false := by decide) (h2 : (xn == ("__classdict__" : Str)) = false := by decide)
    (hbase : attributeBase (.Name xn np) "pop" X.env (eval (.Name xn np) X.env) = eval (.Name xn np) X.env := by rfl)
    (hfew : ((backTo cpos (starEach [e] X.env)).all (fun x => !x.1) && (backToKw cpos (keywordEach [] X.env)).all (fun x => x.1.isSome) && decide ([e].length + ([] : List Keyword).length + (if ([] : List Keyword).isEmpty then 0 else 1) < 30)) = true := by rfl)
    (hline : (apos.endLine == cpos.line) = true := by rfl) (hs : starEach [e] X.env = (false, eval e X.env) :: starEach [] X.env := by rfl) :
    XE X μ (.Call (.Attribute (.Name xn np) "pop" apos) [e] [] cpos) Γ Q := by
  have hv' : XE X μ (.Name xn np) Γ fun x Γ1 => x = .ref p ∧ Γ1 = Γ := xe_var hN hv hx ⟨rfl, rfl⟩ h1 h2
  refine PE.imp (pe_bm PySem.F.plainAttrs_list PySem.F.slot_list_pop PySem.F.type_list_pop mt_popAt hv' (pa_cons h pa_nil hs) hbase hfew hline hs) fun σ H q ⟨R, k⟩ => ?_
  refine ⟨R, fun v H1 x Γ1 s1 f1 R1 r1 ⟨hx, hG⟩ => ?_⟩
  subst hx; subst hG
  cases r1
  obtain ⟨c1, xs, c2, ec⟩ := hc
  obtain ⟨sl, cc⟩ := Γ1
  have ec : cc = c1 ++ (p, .lst xs) :: c2 := ec
  subst ec
  obtain ⟨vs, hvs, _⟩ := cell_get R1.co
  refine ⟨.inl ⟨rfl, vs, .of hvs⟩, R1, fun w H2 d Γ2 s2 f2 R2 r2 ⟨c1', xs', c2', j, y, ec', hj, hjl, hy, hq⟩ => ?_⟩
  obtain ⟨sl2, cc2⟩ := Γ2
  have ec' : cc2 = c1' ++ (p, .lst xs') :: c2' := ec'
  subst ec'
  subst hj
  cases r2
  obtain ⟨us, hus, ru⟩ := cell_get R2.co
  obtain ⟨u, hu, ry⟩ := ru.got hy
  have hjx : j < us.length := (List.getElem?_eq_some_iff.mp hu).1
  have re : ∀ {us : List V} {xs : List D} (j : Nat), RpA X.K (hid (tot μ.m (c1' ++ (p, .lst xs') :: c2')) H2) us xs → RpA X.K (hid (tot μ.m (c1' ++ (p, .lst xs') :: c2')) H2) (us.eraseIdx j) (xs.eraseIdx j) := by
    intro us xs j r
    rw [List.eraseIdx_eq_take_drop_succ, List.eraseIdx_eq_take_drop_succ]
    exact (r.take j).app (r.drop (j + 1))
  obtain ⟨R3, f3⟩ := R2.put (cl' := .lst (xs'.eraseIdx j)) (o := .lst (us.eraseIdx j)) ⟨_, rfl, re j ru⟩
  have hfr : tot μ.m (c1' ++ (p, .lst xs') :: c2') = tot μ.m (c1' ++ (p, .lst (xs'.eraseIdx j)) :: c2') := tot_swap
  refine ⟨p, us, (j : Int), j, u, rfl, rfl, hus, by omega, by omega, ?_, hu, k _ _ y ⟨sl2, c1' ++ (p, .lst (xs'.eraseIdx j)) :: c2'⟩ (s2.trans s1) ((f1.trans f2).trans f3) R3 (ry.mono f3.sub) hq⟩
  unfold seqIndex?
  have hz : ¬ ((j : Int) < 0) := by omega
  simp only [hz, if_false]
  simp [hjx]
end
end Pdl
namespace Pdl
open PySem L2 PyProof.Rows
section
variable {X : Cx} {μ : Md} {Γ Γ' : En} {Q : QE} {a b c e o : Expr} {es : List Expr} {pos apos cpos : Pos} {P P' : Po} {st : Stmt} {sts : List Stmt} {m : Addr → Bool} {H : Hp} {K : PySem.W.Frag} {x y d : D}
def rCatL (K : PySem.W.Frag) : R2 := fun x y H Q => ∃ l b xs zs, x = .ref l ∧ y = .ref b ∧ SqL K H l xs ∧ SqL K H b zs ∧ xs.length + zs.length ≤ sizeLine ∧ ∀ p, H p = none → Q (.ref p) (upd H p (.lst (xs ++ zs)))
theorem op_catL : OpR X (binaryOp .Add) (rCatL X.K) := by
  intro pins s σ H x y v u Q I rx ry h
  obtain ⟨l, b, xs, zs, rfl, rfl, hH, hB, hz, q⟩ := h
  cases rx
  cases ry
  obtain ⟨its, r, ⟨⟨cls, dd, data, sl⟩, n, ho, hc, hdd, hd⟩, hz1⟩ := I.list hH
  obtain ⟨its2, r2, ⟨⟨cls2, dd2, data2, sl2⟩, n2, ho2, hc2, hdd2, hd2⟩, hz2⟩ := I.list hB
  simp only at hc hd hc2 hd2
  subst hc hd hc2 hd2
  have l1 := r.length
  have l2 := r2.length
  refine concat_meets ⟨_, ho, rfl⟩ ⟨_, ho2, rfl⟩ noFill_list_add seq_list_add PySem.F.slot_list_add PySem.F.entry_list_add (PySem.F.args_list_add_2 _ _) (list_addW l b its.toArray its2.toArray n n2 dd dd2 sl sl2 (by simp only [List.size_toArray]; omega)) ⟨ho, ho2, ?_⟩
  have ea : its.toArray ++ its2.toArray = (its ++ its2).toArray := by simp
  rw [ea]
  exact ⟨.ref _, _, I.lnew (t' := s.toks) (r.append r2) (by rw [List.length_append]; omega), rfl, q _ I.fresh⟩
theorem od_catL {xs ys : List D} (hz : xs.length + ys.length ≤ 100000) : OpD X (binaryOp .Add) (.lst xs) (.lst ys) (.lst (xs ++ ys)) := .of op_catL fun a b H q m hm h1 h2 k => by
  cases h1 with
  | @lst a1 us1 _ s1 r1 =>
    cases h2 with
    | @lst a2 us2 _ s2 r2 =>
      refine ⟨_, _, _, _, rfl, rfl, (hid_sub m H).sqL s1, (hid_sub m H).sqL s2, by rw [r1.length, r2.length]; exact Nat.le_trans hz (by decide), fun p hp => ?_⟩
      have e := sub_upd (o := .lst (us1 ++ us2)) hp
      exact k _ _ e (.lst (.of (hid_upd (fresh_m hm hp))) ((r1.mono (sub_hid e)).app (r2.mono (sub_hid e))))
theorem inV_SL {l : List Nat} : ∀ {ls : List (List Nat)}, inV (.str (S l)) ((ls.map S).map V.str) = decide (l ∈ ls)
  | [] => by simp [inV]
  | k :: ls => by
    have ih := inV_SL (l := l) (ls := ls)
    unfold inV at ih ⊢
    rw [List.map_cons, List.map_cons, List.any_cons, ih]
    have e : eqV (.str (S k)) (.str (S l)) = decide (k = l) := by
      show (decide _ : Bool) = _
      simp [S_eq]
    rw [e]
    by_cases h : k = l
    · subst h; simp
    · have h' : ¬ l = k := fun z => h z.symm
      simp [h, h']
theorem flat_strs (ls : List Str) : (ls.map V.str).all flatV = true := by
  rw [List.all_eq_true]
  intro v hv
  obtain ⟨z, _, rfl⟩ := List.mem_map.mp hv
  rfl
theorem od_inL {l : List Nat} {ls : List (List Nat)} : OpD X (compareOp .In) (.str (S l)) (.lst (SL ls)) (.bl (decide (l ∈ ls))) := .of op_in_seq fun a b H q m hm h1 h2 k => by
  cases h1
  cases h2 with
  | lst s1 r1 =>
    rw [SL_strs] at r1
    rw [r1.of_strs] at s1
    refine ⟨_, _, rfl, .inl ((hid_sub m H).sqL s1), rfl, flat_strs _, ?_⟩
    rw [inV_SL]
    exact k _ H (Sub.refl H) (.bl _)
theorem od_notinL {l : List Nat} {ls : List (List Nat)} : OpD X (compareOp .NotIn) (.str (S l)) (.lst (SL ls)) (.bl (!decide (l ∈ ls))) := .of op_notIn_seq fun a b H q m hm h1 h2 k => by
  cases h1
  cases h2 with
  | lst s1 r1 =>
    rw [SL_strs] at r1
    rw [r1.of_strs] at s1
    refine ⟨_, _, rfl, .inl ((hid_sub m H).sqL s1), rfl, flat_strs _, ?_⟩
    rw [inV_SL]
    exact k _ H (Sub.refl H) (.bl _)
theorem od_inT {l : List Nat} {ls : List (List Nat)} : OpD X (compareOp .In) (.str (S l)) (.tup (SL ls)) (.bl (decide (l ∈ ls))) := .of op_in_seq fun a b H q m hm h1 h2 k => by
  cases h1
  cases h2 with
  | tup s1 r1 =>
    rw [SL_strs] at r1
    rw [r1.of_strs] at s1
    refine ⟨_, _, rfl, .inr ((hid_sub m H).sqT s1.sq), rfl, flat_strs _, ?_⟩
    rw [inV_SL]
    exact k _ H (Sub.refl H) (.bl _)
theorem od_notinT {l : List Nat} {ls : List (List Nat)} : OpD X (compareOp .NotIn) (.str (S l)) (.tup (SL ls)) (.bl (!decide (l ∈ ls))) := .of op_notIn_seq fun a b H q m hm h1 h2 k => by
  cases h1
  cases h2 with
  | tup s1 r1 =>
    rw [SL_strs] at r1
    rw [r1.of_strs] at s1
    refine ⟨_, _, rfl, .inr ((hid_sub m H).sqT s1.sq), rfl, flat_strs _, ?_⟩
    rw [inV_SL]
    exact k _ H (Sub.refl H) (.bl _)
theorem xo_none {Q : Option Int → En → Prop} (h : Q none Γ) : XO X μ none Γ Q := PO.imp po_none fun σ H q ⟨R, k⟩ => k H none Γ rfl (Fw.refl _ _) R h
theorem xo_some {Q : Option Int → En → Prop} (h : XE X μ e Γ fun d Γ1 => ∃ i, d = .int i ∧ Q (some i) Γ1) : XO X μ (some e) Γ Q := PO.imp (po_some h) fun σ H q ⟨R, k⟩ => ⟨R, fun v H1 d Γ1 s1 f1 R1 r1 ⟨i, hd, hq⟩ => by
  subst hd
  cases r1
  exact ⟨i, rfl, k H1 (some i) Γ1 s1 f1 R1 hq⟩⟩
def SlD (X : Cx) (x : D) (lo hi : Option Int) (d : D) : Prop := SlR X fun a l u H q => l = lo ∧ u = hi ∧ ∃ m : Addr → Bool, (∀ a, m a = true → ∃ o, H a = some o ∧ nT o = true) ∧ Rp X.K (hid m H) a x ∧ ∀ v H', Sub H H' → Rp X.K (hid m H') v d → q v H'
def uSl (X : Cx) : V → Option Int → Option Int → Hp → VK → Prop := fun a l u H q => ∃ r, SlR X r ∧ r a l u H q
theorem sl_u : SlR X (uSl X) := fun pins s σ H x v vl vu lo hi sl Q I rx hs pl pu ⟨_, h, q⟩ => h pins s σ H x v vl vu lo hi sl Q I rx hs pl pu q
theorem SlD.of {lo hi : Option Int} {r : V → Option Int → Option Int → Hp → VK → Prop} (h : SlR X r) (i : ∀ a H q m, (∀ a, m a = true → ∃ o, H a = some o ∧ nT o = true) → Rp X.K (hid m H) a x → (∀ v H', Sub H H' → Rp X.K (hid m H') v d → q v H') → r a lo hi H q) : SlD X x lo hi d :=
  fun pins s σ H a v vl vu l u sl Q I rx hs pl pu ⟨e1, e2, m, hm, h1, k⟩ => by
    subst e1; subst e2
    exact h pins s σ H a v vl vu l u sl Q I rx hs pl pu (i a H Q m hm h1 k)
theorem xe_slice {lo hi : Option Expr} {p2 : Pos} (h : XE X μ e Γ fun x Γ1 => XO X μ lo Γ1 fun l Γ2 => XO X μ hi Γ2 fun u Γ3 => ∃ d, SlD X x l u d ∧ Q d Γ3) : XE X μ (.Subscript e (.Slice lo hi none p2) pos) Γ Q :=
  PE.imp (pe_slice sl_u h po_u po_u) fun σ H q ⟨R, k⟩ => ⟨R, fun v H1 x Γ1 s1 f1 R1 r1 hl => ⟨_, hl, R1, fun H2 l Γ2 s2 f2 R2 hu => ⟨_, hu, R2, fun H3 u Γ3 s3 f3 R3 ⟨d, ho, hq⟩ => ⟨_, ho, rfl, rfl, tot μ.m Γ3.c, R3.domT, r1.mono (f2.trans f3).sub, fun z H4 e4 r4 => k z H4 d Γ3 ((s3.trans s2).trans s1) (((f1.trans f2).trans f3).trans (Fw.of_sub e4)) (R3.more e4) r4 hq⟩⟩⟩⟩
def cutD {α : Type} (xs : List α) (lo hi : Option Int) : List α := (xs.drop (HT.sIx xs.length 0 lo)).take (HT.sIx xs.length xs.length hi - HT.sIx xs.length 0 lo)
theorem cutD_to {α : Type} (xs : List α) (k : Nat) : cutD xs none (some (k : Int)) = xs.take k := by
  unfold cutD
  rw [HT.sIx_nat, HT.sIx_none, List.drop_zero, Nat.sub_zero]
  rcases Nat.le_total k xs.length with h | h
  · rw [Nat.min_eq_left h]
  · rw [Nat.min_eq_right h, List.take_of_length_le h, List.take_length]
theorem RpA.cut {G : Hp} {vs : List V} {ds : List D} {lo hi : Option Int} (r : RpA K G vs ds) : RpA K G (cutV vs lo hi) (cutD ds lo hi) := by
  unfold cutV cutD
  rw [r.length]
  exact (r.drop _).take _
theorem sd_lst {xs : List D} {lo hi : Option Int} : SlD X (.lst xs) lo hi (.lst (cutD xs lo hi)) := .of sl_list fun a H q m hm h1 k => by
  cases h1 with
  | @lst a1 us _ s2 r2 =>
    exact ⟨_, _, rfl, (hid_sub m H).sqL s2, fun p hp => k _ _ (sub_upd hp) (.lst (.of (hid_upd (fresh_m hm hp))) (r2.cut.mono (sub_hid (sub_upd hp))))⟩
theorem sd_tup {xs : List D} {lo hi : Option Int} : SlD X (.tup xs) lo hi (.tup (cutD xs lo hi)) := .of sl_tupA fun a H q m hm h1 k => by
  cases h1 with
  | @tup a1 us _ s2 r2 =>
    refine ⟨_, _, rfl, (hid_sub m H).sqT s2.sq, fun hw => ?_, fun _ p hp => k _ _ (sub_upd hp) (.tup (.of (hid_upd (fresh_m hm hp))) (r2.cut.mono (sub_hid (sub_upd hp))))⟩
    have e : cutD xs lo hi = xs := by
      unfold cutD
      rw [r2.length] at hw
      rw [hw.1, hw.2, List.drop_zero, Nat.sub_zero, List.take_length]
    rw [e] at k
    exact k _ H (Sub.refl H) (.tup s2 r2)
theorem rev_pick (l : List Nat) : ((Builtin.Str.strSliceIndices none none (-1) l.length).filterMap (l.toArray[·]?)) = l.reverse := by
  have e : Builtin.Str.strSliceIndices none none (-1) l.length = sliceRange ((l.length : Int) - 1) (-1) (-1) := by
    unfold Builtin.Str.strSliceIndices
    simp
  rw [e, PySem.W.krv_sliceRange, PySem.W.krv_range, List.filterMap_reverse]
  congr 1
  have h := PySem.W.krv_all l.toArray
  simpa using h
def tRevS (te : TE) : TE := fun σ H Q => te σ H fun x H1 => ∃ l : List Nat, x = .str (S l) ∧ l.length ≤ sizeLine ∧ Q (.str (S l.reverse)) H1
theorem pe_revS {te : TE} {k : Nat} {p1 p2 p3 : Pos} (he : PE X e te) : PE X (.Subscript e (.Slice none none (some (.UnaryOp .USub (.Constant (.int 1) k p1) p2)) p3) pos) (tRevS te) := by
  refine ⟨fun pins s σ H Q I h => ?_⟩
  refine Subscript_ (thn (he.run pins s σ H _ I h) fun v s1 ⟨x, H1, I1, r1, q1⟩ => ?_)
  obtain ⟨l, ex, hz, q⟩ := q1
  subst ex
  obtain ⟨t, rfl⟩ := r1
  have hst : PO X (some (.UnaryOp .USub (.Constant (.int 1) k p1) p2)) (tPart (tUn (rU fun i => .int (-i)) (tC (.int 1)))) := po_some (pe_un un_neg pe_int)
  refine wpAny_Slice (thn (po_none.run pins s1 σ H1 (fun o H2 => o = none ∧ H2 = H1) I1 ⟨rfl, rfl⟩) fun vl s2 ⟨l0, H2, I2, pl, el, e2⟩ => ?_)
  subst el e2
  refine thn (po_none.run pins s2 σ H2 (fun o H3 => o = none ∧ H3 = H2) I2 ⟨rfl, rfl⟩) fun vu s3 ⟨u, H3, I3, pu, eu, e3⟩ => ?_
  subst eu e3
  refine thn (hst.run pins s3 σ H3 (fun o H4 => o = some (-1) ∧ H4 = H3) I3 ⟨1, rfl, -1, rfl, rfl, rfl⟩) fun vs s4 ⟨o, H4, I4, ps, eo, e4⟩ => ?_
  subst eo e4
  have I5 : Inv X pins σ H4 { s4 with heap := s4.heap.push { cls := .type "slice", data := .fields #[vl, vu, vs] } } := I4.kept (t' := s4.toks) fun b ob q => Heap.get?_push_of_some _ q
  cases pl
  cases pu
  obtain ⟨sv, tk, rfl⟩ : ∃ sv : Unit, ∃ tk, vs = .int (-1) tk := by
    cases ps with
    | int i t => exact ⟨(), t, rfl⟩
  show wpAny (model X.prog X.w) X.A (subscriptTail e (.Slice none none (some (.UnaryOp .USub (.Constant (.int 1) k p1) p2)) p3) (.str (S l) t) (.ref s4.heap.objs.size)) (EP X pins σ Q) X.xe { s4 with heap := s4.heap.push { cls := .type "slice", data := .fields #[.none, .none, .int (-1) tk] } }
  refine tail_any (ops := [.ref s4.heap.objs.size, .str (S l) t]) (typeIs_str _ _ _) F.slot_str_getitem.lookup ?_ (by with_unfolding_all rfl)
  refine wpAny_getItem_str_slice (l := none) (u := none) (st := some (-1, tk)) ⟨_, Heap.get?_push_size _ rfl, rfl, rfl⟩ (by rfl) ?_
  have e : sliceMade (S l) t none none (some (-1, tk)) = Made.str (S l.reverse) := by
    unfold sliceMade slicePicked
    have h1 : (((some ((-1 : Int), tk)).map (·.1)).getD 1 == 1) = false := by rfl
    rw [h1, Bool.false_and, if_neg Bool.false_ne_true]
    show Made.str ⟨((Builtin.Str.strSliceIndices none none (-1) (S l).length).filterMap (l.toArray[·]?)).toArray⟩ = _
    rw [S_len, rev_pick]
    rfl
  rw [e]
  exact ⟨by rw [S_len, List.length_reverse]; exact hz, .str _, H4, I5.tok _, ⟨_, rfl⟩, q⟩
theorem xe_revS {k : Nat} {p1 p2 p3 : Pos} (h : XE X μ e Γ fun x Γ1 => ∃ l, x = .str (S l) ∧ l.length ≤ 100000 ∧ Q (.str (S l.reverse)) Γ1) : XE X μ (.Subscript e (.Slice none none (some (.UnaryOp .USub (.Constant (.int 1) k p1) p2)) p3) pos) Γ Q :=
  PE.imp (pe_revS h) fun σ H q ⟨R, k⟩ => ⟨R, fun v H1 x Γ1 s1 f1 R1 r1 ⟨l, hx, hl, hq⟩ => by
    subst hx
    cases r1
    exact ⟨l, rfl, Nat.le_trans hl (by decide), k _ H1 _ Γ1 s1 f1 R1 (.str _) hq⟩⟩
def idx (l : List Nat) (c : Nat) : Nat := l.findIdx fun x => x == c
theorem idx_at {l : List Nat} {c : Nat} (h : c ∈ l) : l[idx l c]? = some c := by
  have hl : idx l c < l.length := List.findIdx_lt_length_of_exists ⟨c, h, by simp⟩
  have := List.findIdx_getElem (xs := l) (p := fun x => x == c) (w := hl)
  rw [List.getElem?_eq_getElem hl]
  exact congrArg some (by simp at this; exact this)
theorem idx_lt {l : List Nat} {c i : Nat} (h : i < idx l c) : l[i]? ≠ some c := by
  intro e
  obtain ⟨hl, e⟩ := List.getElem?_eq_some_iff.mp e
  have := List.not_of_lt_findIdx h
  simp [e] at this
theorem occ_full (s sub : Str) (hi : Nat) : ∀ (l : List Nat) (st : Array Nat × Nat), st.fst.size = 1 → (forIn l st (PySem.StrLaws.occBody s sub hi 1)).run.fst = st.fst
  | [], st, h => rfl
  | a :: l, st, h => by
    rw [List.forIn_cons]
    unfold PySem.StrLaws.occBody
    rw [if_neg (fun q => absurd q.1.1.1 (by omega))]
    exact occ_full s sub hi l _ h
theorem occ_first (s sub : Str) (hi j : Nat) (post : List Nat) (hj : j + sub.length ≤ hi ∧ Builtin.Str.subAt s sub j = true) : ∀ (pre : List Nat) (free : Nat), (∀ i ∈ pre ++ j :: post, free ≤ i) → (∀ i ∈ pre, ¬ (i + sub.length ≤ hi ∧ Builtin.Str.subAt s sub i = true)) →
    (forIn (pre ++ j :: post) ((#[] : Array Nat), free) (PySem.StrLaws.occBody s sub hi 1)).run.fst = #[j]
  | [], free, hf, _ => by
    rw [List.nil_append, List.forIn_cons]
    unfold PySem.StrLaws.occBody
    rw [if_pos ⟨⟨⟨by simp, hf j (by simp)⟩, hj.1⟩, hj.2⟩]
    exact occ_full s sub hi post _ (by simp)
  | a :: pre, free, hf, hp => by
    rw [List.cons_append, List.forIn_cons]
    unfold PySem.StrLaws.occBody
    rw [if_neg (fun q => hp a List.mem_cons_self ⟨q.1.2, q.2⟩)]
    exact occ_first s sub hi j post hj pre free (fun i h => hf i (List.mem_cons_of_mem _ h)) (fun i h => hp i (List.mem_cons_of_mem _ h))
theorem occ_sign (l : List Nat) (c : Nat) (h : c ∈ l) : ∃ rest, Builtin.Str.occurrences (S l) (S [c]) 0 (S l).length 1 = idx l c :: rest := by
  have hl : idx l c < l.length := List.findIdx_lt_length_of_exists ⟨c, h, by simp⟩
  have e : List.range' 0 (l.length + 1 - 0) = List.range' 0 (idx l c) ++ idx l c :: List.range' (idx l c + 1) (l.length - idx l c) := by
    have e1 : l.length + 1 - 0 = idx l c + (l.length - idx l c + 1) := by omega
    rw [e1, ← List.range'_append_1, Nat.zero_add, List.range'_succ]
  refine ⟨[], ?_⟩
  rw [PySem.StrLaws.occ_eq, S_len, e, occ_first (S l) (S [c]) l.length (idx l c) _ ?_ _ 0 (fun _ _ => Nat.zero_le _) ?_]
  · have := (PySem.StrLaws.subAt_one (S l) c (idx l c)).mpr (idx_at h)
    rw [S_len] at this
    exact this
  · intro i hi hq
    have hi : i < idx l c := by simpa using hi
    have := (PySem.StrLaws.subAt_one (S l) c i).mp (by rw [S_len]; exact hq)
    exact idx_lt hi this
theorem mt_index1 : MtR X "str.index" (fun x xs H Q => ∃ (l : List Nat) (c : Nat), x = .str (S l) ∧ xs = [.str (S [c])] ∧ c ∈ l ∧ Q (.int (idx l c : Nat)) H) := by
  intro pins s σ H x xs v us Q I rx rs h
  obtain ⟨l, c, rfl, rfl, hc, q⟩ := h
  obtain ⟨t, rfl⟩ := rx
  cases rs with
  | cons r1 rs =>
    cases rs
    obtain ⟨u, rfl⟩ := r1
    obtain ⟨rest, e⟩ := occ_sign l c hc
    exact PySem.SC.index e ⟨.int (idx l c : Nat), H, I.tok _, ⟨_, rfl⟩, q⟩
theorem md_index {l : List Nat} {c : Nat} (h : c ∈ l) : MtD X "str.index" (.str (S l)) [.str (S [c])] (.int (idx l c : Nat)) := .of mt_index1 fun v vs H q m hm h1 h2 k => by
  obtain ⟨u, rfl, r⟩ := h2.one
  cases h1; cases r
  exact ⟨l, c, rfl, rfl, h, k _ H (Sub.refl H) (.int _)⟩
structure OCls (K : PySem.W.Frag) (C : Addr) : Prop where
  c : Cls K C
  ha : PySem.W.findIn K (.ref C) "__class__" = some (some (.builtin "object.__class__"))
  hn : PySem.W.specialIn K (.builtin "object.__class__") "__get__" = some (some (.builtin "getset_descriptor.__get__"))
  htk : PySem.W.takesIn K (.builtin "object.__class__") = some true
  hm : PySem.W.mroIn K C (.type "object") = some true
inductive TyD (K : PySem.W.Frag) : D → Value → Prop
  | non : TyD K .non (.type "NoneType")
  | bl {b : Bool} : TyD K (.bl b) (.type "bool")
  | int {i : Int} : TyD K (.int i) (.type "int")
  | str {z : Str} : TyD K (.str z) (.type "str")
  | lst {xs : List D} : TyD K (.lst xs) (.type "list")
  | tup {xs : List D} : TyD K (.tup xs) (.type "tuple")
  | tupx {xs : List D} : TyD K (.tupx xs) (.type "tuple")
  | dct {xs : List (Key × D)} : TyD K (.dct xs) (.type "dict")
  | ins {C : Addr} {fs : List (Str × D)} (o : OCls K C) : TyD K (.ins C fs) (.ref C)
theorem TyD.tyx {G : Hp} {v : V} {d : D} {t : Value} (h : TyD K d t) (r : Rp K G v d) : TyX K G v t := by
  cases h with
  | non => cases r; exact .base .non
  | bl => cases r; exact .base (.bl _)
  | int => cases r; exact .base (.int _)
  | str => cases r; exact .base (.str _)
  | lst =>
    cases r with
    | lst s r =>
      rcases s with (s | ⟨o, s⟩) | ⟨o, its, n, hk, hc, _⟩
      · exact .base (.lst s)
      · exact .base (.frz s)
      · exact .kList hk hc
  | tup =>
    cases r with
    | tup s r => exact .base (.tup s)
  | tupx =>
    cases r with
    | tupx s r =>
      rcases s with (s | ⟨o, s⟩) | ⟨o, its, n, hk, hc, _⟩
      · exact .base (.tup s)
      · exact .fTuple s
      · exact .kTuple hk hc
  | dct =>
    cases r with
    | dct s r => exact .base (.dK s)
  | ins o =>
    cases r with
    | ins s r => exact .base (.ins s o.c o.ha o.hn o.htk o.hm)
inductive ClD : D → Value → Prop
  | ty {n : String} : ClD (.ty n) (.type n)
  | own {C : Addr} : ClD (.ref C) (.ref C)
theorem cd_isi {t u : Value} {r : Bool} (hx : TyD X.K x t) (hc : ClD y u) (h : PySem.W.kitOne X.K t u = some r) : CallD X (.builtin "isinstance") [x, y] (.bl r) := .of call_isi fun vs H q m hm h1 k => by
  obtain ⟨v, w, rfl, r1, r2⟩ := h1.two
  refine ⟨v, w, t, u, r, rfl, ?_, hx.tyx (r1.mono (hid_sub m H)), h, k _ H (Sub.refl H) (.bl r)⟩
  cases hc <;> cases r2
  · exact .ty _
  · exact .own _
/-- the name of a built-in type -/
theorem xe_ty {xn : Str} {T : String} (hg : Gl X xn) (hm : X.mg xn = none) (hv : bootBuiltins xn = some (.type T)) (h : Q (.ty T) Γ) (hn : xn ≠ "__name__" := by decide) (hd : (xn == ("__debug__" : Str)) = false := by decide) : XE X μ (.Name xn pos) Γ Q :=
  PE.imp (pe_bltn (v := .ty T) hg hm hv rfl hn hd) fun σ H q ⟨R, k⟩ => k _ H _ Γ rfl (Fw.refl _ _) R (.ty T) h
theorem xg_ix {i : Nat} {xn : Str} {p : Addr} {np : Pos} {ix : Expr} {Q : En → Prop} (hN : X.N[i]? = some xn) (hv : Vis X.env.scope xn) (hx : Γ.s[i]? = some (some (.ref p)))
    (h : XE X μ ix Γ fun z Γ1 => ∃ c1 xs c2 k j, Γ1.c = c1 ++ (p, .lst xs) :: c2 ∧ z = .int k ∧ ixN xs.length k = some j ∧ Q ⟨Γ1.s, c1 ++ (p, .lst (xs.set j d)) :: c2⟩)
    (h1 : (xn == ("__debug__" : Str)) = false := by decide) (h2 : (xn == ("__classdict__" : Str)) = false := by decide)
    (ha : ∀ v, assign (.Subscript (.Name xn np) ix pos) X.env v = (do
      let ov ← holding [v] (eval (.Name xn np) X.env)
      let iv ← holding [v, ov] (eval ix X.env)
      standAt pos
      holding [v, ov, iv] (setItem ov iv v)
      release [v, ov, iv] []) := by intro _; rfl) : XG X μ (.Subscript (.Name xn np) ix pos) d Γ Q := by
  have hv' : XE X μ (.Name xn np) Γ fun x Γ1 => x = .ref p ∧ Γ1 = Γ := xe_var hN hv hx ⟨rfl, rfl⟩ h1 h2
  refine PG.imp (pg_sub hv' h set_list ha) fun v σ H q ⟨R, r, k⟩ => ?_
  refine ⟨R, fun w H1 x Γ1 s1 f1 R1 r1 ⟨hx, hG⟩ => ?_⟩
  subst hx; subst hG
  cases r1
  refine ⟨R1, fun z H2 d2 Γ2 s2 f2 R2 r2 ⟨c1, xs, c2, kk, j, ec, hz, hj, hq⟩ => ?_⟩
  obtain ⟨sl2, cc2⟩ := Γ2
  have ec : cc2 = c1 ++ (p, .lst xs) :: c2 := ec
  subst ec
  subst hz
  cases r2
  obtain ⟨us, hus, ru⟩ := cell_get R2.co
  have rd := r.mono ((f1.trans f2).sub (m := μ.m))
  obtain ⟨R3, f3⟩ := R2.put (cl' := .lst (xs.set j d)) (o := .lst (us.set j v)) ⟨_, rfl, ru.set rd j⟩
  exact ⟨p, us, kk, j, rfl, rfl, hus, by rw [ru.length]; exact hj, k _ _ ⟨sl2, c1 ++ (p, .lst (xs.set j d)) :: c2⟩ ((f1.trans f2).trans f3) R3 hq⟩
def putD (kvs : List (Key × D)) (k : Key) (v : D) : List (Key × D) :=
  if (kvs.any fun kv => decide (kv.1 = k)) = true then kvs.map (fun kv => if kv.1 = k then (kv.1, v) else kv) else kvs ++ [(k, v)]
theorem RpK.length {G : Hp} : ∀ {vs : List (Key × V)} {ds : List (Key × D)}, RpK K G vs ds → vs.length = ds.length
  | _, _, .nil => rfl
  | _, _, .cons _ r => by simp [RpK.length r]
theorem RpK.keys {G : Hp} : ∀ {vs : List (Key × V)} {ds : List (Key × D)}, RpK K G vs ds → vs.map (·.1) = ds.map (·.1)
  | _, _, .nil => rfl
  | _, _, .cons _ r => by simp [RpK.keys r]
theorem RpK.app {G : Hp} : ∀ {vs us : List (Key × V)} {ds es : List (Key × D)}, RpK K G vs ds → RpK K G us es → RpK K G (vs ++ us) (ds ++ es)
  | _, _, _, _, .nil, r => r
  | _, _, _, _, .cons h t, r => .cons h (RpK.app t r)
theorem RpK.put {G : Hp} {vs : List (Key × V)} {ds : List (Key × D)} {kk : Key} {v : V} (r : RpK K G vs ds) (rv : Rp K G v d) : RpK K G (putK vs kk v) (putD ds kk d) := by
  have ea : (vs.any fun kv => decide (kv.1 = kk)) = (ds.any fun kv => decide (kv.1 = kk)) := by
    have h1 : (vs.any fun kv => decide (kv.1 = kk)) = (vs.map (·.1)).any fun z => decide (z = kk) := by rw [List.any_map]; rfl
    have h2 : (ds.any fun kv => decide (kv.1 = kk)) = (ds.map (·.1)).any fun z => decide (z = kk) := by rw [List.any_map]; rfl
    rw [h1, h2, r.keys]
  unfold putK putD
  rw [ea]
  split
  · clear ea
    have go : ∀ {vs : List (Key × V)} {ds : List (Key × D)}, RpK K G vs ds → RpK K G (vs.map (fun kv => if kv.1 = kk then (kv.1, v) else kv)) (ds.map (fun kv => if kv.1 = kk then (kv.1, d) else kv)) := by
      intro vs ds r
      induction vs generalizing ds with
      | nil => cases r; exact .nil
      | cons x vs ih =>
        cases r with
        | @cons k0 v0 d0 _ _ h t =>
          rw [List.map_cons, List.map_cons]
          by_cases hk : k0 = kk
          · simp only [hk, if_true]
            exact .cons rv (ih t)
          · simp only [hk, if_false]
            exact .cons h (ih t)
    exact go r
  · exact r.app (.cons rv .nil)
def kD : Key → D
  | .inl i => .int i
  | .inr x => .str x
theorem cd_len_dct {xs : List (Key × D)} : CallD X (.builtin "len") [.dct xs] (.int xs.length) := .of call_lenD fun vs H q m hm h1 k => by
  obtain ⟨v, rfl, r⟩ := h1.one
  cases r with
  | dct s1 r1 => exact ⟨_, _, rfl, hid_sub m H _ _ s1, by rw [r1.length]; exact k _ H (Sub.refl H) (.int _)⟩
end
end Pdl
namespace Pdl
open PySem L2 PyProof.Rows
section
variable {prog : Program} {w : World} {A : Around} {E : Value → Shared → Prop} {s : Shared} {K : PySem.W.Frag} {x C L f : Addr} {h₀ : Heap} {m : Str → Option Value} {ox : Obj} {od : Option Obj} {b tb : Value}
open PySem.W in
theorem ifBound_KB {M : Model} {id : String} {T : String} {name : Str} {args : List Value} {Q : Option Value → Shared → Prop} (X : K.In s.heap) (I : InstAt s.heap x ox C od) (hs : findIn K (.ref C) name = some (some (.builtin id))) (sl : Slot T name id)
    (h : wpAny M A (call (.builtin id) (.ref x :: args)) (fun v => Q (some v)) E s) : wpAny M A (callSpecialIfBound? (.ref x) name args) Q E s := by
  simp only [callSpecialIfBound?, bindSpecialIfBound?]
  refine wpAny_holding (wpAny_bind (wpAny_bind (wpAny_bind (I.type.here ((looks_findIn X hs).here ?_)))))
  simp only [sl.bind]
  refine wpAny_bind (wpAny_askSetting (wpAny_ite ?_))
  have fin : wpAny M A (call (.builtin id) ([.ref x] ++ args) >>= fun v => pure (some v)) Q E s := wpAny_bind (wpAny_mono h (fun v s' h' => wpAny_pure h') fun _ _ h' => h')
  split
  · exact wpAny_bind (wpAny_pure (wpAny_pure fin))
  · exact wpAny_tryCatch (wpAny_bind (wpAny_pure (wpAny_pure fin)))
open PySem.W in
theorem ne_K {Q : Value → Shared → Prop} (hu : A.units + 1 < cLine) (X : K.In s.heap) (I : InstAt s.heap x ox C od) (hb : Looks (model prog w) s.heap (typeOf b) (.ref C))
    (hne : findIn K (.ref C) "__ne__" = some (some (.builtin "object.__ne__"))) (hob : subIn K (.ref C) (.type "object") = some true)
    (hs : findIn K (.ref C) "__eq__" = some (some (.ref f))) (hf : isFn K (.ref f) = true)
    (h : wpAny (model prog w) A.in1 (call (.ref f) [.ref x, b]) (fun v s' => ∃ c, v = .bool c ∧ Q (.bool (!c)) s') E s) : wpAny (model prog w) A (richCompare .NotEq (.ref x) b) Q E s := by
  have hu0 : A.units < cLine := Nat.lt_of_succ_lt hu
  have one : wpAny (model prog w) A (tryCompare (.ref x) "__ne__" b) (fun r s' => ∃ v, r = some v ∧ Q v s') E s := by
    unfold tryCompare
    refine wpAny_bind (ifBound_KB X I hne PySem.F.cmp_object.ne (wpAny_call (codeAny_call_builtin PySem.F.cmp_object.ne.plain F.cmpEntry_ne ?_)))
    refine check_slot F.cmpKind_ne F.cmpSplit_ne (I.type.andThen (looks_subIn X hob)) (F.cmpArgs_ne _ _) ?_
    unfold Builtin.«object.__ne__»
    repeat (first | with_reducible refine wpAny_cRoomFor hu ?_ | with_reducible refine ifBound_K X I hs hf (wpAny_mono h ?_ fun _ _ z => z) | wp_step)
    rintro v s' ⟨c, hv, hq⟩
    subst hv
    repeat (first | with_reducible refine wpAny_pure ?_ | wp_step)
    exact ⟨_, rfl, hq⟩
  unfold richCompare
  simp only [oneThing_ref, cmpInfo_NotEq]
  refine wpAny_holding (wpAny_bind (wpAny_cRoomFor hu0 ?_))
  refine wpAny_bind (I.type.here (wpAny_bind (hb.here ?_)))
  split
  · rename_i q
    simp at q
  · refine wpAny_bind (wpAny_pure ?_)
    simp only [Bool.false_eq_true, if_false]
    refine wpAny_bind (wpAny_mono one (fun r s' z => ?_) fun _ _ e => e)
    obtain ⟨v, rfl, hq⟩ := z
    exact wpAny_pure hq
end
section
variable {X : Cx} {μ : Md} {Γ Γ' : En} {Q : QE} {a b c e o : Expr} {es : List Expr} {pos apos cpos : Pos} {P P' : Po} {st : Stmt} {sts : List Stmt} {m : Addr → Bool} {H : Hp} {K : PySem.W.Frag} {x y d : D}
theorem op_neOwn {k : Nat} {C f : Addr} {fd : FuncData} {ps : List Str} {sp : Sp} {E : XK} (F : FnOk X.prog X.w X.K X.mg X.base CX0 k f fd ps sp) (hne : PySem.W.findIn X.K (.ref C) "__ne__" = some (some (.builtin "object.__ne__"))) (hob : PySem.W.subIn X.K (.ref C) (.type "object") = some true)
    (hs : PySem.W.findIn X.K (.ref C) "__eq__" = some (some (.ref f))) (hf : PySem.W.isFn X.K (.ref f) = true) (hb : Binds X.K fd ps []) (hr : Room (k + 1) X.A) :
    OpR X (compareOp .NotEq) (fun x y H Q => ∃ a b dx dy fs gs, x = .ref a ∧ y = .ref b ∧ H a = some (.ins C dx fs) ∧ H b = some (.ins C dy gs) ∧ sp [.ref a, .ref b] H (fun v H' => ∃ c, v = .bl c ∧ Q (.bl (!c)) H') E) := by
  intro pins s σ H x y u v Q I rx ry ⟨a, b, dx, dy, fs, gs, ex, ey, ha, hb', hsp⟩
  subst ex; subst ey
  cases rx
  cases ry
  obtain ⟨mA, J, _⟩ := ins_get I.hok ha
  obtain ⟨mB, J', _⟩ := ins_get I.hok hb'
  obtain ⟨od, J, _⟩ := J.look
  obtain ⟨od', J', _⟩ := J'.look
  refine ne_K (by have := hr.units; omega) I.kIn J J'.type hne hob hs hf ?_
  have hl := F.len _ _ _ _ hsp
  have r2 : Vals [V.ref a, V.ref b] [Value.ref a, Value.ref b] := .cons rfl (.cons rfl .nil)
  refine wpAny_call (codeAny_mono (F.run X.A.in1 X.stack s H ⟨[.ref a, .ref b], []⟩ [.ref a, .ref b] [.ref a, .ref b] _ E hr.in1 I.env0.in1 (by
    have := hb s [.ref a, .ref b] I.kIn (by simpa using hl)
    simpa using this) r2 hsp) fun r s' hq => ?_)
  cases r with
  | error e => exact hq.elim
  | ok fl =>
    cases fl with
    | ret w =>
      obtain ⟨z, H', I', rz, c, ez, q⟩ := I.after hq
      subst ez
      cases rz
      exact ⟨c, rfl, .bl (!c), H', I', rfl, q⟩
    | next => exact False.elim hq
    | brk => exact False.elim hq
    | cont => exact False.elim hq
/-- the class at C has an own ==, with its promise -/
def EqD (P : Program) (w : World) (K : PySem.W.Frag) (mg : Str → Option Value) (base : Heap) (C : Addr) (k : Nat) (S : PSp) : Prop :=
  ∃ (f : Addr) (fd : FuncData) (ps : List Str), FnOk P w K mg base CX0 k f fd ps (spD K (pS S)) ∧ PySem.W.findIn K (.ref C) "__ne__" = some (some (.builtin "object.__ne__")) ∧ PySem.W.subIn K (.ref C) (.type "object") = some true ∧
    PySem.W.findIn K (.ref C) "__eq__" = some (some (.ref f)) ∧ PySem.W.isFn K (.ref f) = true ∧ Binds K fd ps []
theorem od_neOwn {k : Nat} {C : Addr} {S : PSp} {fs gs : List (Str × D)} {r : Bool} (M : EqD X.prog X.w X.K X.mg X.base C k S) (hr : Room (k + 1) X.A) (h : ∀ Qc : D → Prop, Qc (.bl r) → S [.ins C fs, .ins C gs] Qc) : OpD X (compareOp .NotEq) (.ins C fs) (.ins C gs) (.bl (!r)) := by
  obtain ⟨f, fd, ps, F, hne, hob, hs, hf, hb⟩ := M
  refine .of (op_neOwn (E := fun _ _ _ => False) F hne hob hs hf hb hr) fun a b H q m hm h1 h2 k => ?_
  cases h1 with
  | @ins a1 _ dx fv _ s1 r1 =>
    cases h2 with
    | @ins a2 _ dy gv _ s2 r2 =>
      refine ⟨a1, a2, dx, dy, fv, gv, rfl, rfl, hid_sub m H _ _ s1, hid_sub m H _ _ s2, m, [.ins C fs, .ins C gs], [], ?_, ?_, rfl, h _ fun v H' f co rv => ?_⟩
      · exact ⟨hm, List.nodup_nil, fun p hp => (by cases hp), fun p hp => (by cases hp)⟩
      · have e : tot m [] = m := by funext a; simp [tot, inC]
        rw [e]
        exact .cons (.ins s1 r1) (.cons (.ins s2 r2) .nil)
      · cases rv
        exact ⟨r, rfl, k _ H' (fw_nil f) (.bl _)⟩
def putFD (f : Str) (v : D) : List (Str × D) → List (Str × D)
  | [] => [(f, v)]
  | (g, x) :: r => if g = f then (g, v) :: r else (g, x) :: putFD f v r
theorem RpF.put {G : Hp} {f : Str} {v : V} (rv : Rp K G v d) : ∀ {fs : List (Str × V)} {ds : List (Str × D)}, RpF K G fs ds → RpF K G (putF f v fs) (putFD f d ds)
  | _, _, .nil => .cons rv .nil
  | _, _, .cons (k := k) h t => by
    unfold putF putFD
    by_cases hk : k = f
    · simp only [hk, if_true]
      exact .cons rv t
    · simp only [hk, if_false]
      exact .cons h (RpF.put rv t)
/-- self.f = e, self an object that is being made -/
theorem xs_fld {i : Nat} {xn f : Str} {p C : Addr} {np pos' : Pos} (cl : Cls X.K C) (na : NoAttr X.K C f) (hN : X.N[i]? = some xn) (hv : Vis X.env.scope xn) (hx : Γ.s[i]? = some (some (.ref p)))
    (h : XE X μ e Γ fun d Γ1 => ∃ c1 fs c2, Γ1.c = c1 ++ (p, .ins C fs) :: c2 ∧ fs.length < 1000 ∧ P.nx ⟨Γ1.s, c1 ++ (p, .ins C (putFD f d fs)) :: c2⟩)
    (h1 : (xn == ("__debug__" : Str)) = false := by decide) (h2 : (xn == ("__classdict__" : Str)) = false := by decide)
    (hs : swapsWith e (some (.Attribute (.Name xn np) f pos')) pos.line X.env = pure false := by rfl) : XS X μ (.Assign [.Attribute (.Name xn np) f pos'] e pos) Γ P := by
  refine PS.imp (ps_fld (pe_var hN hv h1 h2) h hs) fun D σ H ⟨R, k, _⟩ => ?_
  refine ⟨R, fun w H1 d Γ1 s1 f1 R1 r1 ⟨c1, fs, c2, ec, hl, hq⟩ => ?_⟩
  obtain ⟨sl, cc⟩ := Γ1
  have ec : cc = c1 ++ (p, .ins C fs) :: c2 := ec
  subst ec
  have s1 : sl = Γ.s := s1
  obtain ⟨v, hv, rv⟩ := R1.slots.2 i (.ref p) (by show sl[i]? = _; rw [s1]; exact hx)
  cases rv
  obtain ⟨dx, us, hus, ru⟩ := cell_get R1.co
  obtain ⟨R3, f3⟩ := R1.put (cl' := .ins C (putFD f d fs)) (o := .ins C dx (putF f w us)) ⟨dx, _, rfl, ru.put r1⟩
  exact ⟨_, hv, p, C, dx, us, rfl, hus, cl, na, by rw [ru.length]; exact hl, k σ _ ⟨sl, c1 ++ (p, .ins C (putFD f d fs)) :: c2⟩ (f1.trans f3) R3 hq⟩
/-- o.f -/
theorem xe_fld {f : Str} (h : XE X μ o Γ fun z Γ1 => ∃ C fs d, z = .ins C fs ∧ Cls X.K C ∧ NoAttr X.K C f ∧ fs.lookup f = some d ∧ Q d Γ1) (hb : attributeBase o f X.env (eval o X.env) = eval o X.env := by rfl) : XE X μ (.Attribute o f pos) Γ Q :=
  PE.imp (pe_fld h hb) fun σ H q ⟨R, k⟩ => ⟨R, fun v H1 z Γ1 s1 f1 R1 r1 ⟨C, fs, d, hz, cl, na, hl, hq⟩ => by
    subst hz
    cases r1 with
    | ins g1 g2 =>
      obtain ⟨u, hu, ru⟩ := (RpF.lookup g2).1 d hl
      exact ⟨_, C, _, _, u, rfl, hid_sub _ _ _ _ g1, cl, na, hu, k u H1 d Γ1 s1 f1 R1 ru hq⟩⟩
/-- a property -/
def PropD (P : Program) (w : World) (K : PySem.W.Frag) (mg : Str → Option Value) (base : Heap) (C : Addr) (f : Str) (k : Nat) (S : SpD) : Prop :=
  ∃ (p g : Addr) (fd : FuncData) (ps : List Str), Cls K C ∧ PropOf K C f p g ∧ FnOk P w K mg base CX0 k g fd ps (spD K S) ∧ Binds K fd ps []
theorem xe_prop {k : Nat} {C : Addr} {f : Str} {S : SpD} (M : PropD X.prog X.w X.K X.mg X.base C f k S) (hr : Room (k + 1) X.A) (h : XE X μ o Γ fun z Γ1 => ∃ fs, z = .ins C fs ∧ Asks μ S Q [.ins C fs] Γ1)
    (hb : attributeBase o f X.env (eval o X.env) = eval o X.env := by rfl) : XE X μ (.Attribute o f pos) Γ Q := by
  obtain ⟨p, g, fd, ps, cl, pr, F, bd⟩ := M
  refine PE.imp pe_u fun σ H q ⟨R, k⟩ => ⟨_, pe_prop (E := wD X.K μ σ) h cl pr F hr bd .nil pass0' hb, R, fun v H1 z Γ1 s1 f1 R1 r1 ⟨fs, hz, hs⟩ => ?_⟩
  subst hz
  cases r1 with
  | @ins a _ dx fv _ g1 g2 =>
    refine ⟨a, dx, fv, rfl, hid_sub _ _ _ _ g1, ?_⟩
    exact asks_sp R1 (.cons (.ins g1 g2) .nil) hs fun v H2 d Γ2 s2 f2 R2 r2 hq => k v H2 d Γ2 (s2.trans s1) (f1.trans f2) R2 r2 hq
/-- a method -/
def MethD (P : Program) (w : World) (K : PySem.W.Frag) (mg : Str → Option Value) (base : Heap) (C : Addr) (f : Str) (k : Nat) (S : SpD) : Prop :=
  ∃ (g : Addr) (fd : FuncData) (ps : List Str), Cls K C ∧ Meth K C f g ∧ FnOk P w K mg base CX0 k g fd ps (spD K S) ∧ Binds K fd ps []
theorem xe_meth {pl : Sem Bool} {k : Nat} {C : Addr} {f : Str} {S : SpD} (M : MethD X.prog X.w X.K X.mg X.base C f k S) (hr : Room k X.A) (h : XE X μ o Γ fun z Γ1 => ∃ fs, z = .ins C fs ∧ fs.lookup f = none ∧ XA X μ (e :: es) Γ1 fun ds Γ2 => Asks μ S Q (.ins C fs :: ds) Γ2)
    (hst : starEach (e :: es) X.env = (false, eval e X.env) :: starEach es X.env := by rfl) (hpl : (backTo pos (starEach es X.env)).any (·.1) = false := by rfl)
    (ht : eval (.Call (.Attribute o f apos) (e :: es) [] pos) X.env = (do
      let ov ← eval o X.env
      standAt apos.atName
      let (f, first) ← holding [ov] (getMethod ov f pl)
      callWith pos f first (backTo pos (starEach (e :: es) X.env)) (backToKw pos (keywordEach [] X.env))) := by rfl) : XE X μ (.Call (.Attribute o f apos) (e :: es) [] pos) Γ Q := by
  obtain ⟨g, fd, ps, cl, mt, F, bd⟩ := M
  refine PE.imp pe_u fun σ H q ⟨R, k⟩ => ⟨_, pe_meth (E := wD X.K μ σ) h cl mt F hr bd .nil pass0' pa_u hst hpl ht, R, fun v H1 z Γ1 s1 f1 R1 r1 ⟨fs, hz, hl, hs⟩ => ?_⟩
  subst hz
  cases r1 with
  | @ins a _ dx fv _ g1 g2 =>
    refine ⟨a, dx, fv, rfl, hid_sub _ _ _ _ g1, (RpF.lookup g2).2 hl, _, hs, R1, fun vs H2 ds Γ2 s2 f2 R2 r2 ha => ?_⟩
    show spD X.K S (.ref a :: (vs ++ [])) H2 q (wD X.K μ σ)
    rw [List.append_nil]
    exact asks_sp R2 (.cons ((Rp.ins g1 g2).mono f2.sub) r2) ha fun v H3 d Γ3 s3 f3 R3 r3 hq => k v H3 d Γ3 ((s3.trans s2).trans s1) ((f1.trans f2).trans f3) R3 r3 hq
abbrev ISp := List D → (List (Str × D) → Prop) → Prop
def iS (C : Addr) (S : ISp) : SpD := fun ds c Q _ => ∃ x ds', ds = .ref x :: ds' ∧ c = [(x, .ins C [])] ∧ S ds' fun fs => Q .non [(x, .ins C fs)]
def MkD (P : Program) (w : World) (K : PySem.W.Frag) (mg : Str → Option Value) (base : Heap) (x : Str) (C : Addr) (k : Nat) (S : ISp) : Prop :=
  ∃ (f : Addr) (fd : FuncData) (ps : List Str), mg x = some (.ref C) ∧ Mk K C f ∧ FnOk P w K mg base CX0 k f fd ps (spD K (iS C S)) ∧ Binds K fd ps []
/-- a new object, in front of the cells -/
theorem Rel.newF {σ : L2.St} {s : List (Option D)} {cs : Cs} {p dx C : Addr} (R : Rel K μ H σ ⟨s, cs⟩) (hp : H p = none) (hdx : H dx = none) (hne : dx ≠ p) : Rel K μ (upd (upd H dx (.own p)) p (.ins C dx [])) σ ⟨s, (p, .ins C []) :: cs⟩ ∧
    Fw cs ((p, .ins C []) :: cs) H (upd (upd H dx (.own p)) p (.ins C dx [])) := by
  have e1 : Sub H (upd H dx (.own p)) := sub_upd hdx
  have hp1 : upd H dx (.own p) p = none := by rw [upd_ne (Ne.symm hne)]; exact hp
  have R1 := R.more e1
  obtain ⟨R2, f2⟩ := R1.newC (cl := .ins C []) (o := .ins C dx []) hp1 ⟨dx, [], rfl, .nil⟩
  have ti : ∀ a, inC (cs ++ [(p, Cell.ins C [])]) a = inC ((p, Cell.ins C []) :: cs) a := fun a => by
    rw [inC_app]
    simp only [inC, List.any_cons, List.any_nil, Bool.or_false]
    exact Bool.or_comm _ _
  have tt : tot μ.m (cs ++ [(p, Cell.ins C [])]) = tot μ.m ((p, Cell.ins C []) :: cs) := by
    funext a
    unfold tot
    rw [ti]
  refine ⟨⟨⟨R2.co.dom, ?_, fun q hq => R2.co.off q ?_, fun q hq => ?_⟩, ?_, ?_⟩, ?_⟩
  · have nd := R2.co.nd
    show (((p, Cell.ins C []) :: cs).map (·.1)).Nodup
    have pm : ((cs ++ [(p, Cell.ins C [])]).map (·.1)).Perm (((p, Cell.ins C []) :: cs).map (·.1)) := (List.perm_append_singleton _ _).map _
    exact pm.nodup_iff.mp nd
  · have hq : q ∈ (p, Cell.ins C []) :: cs := hq
    show q ∈ cs ++ [(p, Cell.ins C [])]
    rcases List.mem_cons.mp hq with h | h
    · rw [h]; simp
    · exact List.mem_append_left _ h
  · have := R2.co.cells q (by
      have hq : q ∈ (p, Cell.ins C []) :: cs := hq
      show q ∈ cs ++ [(p, Cell.ins C [])]
      rcases List.mem_cons.mp hq with h | h
      · rw [h]; simp
      · exact List.mem_append_left _ h)
    have this : CellRp K (hid (tot μ.m (cs ++ [(p, Cell.ins C [])])) _) _ q.2 := this
    rw [tt] at this
    exact this
  · have := R2.slots
    have this : SlotRp K (hid (tot μ.m (cs ++ [(p, Cell.ins C [])])) _) σ s := this
    rw [tt] at this
    exact this
  · intro a o h z
    obtain ⟨h1, h2⟩ := R2.fw a o h z
    exact ⟨h1, by rw [← ti]; exact h2⟩
  · intro a o h z
    obtain ⟨h1, h2⟩ := ((Fw.of_sub e1).trans f2) a o h z
    exact ⟨h1, by rw [← ti]; exact h2⟩
theorem xe_make {k : Nat} {xn : Str} {C : Addr} {S : ISp} {p : Pos} (M : MkD X.prog X.w X.K X.mg X.base xn C k S) (hr : Room (k + 1) X.A) (hg : Gl X xn) (h : XA X μ (e :: es) Γ fun ds Γ1 => ∀ Qc : List (Str × D) → Prop, (∀ fs, Q (.ins C fs) Γ1 → Qc fs) → S ds Qc)
    (hdb : (xn == ("__debug__" : Str)) = false := by decide) (he : starEach (e :: es) X.env = (false, eval e X.env) :: starEach es X.env := by rfl) (hpl : (backTo pos (starEach es X.env)).any (·.1) = false := by rfl) : XE X μ (.Call (.Name xn p) (e :: es) [] pos) Γ Q := by
  obtain ⟨f, fd, ps, hm, mk, F, bd⟩ := M
  refine PE.imp pe_u fun σ H q ⟨R, k⟩ => ⟨_, pe_make (E := wD X.K μ σ) mk F hr hg hm bd .nil pass0' h hdb he hpl, R, fun vs H1 ds Γ1 s1 f1 R1 r1 hs x dx hx hdx hne => ?_⟩
  show spD X.K (iS C S) (.ref x :: (vs ++ [])) _ _ (wD X.K μ σ)
  rw [List.append_nil]
  obtain ⟨sl, cs⟩ := Γ1
  obtain ⟨R2, f2⟩ := R1.newF (C := C) hx hdx hne
  refine asks_sp (Q := fun d Γ' => d = .non ∧ ∃ fs, Γ' = ⟨sl, (x, .ins C fs) :: cs⟩ ∧ Q (.ins C fs) ⟨sl, cs⟩) R2 (.cons (.ref x) (r1.mono f2.sub)) ?_ fun v H3 d Γ3 s3 f3 R3 r3 ⟨hd, fs, hG, hq⟩ => ?_
  · refine ⟨[(x, .ins C [])], cs, rfl, fun Qc Ec kq _ => ⟨x, ds, rfl, rfl, hs _ fun fs hq => kq _ _ ⟨rfl, fs, rfl, hq⟩⟩⟩
  · subst hd; subst hG
    cases r3
    obtain ⟨R4, f4, _⟩ := Rel.freeze (c1 := []) R3 (.inr (.inr trivial))
    exact ⟨rfl, k _ H3 _ ⟨sl, cs⟩ s1 (((f1.trans f2).trans f3).trans f4) R4 (frozen (c1 := []) R3 rfl) hq⟩
end
end Pdl
namespace Pdl
open PySem L2 PyProof.Rows
structure Wd where
  P : Program
  w : World
  K : PySem.W.Frag
  mg : Str → Option Value
  base : Heap
/-- built-in names that the module does not bind -/
structure Bl (mg : Str → Option Value) : Prop where
  len : mg "len" = none
  min : mg "min" = none
  max : mg "max" = none
  sorted : mg "sorted" = none
  set : mg "set" = none
  list : mg "list" = none
  tuple : mg "tuple" = none
  str : mg "str" = none
  int : mg "int" = none
  range : mg "range" = none
  abs : mg "abs" = none
  divmod : mg "divmod" = none
  any : mg "any" = none
  all : mg "all" = none
  isinstance : mg "isinstance" = none
/-- a def that may be called: its promise -/
def Ca (T : Wd) (x : Str) (k : Nat) (S : SpD) : Prop := ∃ ps, Cal T.P T.w T.K T.mg T.base x k ps S
abbrev Cp (T : Wd) (x : Str) (k : Nat) (S : PSp) : Prop := Ca T x k (pS S)
abbrev Cj (T : Wd) (x : Str) (k : Nat) (S : PSp) : Prop := Ca T x k (jS S)
abbrev Mk' (T : Wd) (x : Str) (C : Addr) (k : Nat) (S : ISp) : Prop := MkD T.P T.w T.K T.mg T.base x C k S
abbrev Pr (T : Wd) (C : Addr) (f : Str) (k : Nat) (S : PSp) : Prop := PropD T.P T.w T.K T.mg T.base C f k (pS S)
abbrev Me (T : Wd) (C : Addr) (f : Str) (k : Nat) (S : PSp) : Prop := MethD T.P T.w T.K T.mg T.base C f k (pS S)
abbrev Eq' (T : Wd) (C : Addr) (k : Nat) (S : PSp) : Prop := EqD T.P T.w T.K T.mg T.base C k S
abbrev De (T : Wd) (x : Str) (ps : List Str) (st : Stmt) : Prop := Def T.K T.mg x ps st
/-- the world of a def's body -/
abbrev wdX (X : Cx) : Wd := ⟨X.prog, X.w, X.K, X.mg, X.base⟩
abbrev cX (T : Wd) (N : List Str) (x : Str) (st : Stmt) (f : Addr) (cdv : Value) (A : Around) (outer : List Env) (s : Shared) (H : Hp) (E : XK) : Cx := bX T.P T.w T.K T.mg T.base N x st f cdv A outer s H E
section
variable {T : Wd}
theorem cp_of {x : Str} {st : Stmt} {N ps : List Str} {k : Nat} {S : PSp} (df : De T x ps st) (sc : FnScope N ps (defScope st)) (len : ∀ ds Q, S ds Q → ds.length = ps.length)
    (hbody : N.Nodup → ∀ (f : Addr) (cdv : Value) (A : Around) (outer : List Env) (s : Shared) (H : Hp) (E0 : XK), Room k (cX T N x st f cdv A outer s H E0).A →
      ∀ m ds (Q : D → Cs → Prop) E, S ds (fun d => Q d []) → XB (cX T N x st f cdv A outer s H E0) (mdOf m [] H E) (defBody st) ⟨startD N ds, []⟩ (poOf Q)) : Cp T x (k + 1) S :=
  ⟨ps, cal_of df sc (fun ds c Q E h => len ds _ h.2) fun f cdv A outer s H E0 hr m ds c Q E h => by
    obtain ⟨rfl, h⟩ := h
    exact hbody sc.nd f cdv A outer s H E0 hr m ds Q E h⟩
theorem cj_of {x : Str} {st : Stmt} {N ps : List Str} {k : Nat} {S : PSp} (df : De T x ps st) (sc : FnScope N ps (defScope st)) (len : ∀ ds Q, S ds Q → ds.length + 1 = ps.length)
    (hbody : N.Nodup → ∀ (f : Addr) (cdv : Value) (A : Around) (outer : List Env) (s : Shared) (H : Hp) (E0 : XK), Room k (cX T N x st f cdv A outer s H E0).A →
      ∀ m J ds (Q : D → Cs → Prop) E, S ds (fun d => Q d [(J, .jar)]) → XB (cX T N x st f cdv A outer s H E0) (mdOf m [(J, .jar)] H E) (defBody st) ⟨startD N (.ref J :: ds), [(J, .jar)]⟩ (poOf Q)) : Cj T x (k + 1) S :=
  ⟨ps, cal_of df sc (fun ds c Q E ⟨J, ds', h1, h2, h3⟩ => by rw [h1]; exact len ds' _ h3) fun f cdv A outer s H E0 hr m ds c Q E h => by
    obtain ⟨J, ds', rfl, rfl, h⟩ := h
    exact hbody sc.nd f cdv A outer s H E0 hr m J ds' Q E h⟩
end
section
variable {X : Cx} {μ : Md} {Γ : En} {Q : QE} {k n : Nat} {x : Str} {p pos apos : Pos} {e o : Expr} {es : List Expr}
/-- f(e, ..), pure -/
theorem xe_cp {S : PSp} (C : Cp (wdX X) x k S) (hr : Room n X.A) (hkn : k ≤ n) (hg : Gl X x) (h : XA X μ (e :: es) Γ fun ds Γ1 => ∀ Qc : D → Prop, (∀ d, Q d Γ1 → Qc d) → S ds Qc) (hdb : (x == ("__debug__" : Str)) = false := by decide)
    (he : starEach (e :: es) X.env = (false, eval e X.env) :: starEach es X.env := by rfl) (hpl : (backTo pos (starEach es X.env)).any (·.1) = false := by rfl) : XE X μ (.Call (.Name x p) (e :: es) [] pos) Γ Q := by
  obtain ⟨ps, C⟩ := C
  refine xe_call C (hr.mono hkn) hg (PA.imp h fun σ H q ⟨R, k⟩ => ⟨R, fun vs H' ds Γ' s' f' R' r' hq => k vs H' ds Γ' s' f' R' r' (asks_p hq)⟩) hdb he hpl
/-- f(jar, e, ..) -/
theorem xe_cj {S : PSp} (C : Cj (wdX X) x k S) (hr : Room n X.A) (hkn : k ≤ n) (hg : Gl X x) (h : XA X μ (e :: es) Γ fun ds Γ1 => ∃ J cs ds', ds = .ref J :: ds' ∧ Γ1.c = (J, .jar) :: cs ∧ ∀ Qc : D → Prop, (∀ d, Q d Γ1 → Qc d) → S ds' Qc) (hdb : (x == ("__debug__" : Str)) = false := by decide)
    (he : starEach (e :: es) X.env = (false, eval e X.env) :: starEach es X.env := by rfl) (hpl : (backTo pos (starEach es X.env)).any (·.1) = false := by rfl) : XE X μ (.Call (.Name x p) (e :: es) [] pos) Γ Q := by
  obtain ⟨ps, C⟩ := C
  refine xe_call C (hr.mono hkn) hg (PA.imp h fun σ H q ⟨R, k⟩ => ⟨R, fun vs H' ds Γ' s' f' R' r' hq => k vs H' ds Γ' s' f' R' r' ?_⟩) hdb he hpl
  obtain ⟨J, cs, ds', rfl, hc, hq⟩ := hq
  exact asks_j hc hq
theorem xe_mk {xn : Str} {C : Addr} {S : ISp} (M : Mk' (wdX X) xn C k S) (hr : Room n X.A) (hkn : k + 1 ≤ n) (hg : Gl X xn) (h : XA X μ (e :: es) Γ fun ds Γ1 => ∀ Qc : List (Str × D) → Prop, (∀ fs, Q (.ins C fs) Γ1 → Qc fs) → S ds Qc)
    (hdb : (xn == ("__debug__" : Str)) = false := by decide) (he : starEach (e :: es) X.env = (false, eval e X.env) :: starEach es X.env := by rfl) (hpl : (backTo pos (starEach es X.env)).any (·.1) = false := by rfl) : XE X μ (.Call (.Name xn p) (e :: es) [] pos) Γ Q :=
  xe_make M (hr.mono hkn) hg h hdb he hpl
theorem xe_pr {C : Addr} {f : Str} {S : PSp} (M : Pr (wdX X) C f k S) (hr : Room n X.A) (hkn : k + 1 ≤ n) (h : XE X μ o Γ fun z Γ1 => ∃ fs, z = .ins C fs ∧ ∀ Qc : D → Prop, (∀ d, Q d Γ1 → Qc d) → S [.ins C fs] Qc)
    (hb : attributeBase o f X.env (eval o X.env) = eval o X.env := by rfl) : XE X μ (.Attribute o f pos) Γ Q :=
  xe_prop M (hr.mono hkn) (h.imp fun d Γ' ⟨fs, e, hq⟩ => ⟨fs, e, asks_p hq⟩) hb
/-- the value of a condition -/
theorem ite_t {c : Prop} [Decidable c] {A B : Prop} (hc : c) (h : A) : if decide c = true then A else B := by rw [if_pos (by simpa using hc)]; exact h
theorem ite_f {c : Prop} [Decidable c] {A B : Prop} (hc : ¬ c) (h : B) : if decide c = true then A else B := by rw [if_neg (by simpa using hc)]; exact h
theorem ite_c {c : Prop} [Decidable c] {A B : Prop} (h1 : c → A) (h2 : ¬ c → B) : if decide c = true then A else B := by
  by_cases h : c
  · exact ite_t h (h1 h)
  · exact ite_f h (h2 h)
theorem ite_b {b : Bool} {A B : Prop} (h1 : b = true → A) (h2 : b = false → B) : if b = true then A else B := by
  cases b
  · exact h2 rfl
  · exact h1 rfl
theorem ite_tt {A B : Prop} (h : A) : if true = true then A else B := h
theorem ite_nt {A B : Prop} (h : B) : if (!true) = true then A else B := by rw [if_neg (by decide)]; exact h
theorem ite_nf {A B : Prop} (h : A) : if (!false) = true then A else B := h
theorem ite_ff {A B : Prop} (h : B) : if false = true then A else B := by rw [if_neg Bool.false_ne_true]; exact h
end
end Pdl
namespace Pdl
open PySem L2 PyProof.Rows
section
variable {X : Cx} {μ : Md} {Γ : En} {Q : QE} {x : Str} {pos : Pos}
/-- a text that is written out -/
theorem xe_lit {i : Str} {l : List Nat} {j} (e : i = S l) (h : Q (.str (S l)) Γ) : XE X μ (.Constant (.str i) j pos) Γ Q := xe_str (by rw [e]; exact h)
/-- the module's constants -/
def GS (mg : Str → Option Value) (x : Str) (l : List Nat) : Prop := ∃ t, mg x = some (.str (S l) t)
def GI (mg : Str → Option Value) (x : Str) (i : Int) : Prop := ∃ t, mg x = some (.int i t)
theorem xe_gs {l : List Nat} (hm : GS X.mg x l) (hg : Gl X x) (h : Q (.str (S l)) Γ) (h1 : (x == ("__debug__" : Str)) = false := by decide) : XE X μ (.Name x pos) Γ Q := by
  obtain ⟨t, hm⟩ := hm
  exact xe_glob (v := .str (S l)) hg hm ⟨t, rfl⟩ (fun _ => .str _) h h1
theorem xe_gi {i : Int} (hm : GI X.mg x i) (hg : Gl X x) (h : Q (.int i) Γ) (h1 : (x == ("__debug__" : Str)) = false := by decide) : XE X μ (.Name x pos) Γ Q := by
  obtain ⟨t, hm⟩ := hm
  exact xe_glob (v := .int i) hg hm ⟨t, rfl⟩ (fun _ => .int _) h h1
/-- a class's name -/
theorem xe_gc {C : Addr} (hm : X.mg x = some (.ref C)) (hg : Gl X x) (h : Q (.ref C) Γ) (h1 : (x == ("__debug__" : Str)) = false := by decide) : XE X μ (.Name x pos) Γ Q := xe_glob (v := .ref C) hg hm rfl (fun _ => .ref _) h h1
end
end Pdl
namespace Pdl
open PySem L2 PyProof.Rows
section
variable {X : Cx}
theorem isi_str {z : Str} : CallD X (.builtin "isinstance") [.str z, .ty "str"] (.bl true) := cd_isi .str .ty (kit_ty (by decide +kernel))
theorem isi_tup {xs : List D} : CallD X (.builtin "isinstance") [.tup xs, .ty "tuple"] (.bl true) := cd_isi .tup .ty (kit_ty (by decide +kernel))
/-- an own class, its instances -/
def IsO (K : PySem.W.Frag) (C : Addr) : Prop := PySem.W.kitOne K (.ref C) (.ref C) = some true
theorem isi_own {C : Addr} {fs : List (Str × D)} (o : OCls X.K C) (h : IsO X.K C) : CallD X (.builtin "isinstance") [.ins C fs, .ref C] (.bl true) := cd_isi (.ins o) .own h
end
end Pdl
namespace Pdl
open PySem L2 PyProof.Rows
def leN (a b : Nat) : Bool := decide (a ≤ b)
theorem leN_trans (a b c : Nat) (h1 : leN a b = true) (h2 : leN b c = true) : leN a c = true := by simp [leN] at *; omega
theorem leN_total (a b : Nat) : (leN a b || leN b a) = true := by simp [leN]; omega
def sN (l : List Nat) : List Nat := l.mergeSort leN
def us (l : List Nat) : List Nat := sN l.eraseDups
def ch (l : List Nat) : List (List Nat) := l.map fun c => [c]
theorem mem_us {l : List Nat} {x : Nat} : x ∈ us l ↔ x ∈ l := by
  unfold us sN
  rw [(List.mergeSort_perm _ _).mem_iff, List.mem_eraseDups]
theorem us_nodup (l : List Nat) : (us l).Nodup := (List.mergeSort_perm _ _).nodup_iff.mpr (ed_nodup _)
theorem us_sorted (l : List Nat) : (us l).Pairwise (· < ·) := by
  have h1 : (us l).Pairwise (fun a b => leN a b = true) := List.pairwise_mergeSort leN_trans leN_total _
  have h2 := us_nodup l
  exact (h1.and h2).imp fun ⟨a, b⟩ => by simp [leN] at a; omega
theorem sorted_ext {l m : List Nat} (h1 : l.Pairwise (· < ·)) (h2 : m.Pairwise (· < ·)) (h : ∀ x, x ∈ l ↔ x ∈ m) : l = m := by
  have n1 : l.Nodup := h1.imp fun h => Nat.ne_of_lt h
  have n2 : m.Nodup := h2.imp fun h => Nat.ne_of_lt h
  have p : l.Perm m := (List.perm_ext_iff_of_nodup n1 n2).mpr h
  exact List.Perm.eq_of_pairwise (fun a b _ _ x y => by omega) h1 h2 p
theorem us_eq {l m : List Nat} (h1 : m.Pairwise (· < ·)) (h : ∀ x, x ∈ m ↔ x ∈ l) : us l = m := sorted_ext (us_sorted l) h1 fun x => mem_us.trans (h x).symm
theorem nodup_len {α : Type} [BEq α] [LawfulBEq α] : ∀ {l m : List α}, l.Nodup → (∀ x ∈ l, x ∈ m) → l.length ≤ m.length
  | [], _, _, _ => Nat.zero_le _
  | a :: l, m, hn, h => by
    rw [List.nodup_cons] at hn
    have ha := h a List.mem_cons_self
    have := nodup_len (m := m.erase a) hn.2 fun x hx => by
      refine (List.mem_erase_of_ne ?_).mpr (h x (List.mem_cons_of_mem _ hx))
      exact fun e => hn.1 (e ▸ hx)
    rw [List.length_erase_of_mem ha] at this
    have := List.length_pos_of_mem ha
    simp only [List.length_cons]
    omega
theorem us_len_le {l m : List Nat} (h : ∀ x ∈ l, x ∈ m) : (us l).length ≤ m.length := nodup_len (us_nodup l) fun x hx => h x (mem_us.mp hx)
theorem ch_sorted {l : List Nat} (h : l.Pairwise (· < ·)) : (ch l).Pairwise (fun a b => leL a b = true) := by
  refine List.Pairwise.map _ (fun a b hab => ?_) h
  show decide ([a] ≤ [b]) = true
  rw [decide_eq_true_eq]
  exact List.cons_le_cons_iff.mpr (.inl hab)
theorem usL_ch (l : List Nat) : usL (ch l) = ch (us l) := by
  refine usL_eq (ch_sorted (us_sorted l)) ?_ fun x => ?_
  · exact List.Pairwise.map _ (fun a b hab e => hab (by cases e; rfl)) (us_nodup l)
  · simp [ch, mem_us]
theorem srt_ch (l : List Nat) : srt (ch l) = ch (sN l) := by
  refine srt_eq ?_ ?_
  · have h1 : (sN l).Pairwise (fun a b => leN a b = true) := List.pairwise_mergeSort leN_trans leN_total _
    refine List.Pairwise.map _ (fun a b hab => ?_) h1
    show decide ([a] ≤ [b]) = true
    rw [decide_eq_true_eq]
    simp [leN] at hab
    rcases Nat.lt_or_eq_of_le hab with h | h
    · exact List.cons_le_cons_iff.mpr (.inl h)
    · subst h; exact List.le_refl _
  · exact (List.mergeSort_perm _ _).map _
theorem join_flat : ∀ (ls : List (List Nat)), TL.joinL [] ls = ls.flatten
  | [] => rfl
  | [a] => by simp [TL.joinL]
  | a :: b :: ls => by
    have ih := join_flat (b :: ls)
    simp only [TL.joinL] at *
    rw [ih]
    simp
theorem ch_flat (l : List Nat) : (ch l).flatten = l := by
  induction l with
  | nil => rfl
  | cons a l ih => simp [ch] at *; exact ih
theorem items_str (l : List Nat) : Items (.str (S l)) (SL (ch l)) := by
  show SL (ch l) = (S l).cps.toList.map fun c => .str (S [c])
  rw [S_cps]
  simp [SL, ch]
theorem items_lst (ls : List (List Nat)) : Items (.lst (SL ls)) (SL ls) := rfl
theorem items_tup (ls : List (List Nat)) : Items (.tup (SL ls)) (SL ls) := rfl
end Pdl
namespace Pdl
theorem ch_len (l : List Nat) : (ch l).length = l.length := by simp [ch]
theorem flat_len (ls : List (List Nat)) : (ls.map List.length).sum = ls.flatten.length := (List.length_flatten ..).symm
end Pdl
namespace Pdl
open PySem L2 PyProof.Rows
section
variable {X : Cx} {μ : Md} {Γ : En} {Q : QE} {a b c e o it tg elt : Expr} {es ifs : List Expr} {pos apos cpos tpos : Pos} {x y d : D} {scope : Scope} {P : Po}
/-- .. by a function on what the items show -/
def QLa (X : Cx) (scope : Scope) (ifs : List Expr) (elt : Expr) (i : Nat) {α β : Type} (ea : α → D) (eb : β → D) (Q : QE) : List D → En → Prop := fun ds Γ1 => ∃ (as : List α) (F : α → Option β), ds = as.map ea ∧ as.length ≤ 100000 ∧
      (∀ a ∈ as, ∀ μ', Blk X scope fun Y => XTl Y μ' ifs ⟨Γ1.s.set i (some (ea a)), Γ1.c⟩ fun b Γ3 => if b = true then Blk X scope fun Z => XE Z μ' elt Γ3 fun y Γ4 => ∃ r, F a = some r ∧ y = eb r ∧ Γ4.c = Γ1.c else F a = none ∧ Γ3.c = Γ1.c) ∧
      Q (.lst ((as.filterMap F).map eb)) Γ1
theorem qla {α β : Type} {ea : α → D} {eb : β → D} {i : Nat} {ds : List D} {Γ1 : En} (h : QLa X scope ifs elt i ea eb Q ds Γ1) : QLc X scope ifs elt i Q ds Γ1 := by
  obtain ⟨as, F, hds, hl, ht, hq⟩ := h
  subst hds
  refine ⟨fun k acc c => acc = ((as.take k).filterMap F).map eb ∧ c = Γ1.c, ⟨by simp, rfl⟩, ?_, by simpa using hl, ?_⟩
  · rintro k d acc c2 hd ⟨rfl, rfl⟩ μ' s H C cl fp
    rw [List.getElem?_map] at hd
    obtain ⟨a, ha, rfl⟩ := Option.map_eq_some_iff.mp hd
    have et : as.take (k + 1) = as.take k ++ [a] := by
      rw [List.take_add_one, ha]
      rfl
    refine ⟨fun pins s' σ' H' q I' ⟨R', k'⟩ => (ht a (List.mem_of_getElem? ha) μ' s H C cl fp).run pins s' σ' H' q I' ⟨R', fun H3 b Γ3 s3 f3 R3 hq => k' H3 b Γ3 s3 f3 R3 ?_⟩⟩
    cases b with
    | true =>
      rw [if_pos rfl] at hq ⊢
      intro s2 H2 C2 cl2 fp2
      refine PE.imp (hq s2 H2 C2 cl2 fp2) fun σ4 H4 q4 ⟨R4, k4⟩ => ⟨R4, fun v5 H5 d5 Γ5 s5 f5 R5 r5 ⟨r, g1, g2, g3⟩ => k4 v5 H5 d5 Γ5 s5 f5 R5 r5 ⟨?_, g3⟩⟩
      rw [et, List.filterMap_append]
      simp [g1, g2]
    | false =>
      rw [if_neg Bool.false_ne_true] at hq ⊢
      refine ⟨?_, hq.2⟩
      rw [et, List.filterMap_append]
      simp [hq.1]
  · rintro acc c2 ⟨rfl, rfl⟩
    have e : (as.map ea).length = as.length := by simp
    rw [e, List.take_length]
    exact hq
theorem XI.imp {Q Q' : List D → En → Prop} (h : XI X μ tg it Γ Q) (i : ∀ d Γ', Q d Γ' → Q' d Γ') : XI X μ tg it Γ Q' := PI.imp h fun σ H R ⟨Rl, k⟩ => ⟨Rl, fun J H' ds Γ1 e1 f1 R1 wk hq => k J H' ds Γ1 e1 f1 R1 wk (i _ _ hq)⟩
theorem xe_lcA {α β : Type} (ea : α → D) (eb : β → D) {i : Nat} {xn : Str} (hN : X.N.Nodup) (hi : X.N[i]? = some xn) (hb : blkC X.N X.env.scope scope [(xn, i)] = true) (hx : Blk X scope fun Y => Loc Y.env.scope xn) (hf : Blk X scope fun Y => Y.fn xn = true ∨ Y.env.scope.names.lookup xn = some .local)
    (h : XI X μ (.Name xn tpos) it Γ (QLa X scope ifs elt i ea eb Q))
    (hs : ∀ x, foldedSetIterable it X.env x = pure x := by intro _; rfl) (hc : X.calm = true := by rfl) : XE X μ (.ListComp elt [⟨.Name xn tpos, it, ifs, 0⟩] scope pos) Γ Q :=
  xe_lc hc hN hi (blkOk_by hb) hx hf (h.imp fun _ _ => qla) hs
theorem xs_lcA {α β : Type} (ea : α → D) (eb : β → D) {i j : Nat} {xn yn : Str} {py spos : Pos} (hN : X.N.Nodup) (hi : X.N[i]? = some xn) (hb : blkC X.N X.env.scope scope [(xn, i)] = true) (hx : Blk X scope fun Y => Loc Y.env.scope xn) (hf : Blk X scope fun Y => Y.fn xn = true ∨ Y.env.scope.names.lookup xn = some .local)
    (hy : X.N[j]? = some yn) (hyl : X.env.scope.names.lookup yn = some .local) (hk : X.env.scope.kind = .function) (hl : (py.line == pos.line) = true)
    (ha : (scope.names.any fun (n, k) => n == yn && (k == .local || k == .cell)) = false)
    (h : XI X μ (.Name xn tpos) it Γ (QLa X scope ifs elt i ea eb fun d Γ1 => P.nx { Γ1 with s := Γ1.s.set j (some d) }))
    (hs : ∀ x, foldedSetIterable it X.env x = pure x := by intro _; rfl) (hc : X.calm = true := by rfl) : XS X μ (.Assign [.Name yn py] (.ListComp elt [⟨.Name xn tpos, it, ifs, 0⟩] scope pos) spos) Γ P :=
  xs_lc hc hN hi (blkOk_by hb) hx hf hy hyl (sw_true hk hyl hl ha) (h.imp fun _ _ => qla) hs
/-- for x in ..: what holds with the items that are gone through -/
theorem xs_forN {body : List Stmt} {i : Nat} {xn : Str} (hp : PassesOwn (model X.prog X.w) X.A X.env X.xe) (hN : X.N.Nodup) (hi : X.N[i]? = some xn) (hx : Loc X.env.scope xn)
    (h : XI X μ (.Name xn tpos) it Γ fun ds Γ1 => ∃ I : Nat → En → Prop, I 0 Γ1 ∧ (∀ i' d Γ2, ds[i']? = some d → I i' Γ2 → XB X μ body { Γ2 with s := Γ2.s.set i (some d) } { P with nx := I (i' + 1), ct := I (i' + 1), bk := P.nx }) ∧ ∀ Γ2, I ds.length Γ2 → P.nx Γ2)
    (hf : X.fn xn = true ∨ X.env.scope.names.lookup xn = some .local := by first | exact .inl rfl | exact .inr rfl | assumption) (hs : ∀ x, foldedSetIterable it X.env x = pure x := by intro _; rfl) (hc : X.calm = true := by rfl) : XS X μ (.For (.Name xn tpos) it body [] pos) Γ P :=
  xs_for hp hc (PI.imp h fun σ H R ⟨Rl, k⟩ => ⟨Rl, fun J H' ds Γ1 e1 f1 R1 wk ⟨I, h0, ht, hd⟩ => k J H' ds Γ1 e1 f1 R1 wk ⟨I, h0, fun i' d Γ2 hd' hI => xg_name hN hi hx (ht i' d Γ2 hd' hI) hf, hd⟩⟩) hs
end
theorem lt1 {a b : Nat} : ([a] < [b]) ↔ a < b := by
  rw [List.cons_lt_cons_iff]
  simp
def az : List Nat := (List.range 26).map (97 + ·)
theorem mem_az {c : Nat} : c ∈ az ↔ 97 ≤ c ∧ c ≤ 122 := by
  unfold az
  simp only [List.mem_map, List.mem_range]
  exact ⟨fun ⟨i, h, e⟩ => by omega, fun h => ⟨c - 97, by omega, by omega⟩⟩
end Pdl
namespace Pdl
theorem flat2 : ∀ {ls : List (List Nat)}, (∀ l ∈ ls, ∃ a b, l = [a, b]) → ls.flatten.length = 2 * ls.length
  | [], _ => rfl
  | l :: ls, h => by
    obtain ⟨a, b, rfl⟩ := h _ List.mem_cons_self
    have := flat2 (ls := ls) fun l hl => h l (List.mem_cons_of_mem _ hl)
    simp only [List.flatten_cons, List.length_append, List.length_cons, List.length_nil]
    omega
structure IsMet (ls : List (List Nat)) (ps M : List Nat) : Prop where
  sorted : M.Pairwise (· < ·)
  sub : ∀ x ∈ ps, x ∈ M
  clo : ∀ a b, [a, b] ∈ ls → (a ∈ M ∨ b ∈ M) → a ∈ M ∧ b ∈ M
  least : ∀ C : Nat → Prop, (∀ x ∈ ps, C x) → (∀ a b, [a, b] ∈ ls → (C a ∨ C b) → C a ∧ C b) → ∀ x ∈ M, C x
def touch (M : List Nat) (l : List Nat) : Bool := match l with
  | [a, b] => decide (a ∈ M) || decide (b ∈ M)
  | _ => false
def stp (ls : List (List Nat)) (M : List Nat) : List Nat := us ([M] ++ ls.filter (touch M)).flatten
theorem mem_stp {ls : List (List Nat)} {M : List Nat} (h2 : ∀ l ∈ ls, ∃ a b, l = [a, b]) {x : Nat} : x ∈ stp ls M ↔ x ∈ M ∨ ∃ a b, [a, b] ∈ ls ∧ (a ∈ M ∨ b ∈ M) ∧ (x = a ∨ x = b) := by
  unfold stp
  rw [mem_us]
  simp only [List.singleton_append, List.flatten_cons, List.mem_append, List.mem_flatten, List.mem_filter]
  constructor
  · rintro (h | ⟨l, ⟨hl, ht⟩, hx⟩)
    · exact .inl h
    · obtain ⟨a, b, rfl⟩ := h2 l hl
      exact .inr ⟨a, b, hl, by simpa [touch] using ht, by simpa using hx⟩
  · rintro (h | ⟨a, b, hl, ht, hx⟩)
    · exact .inl h
    · exact .inr ⟨[a, b], ⟨hl, by simpa [touch] using ht⟩, by simpa using hx⟩
/-- as far as one has come -/
structure InMet (ls : List (List Nat)) (ps M : List Nat) : Prop where
  sorted : M.Pairwise (· < ·)
  sub : ∀ x ∈ ps, x ∈ M
  inn : ∀ x ∈ M, x ∈ ps ∨ x ∈ ls.flatten
  least : ∀ C : Nat → Prop, (∀ x ∈ ps, C x) → (∀ a b, [a, b] ∈ ls → (C a ∨ C b) → C a ∧ C b) → ∀ x ∈ M, C x
theorem InMet.start (ls : List (List Nat)) (ps : List Nat) : InMet ls ps (us [ps].flatten) := by
  have e : [ps].flatten = ps := by simp
  rw [e]
  exact ⟨us_sorted _, fun x h => mem_us.mpr h, fun x h => .inl (mem_us.mp h), fun C h _ x hx => h x (mem_us.mp hx)⟩
theorem InMet.step {ls : List (List Nat)} {ps M : List Nat} (h2 : ∀ l ∈ ls, ∃ a b, l = [a, b]) (h : InMet ls ps M) : InMet ls ps (stp ls M) := by
  refine ⟨us_sorted _, fun x hx => (mem_stp h2).mpr (.inl (h.sub x hx)), fun x hx => ?_, fun C h1 h3 x hx => ?_⟩
  · rcases (mem_stp h2).mp hx with hx | ⟨a, b, hl, _, hx⟩
    · exact h.inn x hx
    · exact .inr (List.mem_flatten.mpr ⟨[a, b], hl, by simpa using hx⟩)
  · rcases (mem_stp h2).mp hx with hx | ⟨a, b, hl, ht, hx⟩
    · exact h.least C h1 h3 x hx
    · have := h3 a b hl (ht.imp (h.least C h1 h3 a) (h.least C h1 h3 b))
      rcases hx with rfl | rfl
      · exact this.1
      · exact this.2
theorem InMet.done {ls : List (List Nat)} {ps M : List Nat} (h2 : ∀ l ∈ ls, ∃ a b, l = [a, b]) (h : InMet ls ps M) (e : stp ls M = M) : IsMet ls ps M := by
  refine ⟨h.sorted, h.sub, fun a b hl ht => ?_, h.least⟩
  have k : ∀ x, x ∈ stp ls M → x ∈ M := fun x hx => e ▸ hx
  exact ⟨k a ((mem_stp h2).mpr (.inr ⟨a, b, hl, ht, .inl rfl⟩)), k b ((mem_stp h2).mpr (.inr ⟨a, b, hl, ht, .inr rfl⟩))⟩
theorem InMet.le {ls : List (List Nat)} {ps M : List Nat} (h : InMet ls ps M) : M.length ≤ (ps ++ ls.flatten).length :=
  nodup_len (h.sorted.imp fun h => Nat.ne_of_lt h) fun x hx => List.mem_append.mpr (h.inn x hx)
theorem stp_grows {ls : List (List Nat)} {ps M : List Nat} (h2 : ∀ l ∈ ls, ∃ a b, l = [a, b]) (h : InMet ls ps M) (e : stp ls M ≠ M) : M.length < (stp ls M).length := by
  have hs : ∀ x ∈ M, x ∈ stp ls M := fun x hx => (mem_stp h2).mpr (.inl hx)
  have hle := nodup_len (h.sorted.imp fun h => Nat.ne_of_lt h) hs
  rcases Nat.lt_or_eq_of_le hle with hlt | heq
  · exact hlt
  · refine absurd (sorted_ext (us_sorted _) h.sorted fun x => ⟨fun hx => ?_, hs x⟩) e
    refine Decidable.byContradiction fun hn => ?_
    have hn2 : (x :: M).Nodup := List.nodup_cons.mpr ⟨hn, h.sorted.imp fun h => Nat.ne_of_lt h⟩
    have := nodup_len (m := stp ls M) hn2 fun y hy => by
      rcases List.mem_cons.mp hy with rfl | hy
      · exact hx
      · exact hs y hy
    simp at this
    omega
end Pdl
namespace Pdl
open PySem L2 PyProof.Rows
def Lw (ls : List (List Nat)) : Prop := ∀ l ∈ ls, ∀ c ∈ l, c < 1000
theorem strOk_S {l : List Nat} (h : ∀ c ∈ l, c < 1000) : PyData.strOk (S l) = true := by
  unfold PyData.strOk
  show l.toArray.all (fun c => decide (c < 0x110000)) = true
  rw [List.all_toArray, List.all_eq_true]
  intro c hc
  have := h c hc
  simp
  omega
theorem canLay_SL : ∀ {ls : List (List Nat)}, Lw ls → PyData.canLayAll0 (toPyL (SL ls)) = true
  | [], _ => rfl
  | l :: ls, h => by
    show (PyData.canLay0 (.str (S l)) && PyData.canLayAll0 (toPyL (SL ls))) = true
    rw [canLay_SL fun l hl => h l (List.mem_cons_of_mem _ hl), Bool.and_true]
    exact strOk_S (h l List.mem_cons_self)
theorem depth_SL : ∀ (ls : List (List Nat)), PyData.depthAll (toPyL (SL ls)) = 0
  | [] => rfl
  | l :: ls => by
    show max (PyData.depth (.str (S l))) (PyData.depthAll (toPyL (SL ls))) = 0
    rw [depth_SL ls]
    rfl
theorem shaped_T {ls : List (List Nat)} (h : Lw ls) : SeqAt.shaped (toPy (.tup (SL ls))) = true := by
  unfold SeqAt.shaped
  show (PyData.canLayAll0 (toPyL (SL ls)) && decide (PyData.depthAll (toPyL (SL ls)) + 1 ≤ 64)) = true
  rw [canLay_SL h, depth_SL]
  rfl
theorem shaped_L {ls : List (List Nat)} (h : Lw ls) : SeqAt.shaped (toPy (.lst (SL ls))) = true := by
  unfold SeqAt.shaped
  show (PyData.canLayAll0 (toPyL (SL ls)) && decide (PyData.depthAll (toPyL (SL ls)) + 1 ≤ 64)) = true
  rw [canLay_SL h, depth_SL]
  rfl
theorem eqv_SL : ∀ (a b : List (List Nat)), PyData.eqvAll (toPyL (SL a)) (toPyL (SL b)) = decide (a = b)
  | [], [] => rfl
  | [], _ :: _ => rfl
  | _ :: _, [] => rfl
  | x :: a, y :: b => by
    show (PyData.eqv (.str (S x)) (.str (S y)) && PyData.eqvAll (toPyL (SL a)) (toPyL (SL b))) = _
    rw [eqv_SL a b]
    have e : PyData.eqv (.str (S x)) (.str (S y)) = decide (x = y) := by
      show (S x == S y) = _
      rw [Bool.beq_eq_decide_eq]
      exact decide_eq_decide.mpr S_eq
    rw [e]
    by_cases h1 : x = y <;> by_cases h2 : a = b <;> simp [h1, h2]
section
variable {X : Cx} {a b : List (List Nat)}
theorem od_eqT (hu : X.A.units + 64 < cLine) (ha : Lw a) (hb : Lw b) : OpD X (compareOp .Eq) (.tup (SL a)) (.tup (SL b)) (.bl (decide (a = b))) := by
  have h := od_eqD (X := X) (x := .tup (SL a)) (y := .tup (SL b)) hu (SL_py a) (SL_py b) (shaped_T ha) (shaped_T hb)
  have e : PyData.eqv (toPy (.tup (SL a))) (toPy (.tup (SL b))) = decide (a = b) := eqv_SL a b
  rw [e] at h
  exact h
theorem od_eqL (hu : X.A.units + 64 < cLine) (ha : Lw a) (hb : Lw b) : OpD X (compareOp .Eq) (.lst (SL a)) (.lst (SL b)) (.bl (decide (a = b))) := by
  have h := od_eqD (X := X) (x := .lst (SL a)) (y := .lst (SL b)) hu (SL_py a) (SL_py b) (shaped_L ha) (shaped_L hb)
  have e : PyData.eqv (toPy (.lst (SL a))) (toPy (.lst (SL b))) = decide (a = b) := eqv_SL a b
  rw [e] at h
  exact h
theorem od_neL (hu : X.A.units + 64 < cLine) (ha : Lw a) (hb : Lw b) : OpD X (compareOp .NotEq) (.lst (SL a)) (.lst (SL b)) (.bl (!decide (a = b))) := by
  have h := od_neD (X := X) (x := .lst (SL a)) (y := .lst (SL b)) hu (SL_py a) (SL_py b) (shaped_L ha) (shaped_L hb)
  have e : PyData.eqv (toPy (.lst (SL a))) (toPy (.lst (SL b))) = decide (a = b) := eqv_SL a b
  rw [e] at h
  exact h
end
theorem atI_nat {α : Type} {xs : List α} {k : Nat} {d : α} (h : xs[k]? = some d) : atI xs (k : Int) = some d := by
  have hl := (List.getElem?_eq_some_iff.mp h).1
  unfold atI ixN
  rw [if_pos (by omega), if_pos (by omega)]
  simpa using h
theorem SL_get {ls : List (List Nat)} {k : Nat} {l : List Nat} (h : ls[k]? = some l) : (SL ls)[k]? = some (.str (S l)) := by
  unfold SL
  rw [List.getElem?_map, h]
  rfl
theorem rng_get {n k : Nat} {d : D} (h : (rngD 0 n)[k]? = some d) : k < n ∧ d = .int (k : Int) := by
  unfold rngD at h
  rw [List.getElem?_map] at h
  obtain ⟨j, hj, rfl⟩ := Option.map_eq_some_iff.mp h
  obtain ⟨h1, h2⟩ := List.getElem?_eq_some_iff.mp hj
  rw [List.getElem_range] at h2
  subst h2
  refine ⟨by simpa using h1, ?_⟩
  rw [Int.zero_add]
theorem rng_get1 {lo n k : Nat} {d : D} (h : (rngD (lo : Int) n)[k]? = some d) : k < n ∧ d = .int ((lo + k : Nat) : Int) := by
  unfold rngD at h
  rw [List.getElem?_map] at h
  obtain ⟨j, hj, rfl⟩ := Option.map_eq_some_iff.mp h
  obtain ⟨h1, h2⟩ := List.getElem?_eq_some_iff.mp hj
  rw [List.getElem_range] at h2
  subst h2
  refine ⟨by simpa using h1, ?_⟩
  rw [Int.natCast_add]
theorem rng_len {lo : Int} {n : Nat} : (rngD lo n).length = n := by simp [rngD]
/-- all hangs together -/
def Conn (ls : List (List Nat)) : Prop := ∀ C : Nat → Prop, (∀ l0, ls.head? = some l0 → ∀ x ∈ l0, C x) → (∀ a b, [a, b] ∈ ls → (C a ∨ C b) → C a ∧ C b) → ∀ x ∈ ls.flatten, C x
structure Ties (ls : List (List Nat)) : Prop where
  ne : ls ≠ []
  len : ls.length ≤ 10
  pr : ∀ l ∈ ls, ∃ a b, l = [a, b] ∧ 97 ≤ a ∧ a < b ∧ b ≤ 122
  asc : ls.Pairwise (· < ·)
  few : (us ls.flatten).length ≤ 7
  conn : Conn ls
theorem Ties.two {ls : List (List Nat)} (h : Ties ls) : ∀ l ∈ ls, ∃ a b, l = [a, b] := fun l hl => let ⟨a, b, e, _⟩ := h.pr l hl; ⟨a, b, e⟩
theorem Ties.lw {ls : List (List Nat)} (h : Ties ls) : Lw ls := fun l hl c hc => by
  obtain ⟨a, b, rfl, h1, h2, h3⟩ := h.pr l hl
  simp at hc
  rcases hc with rfl | rfl <;> omega
theorem met_all {ls : List (List Nat)} {l0 M : List Nat} (h0 : ls.head? = some l0) (hc : Conn ls) (h : IsMet ls l0 M) : M = us ls.flatten := by
  refine (us_eq h.sorted fun x => ⟨fun hx => ?_, fun hx => ?_⟩).symm
  · refine h.least (· ∈ ls.flatten) (fun y hy => ?_) (fun a b hl _ => ?_) x hx
    · cases ls with
      | nil => cases h0
      | cons l ls =>
        cases h0
        simp [hy]
    · exact ⟨List.mem_flatten.mpr ⟨_, hl, by simp⟩, List.mem_flatten.mpr ⟨_, hl, by simp⟩⟩
  · refine hc (· ∈ M) (fun l hl => ?_) h.clo x hx
    rw [h0] at hl
    cases hl
    exact h.sub
end Pdl
namespace Pdl
open PySem L2 PyProof.Rows
section
variable {X : Cx} {μ : Md} {Γ : En} {P : Po} {c e : Expr} {t u : List Stmt} {pos : Pos} {Q : QE}
/-- if: the outcome is known -/
theorem xs_if_f (h : XT X μ c Γ fun b Γ1 => b = false ∧ Γ1 = Γ) (h2 : XB X μ u Γ P) : XS X μ (.If c t u pos) Γ P := xs_if (h.imp fun b Γ1 ⟨e1, e2⟩ => by subst e1; subst e2; exact ite_ff h2)
theorem xs_if_t (h : XT X μ c Γ fun b Γ1 => b = true ∧ Γ1 = Γ) (h2 : XB X μ t Γ P) : XS X μ (.If c t u pos) Γ P := xs_if (h.imp fun b Γ1 ⟨e1, e2⟩ => by subst e1; subst e2; exact h2)
theorem xs_if_b (b0 : Bool) (h : XT X μ c Γ fun b Γ1 => b = b0 ∧ Γ1 = Γ) (h2 : if b0 = true then XB X μ t Γ P else XB X μ u Γ P) : XS X μ (.If c t u pos) Γ P := xs_if (h.imp fun b Γ1 ⟨e1, e2⟩ => by subst e1; subst e2; exact h2)
/-- a value known -/
theorem xe_cut {d : D} (h : XE X μ e Γ fun r Γ1 => r = d ∧ Γ1 = Γ) (h2 : Q d Γ) : XE X μ e Γ Q := h.imp fun r Γ1 ⟨e1, e2⟩ => by subst e1; subst e2; exact h2
end
end Pdl
namespace Pdl
open PySem L2 PyProof.Rows
theorem xt_cut {X : Cx} {μ : Md} {Γ : En} {c : Expr} {Q : Bool → En → Prop} (b0 : Bool) (h : XT X μ c Γ fun b Γ1 => b = b0 ∧ Γ1 = Γ) (h2 : Q b0 Γ) : XT X μ c Γ Q := h.imp fun r Γ1 ⟨e1, e2⟩ => by subst e1; subst e2; exact h2
end Pdl
namespace Pdl
open PySem L2 PyProof.Rows
def DeP (T : Wd) (C : Addr) (f qual : Str) (ps : List Str) (st : Stmt) : Prop := ∃ p g fd, Cls T.K C ∧ PropOf T.K C f p g ∧ Fun T.K f qual st g fd ∧ Binds T.K fd ps []
def DeM (T : Wd) (C : Addr) (f qual : Str) (ps : List Str) (st : Stmt) : Prop := ∃ g fd, Cls T.K C ∧ Meth T.K C f g ∧ Fun T.K f qual st g fd ∧ Binds T.K fd ps []
def DeI (T : Wd) (x : Str) (C : Addr) (qual : Str) (ps : List Str) (st : Stmt) : Prop := ∃ f fd, T.mg x = some (.ref C) ∧ Mk T.K C f ∧ Fun T.K "__init__" qual st f fd ∧ Binds T.K fd ps []
def DeQ (T : Wd) (C : Addr) (qual : Str) (ps : List Str) (st : Stmt) : Prop := ∃ f fd, PySem.W.findIn T.K (.ref C) "__ne__" = some (some (.builtin "object.__ne__")) ∧ PySem.W.subIn T.K (.ref C) (.type "object") = some true ∧
    PySem.W.findIn T.K (.ref C) "__eq__" = some (some (.ref f)) ∧ PySem.W.isFn T.K (.ref f) = true ∧ Fun T.K "__eq__" qual st f fd ∧ Binds T.K fd ps []
section
variable {T : Wd} {C : Addr} {f x qual : Str} {st : Stmt} {N ps : List Str} {k : Nat}
theorem fnp {S : PSp} {g : Addr} {fd : FuncData} (F : Fun T.K x qual st g fd) (sc : FnScope N ps (defScope st)) (len : ∀ ds Q, S ds Q → ds.length = ps.length)
    (hbody : N.Nodup → ∀ (f : Addr) (cdv : Value) (A : Around) (outer : List Env) (s : Shared) (H : Hp) (E0 : XK), Room k (cX T N qual st f cdv A outer s H E0).A →
      ∀ m ds (Q : D → Cs → Prop) E, S ds (fun d => Q d []) → XB (cX T N qual st f cdv A outer s H E0) (mdOf m [] H E) (defBody st) ⟨startD N ds, []⟩ (poOf Q)) : FnOk T.P T.w T.K T.mg T.base CX0 (k + 1) g fd ps (spD T.K (pS S)) :=
  fn_D F sc (fun ds c Q E h => len ds _ h.2) fun cdv A outer s H E0 hr m ds c Q E h => by
    obtain ⟨rfl, h⟩ := h
    exact hbody sc.nd g cdv A outer s H E0 hr m ds Q E h
theorem pr_of {S : PSp} (df : DeP T C f qual ps st) (sc : FnScope N ps (defScope st)) (len : ∀ ds Q, S ds Q → ds.length = ps.length)
    (hbody : N.Nodup → ∀ (f : Addr) (cdv : Value) (A : Around) (outer : List Env) (s : Shared) (H : Hp) (E0 : XK), Room k (cX T N qual st f cdv A outer s H E0).A →
      ∀ m ds (Q : D → Cs → Prop) E, S ds (fun d => Q d []) → XB (cX T N qual st f cdv A outer s H E0) (mdOf m [] H E) (defBody st) ⟨startD N ds, []⟩ (poOf Q)) : Pr T C f (k + 1) S := by
  obtain ⟨p, g, fd, cl, pr, F, bd⟩ := df
  exact ⟨p, g, fd, ps, cl, pr, fnp F sc len hbody, bd⟩
theorem me_of {S : PSp} (df : DeM T C f qual ps st) (sc : FnScope N ps (defScope st)) (len : ∀ ds Q, S ds Q → ds.length = ps.length)
    (hbody : N.Nodup → ∀ (f : Addr) (cdv : Value) (A : Around) (outer : List Env) (s : Shared) (H : Hp) (E0 : XK), Room k (cX T N qual st f cdv A outer s H E0).A →
      ∀ m ds (Q : D → Cs → Prop) E, S ds (fun d => Q d []) → XB (cX T N qual st f cdv A outer s H E0) (mdOf m [] H E) (defBody st) ⟨startD N ds, []⟩ (poOf Q)) : Me T C f (k + 1) S := by
  obtain ⟨g, fd, cl, mt, F, bd⟩ := df
  exact ⟨g, fd, ps, cl, mt, fnp F sc len hbody, bd⟩
theorem eq_of {S : PSp} (df : DeQ T C qual ps st) (sc : FnScope N ps (defScope st)) (len : ∀ ds Q, S ds Q → ds.length = ps.length)
    (hbody : N.Nodup → ∀ (f : Addr) (cdv : Value) (A : Around) (outer : List Env) (s : Shared) (H : Hp) (E0 : XK), Room k (cX T N qual st f cdv A outer s H E0).A →
      ∀ m ds (Q : D → Cs → Prop) E, S ds (fun d => Q d []) → XB (cX T N qual st f cdv A outer s H E0) (mdOf m [] H E) (defBody st) ⟨startD N ds, []⟩ (poOf Q)) : Eq' T C (k + 1) S := by
  obtain ⟨f, fd, h1, h2, h3, h4, F, bd⟩ := df
  exact ⟨f, fd, ps, fnp F sc len hbody, h1, h2, h3, h4, bd⟩
theorem mk_of {S : ISp} (df : DeI T x C qual ps st) (sc : FnScope N ps (defScope st)) (len : ∀ ds Q, S ds Q → ds.length + 1 = ps.length)
    (hbody : N.Nodup → ∀ (f : Addr) (cdv : Value) (A : Around) (outer : List Env) (s : Shared) (H : Hp) (E0 : XK), Room k (cX T N qual st f cdv A outer s H E0).A →
      ∀ m o ds (Q : List (Str × D) → Prop) E, S ds Q → XB (cX T N qual st f cdv A outer s H E0) (mdOf m [(o, .ins C [])] H E) (defBody st) ⟨startD N (.ref o :: ds), [(o, .ins C [])]⟩ (poOf fun d c => ∃ fs, d = .non ∧ c = [(o, .ins C fs)] ∧ Q fs)) : Mk' T x C (k + 1) S := by
  obtain ⟨f, fd, h1, h2, F, bd⟩ := df
  refine ⟨f, fd, ps, h1, h2, fn_D F sc (fun ds c Q E ⟨o, ds', e, _, h⟩ => by rw [e]; exact len _ _ h) fun cdv A outer s H E0 hr m ds c Q E h => ?_, bd⟩
  obtain ⟨o, ds', rfl, rfl, h⟩ := h
  refine (hbody sc.nd f cdv A outer s H E0 hr m o ds' _ E h).imp ?_ ?_ (fun _ h => h) (fun _ h => h)
  · rintro Γ1 ⟨fs, h1, h2, h3⟩
    show Q .non Γ1.c
    rw [h2]
    exact h3
  · rintro d Γ1 ⟨fs, h1, h2, h3⟩
    show Q d Γ1.c
    rw [h1, h2]
    exact h3
end
end Pdl
namespace Pdl
def pr2 : List Nat → List Nat
  | [a, b] => if b < a then [b, a] else [a, b]
  | l => l
def fst2 (l : List Nat) : Nat := match l with | [a, _] => a | _ => 0
def snd2 (l : List Nat) : Nat := match l with | [_, b] => b | _ => 0
def Ranked (as : List (List Nat)) : Prop := ∃ r : Nat → Nat, ∀ a b, [a, b] ∈ as → r a < r b
def Two (as : List (List Nat)) : Prop := ∀ l ∈ as, ∃ a b, l = [a, b]
structure Arrs (as : List (List Nat)) : Prop where
  two : Two as
  ties : Ties (as.map pr2)
  rk : Ranked as
theorem Arrs.len {as : List (List Nat)} (h : Arrs as) : as.length ≤ 10 := by
  have := h.ties.len
  simpa using this
theorem Arrs.ne {as : List (List Nat)} (h : Arrs as) : as ≠ [] := fun e => h.ties.ne (by rw [e]; rfl)
theorem Arrs.pr {as : List (List Nat)} (h : Arrs as) : ∀ l ∈ as, ∃ a b, l = [a, b] ∧ (97 ≤ a ∧ a ≤ 122) ∧ (97 ≤ b ∧ b ≤ 122) ∧ a ≠ b := fun l hl => by
  obtain ⟨a, b, rfl⟩ := h.two l hl
  obtain ⟨x, y, e, h1, h2, h3⟩ := h.ties.pr (pr2 [a, b]) (List.mem_map_of_mem hl)
  refine ⟨a, b, rfl, ?_⟩
  have e : (if b < a then [b, a] else [a, b]) = [x, y] := e
  split at e <;> (simp at e; omega)
theorem Arrs.lw {as : List (List Nat)} (h : Arrs as) : Lw as := fun l hl c hc => by
  obtain ⟨a, b, rfl, h1, h2, h3⟩ := h.pr l hl
  simp at hc
  rcases hc with rfl | rfl <;> omega
theorem pr2_pair {a b : Nat} : (if ([b] < [a]) then [b] ++ [a] else [a] ++ [b]) = pr2 [a, b] := by
  show _ = if b < a then [b, a] else [a, b]
  by_cases h : b < a
  · rw [if_pos (lt1.mpr h), if_pos h]; rfl
  · rw [if_neg (fun z => h (lt1.mp z)), if_neg h]; rfl
def goesOn (L : List (List Nat)) (l : List Nat) : Bool := L.any fun o => decide ([snd2 o] = [fst2 l])
def onL (L : List (List Nat)) : List (List Nat) := L.filter (goesOn L)
theorem onL_less {L : List (List Nat)} (h2 : Two L) (hr : Ranked L) (hne : L ≠ []) : (onL L).length < L.length := by
  obtain ⟨r, hr⟩ := hr
  -- an arrow whose beginning has the least rank
  have ex : ∃ l ∈ L, ∀ o ∈ L, r (fst2 l) ≤ r (fst2 o) := by
    clear h2 hr
    induction L with
    | nil => exact absurd rfl hne
    | cons l L ih =>
      by_cases hL : L = []
      · subst hL
        exact ⟨l, by simp, fun o ho => by simp at ho; rw [ho]; exact Nat.le_refl _⟩
      · obtain ⟨m, hm, hmin⟩ := ih hL
        by_cases hlt : r (fst2 l) ≤ r (fst2 m)
        · refine ⟨l, by simp, fun o ho => ?_⟩
          rcases List.mem_cons.mp ho with rfl | ho
          · exact Nat.le_refl _
          · exact Nat.le_trans hlt (hmin o ho)
        · refine ⟨m, List.mem_cons_of_mem _ hm, fun o ho => ?_⟩
          rcases List.mem_cons.mp ho with rfl | ho
          · omega
          · exact hmin o ho
  obtain ⟨l, hl, hmin⟩ := ex
  unfold onL
  refine List.length_filter_lt_length_iff_exists.mpr ⟨l, hl, ?_⟩
  intro hg
  unfold goesOn at hg
  obtain ⟨o, ho, e⟩ := List.any_eq_true.mp hg
  have e : snd2 o = fst2 l := by simpa using e
  obtain ⟨a, b, rfl⟩ := h2 o ho
  have h1 := hr a b ho
  have h3 := hmin [a, b] ho
  have e : b = fst2 l := e
  have h3 : r (fst2 l) ≤ r a := h3
  rw [← e] at h3
  omega
theorem onL_two {L : List (List Nat)} (h : Two L) : Two (onL L) := fun l hl => h l (List.mem_filter.mp hl).1
theorem onL_ranked {L : List (List Nat)} (h : Ranked L) : Ranked (onL L) := let ⟨r, hr⟩ := h; ⟨r, fun a b hl => hr a b (List.mem_filter.mp hl).1⟩
theorem onL_len (L : List (List Nat)) : (onL L).length ≤ L.length := List.length_filter_le _ _
theorem onL_lw {L : List (List Nat)} (h : Lw L) : Lw (onL L) := fun l hl => h l (List.mem_filter.mp hl).1
def lay (o : List Nat) : List Nat → List Nat
  | [a, b] => if idx o a < idx o b then [a, b] else [b, a]
  | l => l
theorem idx_ne {o : List Nat} {a b : Nat} (ha : a ∈ o) (hb : b ∈ o) (h : a ≠ b) : idx o a ≠ idx o b := fun e => by
  have h1 := idx_at ha
  have h2 := idx_at hb
  rw [e, h2] at h1
  cases h1
  exact h rfl
theorem lay_arrs {ls : List (List Nat)} {o : List Nat} (h : Ties ls) (ho : ∀ x ∈ ls.flatten, x ∈ o) : Arrs (ls.map (lay o)) := by
  have e : (ls.map (lay o)).map pr2 = ls := by
    rw [List.map_map]
    conv => rhs; rw [← List.map_id ls]
    refine List.map_congr_left fun l hl => ?_
    obtain ⟨a, b, rfl, h1, h2, h3⟩ := h.pr l hl
    show pr2 (if idx o a < idx o b then [a, b] else [b, a]) = [a, b]
    split
    · show (if b < a then [b, a] else [a, b]) = _
      rw [if_neg (by omega)]
    · show (if a < b then [a, b] else [b, a]) = _
      rw [if_pos h2]
  refine ⟨fun l hl => ?_, by rw [e]; exact h, idx o, fun x y hxy => ?_⟩
  · obtain ⟨t, ht, rfl⟩ := List.mem_map.mp hl
    obtain ⟨a, b, rfl⟩ := h.two t ht
    show ∃ x y, (if idx o a < idx o b then [a, b] else [b, a]) = [x, y]
    split
    · exact ⟨a, b, rfl⟩
    · exact ⟨b, a, rfl⟩
  · obtain ⟨t, ht, e⟩ := List.mem_map.mp hxy
    obtain ⟨a, b, rfl, h1, h2, h3⟩ := h.pr t ht
    have ha : a ∈ o := ho a (List.mem_flatten.mpr ⟨_, ht, by simp⟩)
    have hb : b ∈ o := ho b (List.mem_flatten.mpr ⟨_, ht, by simp⟩)
    have hne := idx_ne ha hb (by omega)
    have e : (if idx o a < idx o b then [a, b] else [b, a]) = [x, y] := e
    split at e <;> (simp at e; obtain ⟨rfl, rfl⟩ := e; omega)
end Pdl
namespace Pdl
theorem mem_ch {L : List Nat} {a : Nat} : [a] ∈ ch L ↔ a ∈ L := by simp [ch]
theorem idx_app {o : List Nat} {p a : Nat} (h : a ∈ o) : idx (o ++ [p]) a = idx o a := by
  unfold idx
  rw [List.findIdx_append]
  have : List.findIdx (fun x => x == a) o < o.length := List.findIdx_lt_length_of_exists ⟨a, h, by simp⟩
  rw [if_pos this]
theorem idx_new {o : List Nat} {p : Nat} (h : p ∉ o) : idx (o ++ [p]) p = o.length := by
  unfold idx
  rw [List.findIdx_append]
  have : ¬ List.findIdx (fun x => x == p) o < o.length := fun hl => by
    have := List.findIdx_getElem (w := hl)
    simp at this
    exact h (this ▸ List.getElem_mem hl)
  rw [if_neg this]
  simp
theorem idx_lt_len {o : List Nat} {a : Nat} (h : a ∈ o) : idx o a < o.length := List.findIdx_lt_length_of_exists ⟨a, h, by simp⟩
def ff (n : Nat) : Nat → Nat
  | 0 => 1
  | t + 1 => ff n t * (n - t)
end Pdl
namespace Pdl
open PySem L2 PyProof.Rows
section
variable {X : Cx} {μ : Md} {Γ Γ' : En} {Q : QE} {a b c e o : Expr} {es : List Expr} {pos apos cpos : Pos} {P P' : Po} {st : Stmt} {sts : List Stmt} {m : Addr → Bool} {H : Hp} {K : PySem.W.Frag} {x y d : D}
theorem cr_list_str (hc : X.calm = true) : CallR X (.type "list") (fun xs H Q => ∃ l : List Nat, xs = [.str (S l)] ∧ l.length ≤ sizeLine ∧ ∀ p, H p = none → Q (.ref p) (upd H p (.lst (((ch l).map S).map V.str)))) := by
  intro pins s σ H xs us Q I r h
  obtain ⟨l, rfl, hz, q⟩ := h
  obtain ⟨u, rfl, ru⟩ := vals1 r
  obtain ⟨t, rfl⟩ := ru
  refine call_list_str (I.ok.hd hc) (S l) t (fun h' tk acc c' hk e hi => ?_) (by show l.toArray.size ≤ _; simpa using hz)
  refine ⟨.ref s.heap.objs.size, upd H s.heap.objs.size (.lst (((ch l).map S).map V.str)), I.laid hk (Nat.le_refl _) ⟨by simp [ch]; exact hz, acc.toList, c', ?_, by rw [Array.toArray_toList]; exact e⟩, rfl, q _ (I.hok.fresh (Nat.le_refl _))⟩
  refine vals_of_idx _ _ (by simp [ch]; have := hi.1; simpa [S] using this) fun j u hj => ?_
  obtain ⟨c, t', hc, rfl⟩ := hi.2 j u (by rw [← Array.getElem?_toList]; exact hj)
  refine ⟨.str (S [c]), ?_, ⟨_, rfl⟩⟩
  have hc : l[j]? = some c := by
    have : l.toArray[j]? = some c := hc
    simpa using this
  simp [ch, hc]
/-- list(text), as a cell -/
theorem xe_own_listS {p : Pos} (hg : Gl X "list") (hm : X.mg "list" = none) (h : XA X μ (e :: es) Γ fun ds Γ1 => ∃ l, ds = [.str (S l)] ∧ l.length ≤ 100000 ∧ ∀ p, Q (.ref p) ⟨Γ1.s, Γ1.c ++ [(p, .lst (SL (ch l)))]⟩)
    (he : starEach (e :: es) X.env = (false, eval e X.env) :: starEach es X.env := by rfl) (hpl : (backTo pos (starEach es X.env)).any (·.1) = false := by rfl) (hc : X.calm = true := by rfl) : XE X μ (.Call (.Name "list" p) (e :: es) [] pos) Γ Q :=
  PE.imp (pe_callTy (cr_list_str hc) hg hm PyProof.Rows.boot_list h (by decide) (by decide) he hpl) fun σ H q ⟨R, k⟩ => ⟨R, fun vs H1 ds Γ1 s1 f1 R1 r1 ⟨l, hd, hl, hq⟩ => by
    subst hd
    obtain ⟨v, rfl, r⟩ := r1.one
    cases r
    refine ⟨l, rfl, Nat.le_trans hl (by decide), fun p hp => ?_⟩
    obtain ⟨R2, f2⟩ := R1.newC (cl := .lst (SL (ch l))) (o := .lst (((ch l).map S).map V.str)) hp ⟨_, rfl, by rw [SL_strs]; exact RpA.strs _⟩
    exact k _ _ (.ref p) ⟨Γ1.s, Γ1.c ++ [(p, .lst (SL (ch l)))]⟩ s1 (f1.trans f2) R2 (.ref p) (hq p)⟩
def dT (ks : List (List Nat)) : List (Key × D) := ks.map fun l => (Sum.inr (S l), .bl true)
def insT (ks : List (List Nat)) (l : List Nat) : List (List Nat) := if l ∈ ks then ks else ks ++ [l]
theorem xb_close {J : Addr} {Q : D → Cs → Prop} (h : XB X μ sts Γ { nx := fun _ => False, rt := fun d Γ1 => ∃ x y z : Int, 0 ≤ x ∧ 0 ≤ y ∧ 0 ≤ z ∧ Γ1.c = [(J, .lst [.int x, .int y, .int z])] ∧ Q d [(J, .jar)] }) : XB X μ sts Γ (poOf Q) := by
  refine h.post (fun _ h => h.elim) ?_ (fun _ h => h.elim) (fun _ h => h.elim)
  rintro d ⟨s, c⟩ ⟨x, y, z, hx, hy, hz, hc, hq⟩
  have hc : c = [(J, .lst [.int x, .int y, .int z])] := hc
  subst hc
  refine ⟨⟨s, [(J, .jar)]⟩, fun H σ v R r => ⟨rel_close (c1 := []) (c2 := []) hx hy hz R, fw_same (s := s) (c1 := []) (c2 := []), ?_⟩, hq⟩
  have e : tot μ.m [(J, Cell.lst [.int x, .int y, .int z])] = tot μ.m [(J, Cell.jar)] := tot_swap (c1 := []) (c2 := [])
  have r : Rp X.K (hid (tot μ.m [(J, Cell.lst [.int x, .int y, .int z])]) H) v d := r
  rw [e] at r
  exact r
/-- what is called makes a new jar -/
def kS (S : List D → Prop) : SpD := fun ds c Q _ => c = [] ∧ S ds ∧ ∀ p, Q (.ref p) [(p, .jar)]
abbrev Ck (T : Wd) (x : Str) (k : Nat) (S : List D → Prop) : Prop := Ca T x k (kS S)
theorem xe_ck {k n : Nat} {xn : Str} {S : List D → Prop} {p : Pos} (C : Ck (wdX X) xn k S) (hr : Room n X.A) (hkn : k ≤ n) (hg : Gl X xn) (h : XA X μ (e :: es) Γ fun ds Γ1 => S ds ∧ ∀ p, Q (.ref p) ⟨Γ1.s, (p, .jar) :: Γ1.c⟩) (hdb : (xn == ("__debug__" : Str)) = false := by decide)
    (he : starEach (e :: es) X.env = (false, eval e X.env) :: starEach es X.env := by rfl) (hpl : (backTo pos (starEach es X.env)).any (·.1) = false := by rfl) : XE X μ (.Call (.Name xn p) (e :: es) [] pos) Γ Q := by
  obtain ⟨ps, C⟩ := C
  refine xe_call C (hr.mono hkn) hg (PA.imp h fun σ H q ⟨R, k⟩ => ⟨R, fun vs H' ds Γ' s' f' R' r' hq => k vs H' ds Γ' s' f' R' r' ?_⟩) hdb he hpl
  exact ⟨[], Γ'.c, rfl, fun Qc Ec kq _ => ⟨rfl, hq.1, fun p => kq _ _ (hq.2 p)⟩⟩
end
end Pdl
namespace Pdl
open PySem L2 PyProof.Rows
section
variable {X : Cx} {μ : Md} {Γ : En} {sts : List Stmt}
/-- a new jar is handed out -/
theorem xb_closeN {Q : D → Cs → Prop} (h : XB X μ sts Γ { nx := fun _ => False, rt := fun d Γ1 => ∃ (J : Addr) (x y z : Int), 0 ≤ x ∧ 0 ≤ y ∧ 0 ≤ z ∧ d = .ref J ∧ Γ1.c = [(J, .lst [.int x, .int y, .int z])] ∧ Q d [(J, .jar)] }) : XB X μ sts Γ (poOf Q) := by
  refine h.post (fun _ h => h.elim) ?_ (fun _ h => h.elim) (fun _ h => h.elim)
  rintro d ⟨s, c⟩ ⟨J, x, y, z, hx, hy, hz, hd, hc, hq⟩
  have hc : c = [(J, .lst [.int x, .int y, .int z])] := hc
  subst hc
  refine ⟨⟨s, [(J, .jar)]⟩, fun H σ v R r => ⟨rel_close (c1 := []) (c2 := []) hx hy hz R, fw_same (s := s) (c1 := []) (c2 := []), ?_⟩, hq⟩
  have e : tot μ.m [(J, Cell.lst [.int x, .int y, .int z])] = tot μ.m [(J, Cell.jar)] := tot_swap (c1 := []) (c2 := [])
  have r : Rp X.K (hid (tot μ.m [(J, Cell.lst [.int x, .int y, .int z])]) H) v d := r
  rw [e] at r
  exact r
end
theorem ck_of {T : Wd} {x : Str} {st : Stmt} {N ps : List Str} {k : Nat} {S : List D → Prop} (df : De T x ps st) (sc : FnScope N ps (defScope st)) (len : ∀ ds, S ds → ds.length = ps.length)
    (hbody : N.Nodup → ∀ (f : Addr) (cdv : Value) (A : Around) (outer : List Env) (s : Shared) (H : Hp) (E0 : XK), Room k (cX T N x st f cdv A outer s H E0).A →
      ∀ m ds (Q : D → Cs → Prop) E, S ds → (∀ p, Q (.ref p) [(p, .jar)]) → XB (cX T N x st f cdv A outer s H E0) (mdOf m [] H E) (defBody st) ⟨startD N ds, []⟩ (poOf Q)) : Ck T x (k + 1) S :=
  ⟨ps, cal_of df sc (fun ds c Q E h => len ds h.2.1) fun f cdv A outer s H E0 hr m ds c Q E h => by
    obtain ⟨rfl, h1, h2⟩ := h
    exact hbody sc.nd f cdv A outer s H E0 hr m ds Q E h1 h2⟩
theorem ch_erase {L : List Nat} {i : Nat} : (SL (ch L)).eraseIdx i = SL (ch (L.eraseIdx i)) := by
  simp [SL, ch, List.eraseIdx_eq_take_drop_succ, List.map_take, List.map_drop]
theorem ch_snoc {L : List Nat} {c : Nat} : SL (ch L) ++ [.str (S [c])] = SL (ch (L ++ [c])) := by simp [SL, ch]
theorem ch_get {L : List Nat} {i c : Nat} (h : L[i]? = some c) : (SL (ch L))[i]? = some (.str (S [c])) := by simp [SL, ch, h]
theorem pop_perm {L F w : List Nat} {i c : Nat} (h : L[i]? = some c) (p : (L ++ F).Perm w) : (L.eraseIdx i ++ (F ++ [c])).Perm w := by
  obtain ⟨hi, rfl⟩ := List.getElem?_eq_some_iff.mp h
  have h1 : (L[i] :: L.eraseIdx i).Perm L := by
    rw [List.eraseIdx_eq_take_drop_succ]
    have e : L = L.take i ++ (L[i] :: L.drop (i + 1)) := by rw [List.getElem_cons_drop, List.take_append_drop]
    exact (List.perm_middle (a := L[i]) (l₁ := L.take i) (l₂ := L.drop (i + 1))).symm.trans (by rw [← e])
  refine List.Perm.trans ?_ p
  have h2 : (L.eraseIdx i ++ (F ++ [L[i]])).Perm (L[i] :: (L.eraseIdx i ++ F)) := by
    rw [← List.append_assoc]
    exact List.perm_append_singleton _ _
  exact h2.trans (h1.append_right F)
theorem sN_lt {l : List Nat} (h : l.Nodup) : (sN l).Pairwise (· < ·) := by
  have h1 : (sN l).Pairwise (fun a b => leN a b = true) := List.pairwise_mergeSort leN_trans leN_total _
  have h2 : (sN l).Nodup := (List.mergeSort_perm _ _).nodup_iff.mpr h
  exact (h1.and h2).imp fun ⟨a, b⟩ => by simp [leN] at a; omega
theorem sN_len' (o : List Nat) : (sN o).length = o.length := (List.mergeSort_perm _ _).length_eq
theorem mem_sN' {o : List Nat} {x : Nat} : x ∈ sN o ↔ x ∈ o := (List.mergeSort_perm _ _).mem_iff
end Pdl
namespace Pdl
def AzP (l : List Nat) : Prop := ∀ c ∈ l, 97 ≤ c ∧ c ≤ 122
structure NetI (w : List Nat) (k : Nat) (ks : List (List Nat)) : Prop where
  nd : ks.Nodup
  pr : ∀ t ∈ ks, ∃ a b, t = [a, b] ∧ a < b ∧ a ∈ w ∧ b ∈ w
  par : ∀ j c, 1 ≤ j → j < k → w[j]? = some c → ∃ i d, i < j ∧ w[i]? = some d ∧ pr2 [c, d] ∈ ks
theorem insT_mem {ks : List (List Nat)} {l x : List Nat} : x ∈ insT ks l ↔ x ∈ ks ∨ x = l := by
  unfold insT
  split
  · exact ⟨.inl, fun h => h.elim id fun e => e ▸ by assumption⟩
  · simp
theorem insT_nodup {ks : List (List Nat)} {l : List Nat} (h : ks.Nodup) : (insT ks l).Nodup := by
  unfold insT
  split
  · exact h
  · rw [List.nodup_append]
    exact ⟨h, by simp, fun x hx y hy e => by simp at hy; subst hy; subst e; contradiction⟩
theorem pr2_lt {a b : Nat} {w : List Nat} (h : a ≠ b) (ha : a ∈ w) (hb : b ∈ w) : ∃ x y, pr2 [a, b] = [x, y] ∧ x < y ∧ x ∈ w ∧ y ∈ w := by
  show ∃ x y, (if b < a then [b, a] else [a, b]) = [x, y] ∧ _
  split
  · exact ⟨b, a, rfl, by assumption, hb, ha⟩
  · exact ⟨a, b, rfl, by omega, ha, hb⟩
theorem NetI.ins {w : List Nat} {k : Nat} {ks : List (List Nat)} {a b : Nat} (h : NetI w k ks) (hne : a ≠ b) (ha : a ∈ w) (hb : b ∈ w) : NetI w k (insT ks (pr2 [a, b])) := by
  refine ⟨insT_nodup h.nd, fun t ht => ?_, fun j c h1 h2 h3 => ?_⟩
  · rcases insT_mem.mp ht with ht | rfl
    · exact h.pr t ht
    · exact pr2_lt hne ha hb
  · obtain ⟨i, d, q1, q2, q3⟩ := h.par j c h1 h2 h3
    exact ⟨i, d, q1, q2, insT_mem.mpr (.inl q3)⟩
theorem NetI.next {w : List Nat} {k i : Nat} {ks : List (List Nat)} {a b : Nat} (hw : w.Nodup) (h : NetI w k ks) (ha : w[k]? = some a) (hb : w[i]? = some b) (hik : i < k) : a ≠ b ∧ NetI w (k + 1) (insT ks (pr2 [a, b])) := by
  have hne : a ≠ b := fun e => by
    obtain ⟨p1, p2⟩ := List.getElem?_eq_some_iff.mp ha
    obtain ⟨p3, p4⟩ := List.getElem?_eq_some_iff.mp hb
    have := (List.getElem_inj hw).mp (p2.trans (e.trans p4.symm))
    omega
  have h1 := h.ins hne (List.mem_of_getElem? ha) (List.mem_of_getElem? hb)
  refine ⟨hne, h1.nd, h1.pr, fun j c g1 g2 g3 => ?_⟩
  by_cases hj : j = k
  · subst hj
    rw [ha] at g3
    cases g3
    exact ⟨i, b, hik, hb, insT_mem.mpr (.inr rfl)⟩
  · exact h1.par j c g1 (by omega) g3
theorem net_ties {w : List Nat} {ks : List (List Nat)} (hw : w.Nodup) (hA : AzP w) (h2 : 2 ≤ w.length) (h7 : w.length ≤ 7) (hl : ks.length ≤ 10) (h : NetI w w.length ks) : Ties (srt ks) ∧ ∀ x, x ∈ (srt ks).flatten ↔ x ∈ w := by
  have hm : ∀ t, t ∈ srt ks ↔ t ∈ ks := fun t => (srt_perm ks).mem_iff
  have hsub : ∀ x ∈ (srt ks).flatten, x ∈ w := fun x hx => by
    obtain ⟨t, ht, hx⟩ := List.mem_flatten.mp hx
    obtain ⟨a, b, rfl, h1, h3, h4⟩ := h.pr t ((hm t).mp ht)
    simp at hx
    rcases hx with rfl | rfl
    · exact h3
    · exact h4
  have hcl : ∀ {C : Nat → Prop}, (∀ a b, [a, b] ∈ srt ks → (C a ∨ C b) → C a ∧ C b) → ∀ {c d : Nat}, pr2 [c, d] ∈ ks → (C c ∨ C d) → C c ∧ C d := fun {C} hc {c d} hp hor => by
    have hp : (if d < c then [d, c] else [c, d]) ∈ ks := hp
    split at hp
    · exact (hc d c ((hm _).mpr hp) hor.symm).symm
    · exact hc c d ((hm _).mpr hp) hor
  have hmem : ∀ {c d : Nat}, pr2 [c, d] ∈ ks → c ∈ (srt ks).flatten ∧ d ∈ (srt ks).flatten := fun {c d} hp => by
    have hp : (if d < c then [d, c] else [c, d]) ∈ ks := hp
    split at hp
    · exact ⟨List.mem_flatten.mpr ⟨_, (hm _).mpr hp, by simp⟩, List.mem_flatten.mpr ⟨_, (hm _).mpr hp, by simp⟩⟩
    · exact ⟨List.mem_flatten.mpr ⟨_, (hm _).mpr hp, by simp⟩, List.mem_flatten.mpr ⟨_, (hm _).mpr hp, by simp⟩⟩
  obtain ⟨w0, hw0⟩ : ∃ c, w[0]? = some c := ⟨_, List.getElem?_eq_getElem (by omega)⟩
  obtain ⟨w1, hw1⟩ : ∃ c, w[1]? = some c := ⟨_, List.getElem?_eq_getElem (by omega)⟩
  -- down to the first one
  have down : ∀ {C : Nat → Prop}, (∀ a b, [a, b] ∈ srt ks → (C a ∨ C b) → C a ∧ C b) → ∀ j, ∀ c, w[j]? = some c → C c → C w0 := fun {C} hc j => by
    induction j using Nat.strongRecOn with
    | ind j ih =>
      intro c hcj hC
      by_cases hj : j = 0
      · subst hj
        rw [hw0] at hcj
        cases hcj
        exact hC
      · obtain ⟨i, d, q1, q2, q3⟩ := h.par j c (by omega) (List.getElem?_eq_some_iff.mp hcj).1 hcj
        exact ih i q1 d q2 (hcl hc q3 (.inl hC)).2
  have up : ∀ {C : Nat → Prop}, (∀ a b, [a, b] ∈ srt ks → (C a ∨ C b) → C a ∧ C b) → C w0 → ∀ j, ∀ c, w[j]? = some c → C c := fun {C} hc h0 j => by
    induction j using Nat.strongRecOn with
    | ind j ih =>
      intro c hcj
      by_cases hj : j = 0
      · subst hj
        rw [hw0] at hcj
        cases hcj
        exact h0
      · obtain ⟨i, d, q1, q2, q3⟩ := h.par j c (by omega) (List.getElem?_eq_some_iff.mp hcj).1 hcj
        exact (hcl hc q3 (.inr (ih i q1 d q2))).1
  have all : ∀ x ∈ w, x ∈ (srt ks).flatten := fun x hx => by
    obtain ⟨j, hj⟩ := List.mem_iff_getElem?.mp hx
    by_cases h0 : j = 0
    · subst h0
      rw [hw0] at hj
      cases hj
      obtain ⟨i, d, q1, q2, q3⟩ := h.par 1 w1 (by omega) (by omega) hw1
      have : i = 0 := by omega
      subst this
      rw [hw0] at q2
      cases q2
      exact (hmem q3).2
    · obtain ⟨i, d, q1, q2, q3⟩ := h.par j x (by omega) (List.getElem?_eq_some_iff.mp hj).1 hj
      exact (hmem q3).1
  refine ⟨⟨fun e => ?_, by rw [(srt_perm ks).length_eq]; exact hl, fun t ht => ?_, ?_, ?_, fun C h0 hc x hx => ?_⟩, fun x => ⟨hsub x, all x⟩⟩
  · have := all w0 (List.mem_of_getElem? hw0)
    rw [e] at this
    cases this
  · obtain ⟨a, b, rfl, h1, h3, h4⟩ := h.pr t ((hm t).mp ht)
    exact ⟨a, b, rfl, (hA a h3).1, h1, (hA b h4).2⟩
  · have h1 := srt_sorted ks
    have h3 : (srt ks).Nodup := (srt_perm ks).nodup_iff.mpr h.nd
    exact (h1.and h3).imp fun {a b} ⟨x, y⟩ => by
      unfold leL at x
      have x : a ≤ b := by simpa using x
      exact Decidable.byContradiction fun hn => y (List.le_antisymm x (List.not_lt.mp hn))
  · exact Nat.le_trans (us_len_le hsub) h7
  · obtain ⟨j, hj⟩ := List.mem_iff_getElem?.mp (hsub x hx)
    refine up hc ?_ j x hj
    -- the first tie's places
    cases e : srt ks with
    | nil => rw [e] at hx; cases hx
    | cons t ts =>
      have ht : t ∈ srt ks := by rw [e]; simp
      obtain ⟨a, b, rfl, h1, h3, h4⟩ := h.pr t ((hm t).mp ht)
      obtain ⟨i, hi⟩ := List.mem_iff_getElem?.mp h3
      exact down hc i a hi (h0 [a, b] (by rw [e]; rfl) a (by simp))
end Pdl
namespace Pdl
open PySem L2 PyProof.Rows
theorem RpA.pick {K : PySem.W.Frag} {G : Hp} {vs : List V} {ds : List D} (r : RpA K G vs ds) : ∀ ix : List Nat, RpA K G (ix.filterMap (vs[·]?)) (ix.filterMap (ds[·]?))
  | [] => .nil
  | i :: ix => by
    have ih := RpA.pick r ix
    rw [List.filterMap_cons, List.filterMap_cons]
    cases e : vs[i]? with
    | none =>
      have : ds[i]? = none := by
        rw [List.getElem?_eq_none_iff] at e ⊢
        rw [← r.length]
        exact e
      rw [this]
      exact ih
    | some v =>
      obtain ⟨d, h1, h2⟩ := r.get e
      rw [h1]
      exact .cons h2 ih
theorem lay_pr2 {ls : List (List Nat)} {o : List Nat} (h : Ties ls) : (ls.map (lay o)).map pr2 = ls := by
  rw [List.map_map]
  conv => rhs; rw [← List.map_id ls]
  refine List.map_congr_left fun l hl => ?_
  obtain ⟨a, b, rfl, h1, h2, h3⟩ := h.pr l hl
  show pr2 (if idx o a < idx o b then [a, b] else [b, a]) = [a, b]
  split
  · show (if b < a then [b, a] else [a, b]) = _
    rw [if_neg (by omega)]
  · show (if a < b then [a, b] else [b, a]) = _
    rw [if_pos h2]
end Pdl
namespace Pdl
theorem perm_of_sub {o l : List Nat} (ho : o.Nodup) (hl : l.Nodup) (hs : ∀ x ∈ o, x ∈ l) (hn : o.length = l.length) : o.Perm l := by
  refine (List.perm_ext_iff_of_nodup ho hl).mpr fun x => ⟨hs x, fun hx => ?_⟩
  refine Decidable.byContradiction fun hn' => ?_
  have := nodup_len (l := x :: o) (m := l) (List.nodup_cons.mpr ⟨hn', ho⟩) fun y hy => by
    rcases List.mem_cons.mp hy with rfl | hy
    · exact hx
    · exact hs y hy
  simp at this
  omega
theorem mem_srt {ls : List (List Nat)} {x : List Nat} : x ∈ srt ls ↔ x ∈ ls := (srt_perm ls).mem_iff
end Pdl
namespace Pdl
open PySem L2 PyProof.Rows
mutual
/-- plain data: texts of small signs, small ints -/
def okD : D → Bool
  | .non => true
  | .bl _ => true
  | .int i => decide (-100000000000 ≤ i ∧ i ≤ 100000000000)
  | .str x => x.cps.toList.all (fun c => decide (c < 1000))
  | .lst xs => okL xs
  | .tup xs => okL xs
  | .tupx xs => okL xs
  | _ => false
def okL : List D → Bool
  | [] => true
  | x :: xs => okD x && okL xs
end
mutual
def wtD : D → Nat
  | .int _ => 40
  | .str x => x.length
  | .lst xs => wtL xs
  | .tup xs => wtL xs
  | .tupx xs => wtL xs
  | _ => 0
def wtL : List D → Nat
  | [] => 0
  | x :: xs => wtD x + 1 + wtL xs
end
mutual
def dpD : D → Nat
  | .lst xs => dpL xs + 1
  | .tup xs => dpL xs + 1
  | .tupx xs => dpL xs + 1
  | _ => 0
def dpL : List D → Nat
  | [] => 0
  | x :: xs => max (dpD x) (dpL xs)
end
mutual
theorem ok_py : ∀ (d : D), okD d = true → isPy d = true
  | .non, _ => rfl
  | .bl _, _ => rfl
  | .int _, _ => rfl
  | .str _, _ => rfl
  | .lst xs, h => by rw [isPy]; exact ok_pyL xs (by rw [okD] at h; exact h)
  | .tup xs, h => by rw [isPy]; exact ok_pyL xs (by rw [okD] at h; exact h)
  | .tupx xs, h => by rw [isPy]; exact ok_pyL xs (by rw [okD] at h; exact h)
  | .ty _, h => by simp [okD] at h
  | .ref _, h => by simp [okD] at h
  | .dct _, h => by simp [okD] at h
  | .ins _ _, h => by simp [okD] at h
  | .set _ _, h => by simp [okD] at h
  | .dcT _, h => by simp [okD] at h
  | .dcL _, h => by simp [okD] at h
  | .dctL _, h => by simp [okD] at h
theorem ok_pyL : ∀ (d : List D), okL d = true → isPyL d = true
  | [], _ => rfl
  | x :: xs, h => by
    rw [okL, Bool.and_eq_true] at h
    rw [isPyL, ok_py x h.1, ok_pyL xs h.2]
    rfl
end
theorem int_log {i : Int} (h : -100000000000 ≤ i ∧ i ≤ 100000000000) : i.natAbs.log2 < 37 := by
  have h1 : i.natAbs ≤ 100000000000 := by omega
  by_cases h0 : i.natAbs = 0
  · rw [h0]; decide
  · exact (Nat.log2_lt h0).mpr (by omega)
theorem int_shown {i : Int} (h : -100000000000 ≤ i ∧ i ≤ 100000000000) : (PyData.shown (.int i)).length ≤ 13 := by
  have h1 : (toString i).length ≤ 12 + 1 := int_text_length_le10 (by decide) (by omega)
  show (Str.ofString (toString i)).length ≤ 13
  rw [ofString_len]
  omega
mutual
theorem ok_can : ∀ (d : D), okD d = true → PyData.canLay0 (toPy d) = true ∧ PyData.showable (toPy d) = true ∧ PyData.hasDict (toPy d) = false ∧ PyData.depth (toPy d) = dpD d ∧ PyData.weight (toPy d) ≤ wtD d ∧ PyData.intsShort 13 (toPy d) = true
  | .non, _ => ⟨rfl, rfl, rfl, rfl, Nat.le_refl _, rfl⟩
  | .bl _, _ => ⟨rfl, rfl, rfl, rfl, Nat.le_refl _, rfl⟩
  | .int i, h => by
    have h : -100000000000 ≤ i ∧ i ≤ 100000000000 := by simpa [okD] using h
    have hl := int_log h
    refine ⟨rfl, ?_, rfl, rfl, ?_, ?_⟩
    · simp only [toPy, PyData.showable, decide_eq_true_eq]; omega
    · show (if i == 0 then 0 else i.natAbs.log2 + 1) ≤ 40
      split <;> omega
    · simp only [toPy, PyData.intsShort, decide_eq_true_eq]
      exact int_shown h
  | .str x, h => by
    have hs : PyData.strOk x = true := by
      unfold PyData.strOk
      rw [Array.all_eq_true_iff_forall_mem]
      intro c hc
      have := (List.all_eq_true.mp (by simpa only [okD] using h)) c (Array.mem_toList_iff.mpr hc)
      simp at this ⊢
      omega
    exact ⟨hs, rfl, rfl, rfl, Nat.le_refl _, rfl⟩
  | .lst xs, h => by
    rw [okD] at h
    obtain ⟨h1, h2, h3, h4, h5, h6⟩ := ok_canL xs h
    exact ⟨h1, h2, h3, congrArg (· + 1) h4, h5, h6⟩
  | .tup xs, h => by
    rw [okD] at h
    obtain ⟨h1, h2, h3, h4, h5, h6⟩ := ok_canL xs h
    exact ⟨h1, h2, h3, congrArg (· + 1) h4, h5, h6⟩
  | .tupx xs, h => by
    rw [okD] at h
    obtain ⟨h1, h2, h3, h4, h5, h6⟩ := ok_canL xs h
    exact ⟨h1, h2, h3, congrArg (· + 1) h4, h5, h6⟩
  | .ty _, h => by simp [okD] at h
  | .ref _, h => by simp [okD] at h
  | .dct _, h => by simp [okD] at h
  | .ins _ _, h => by simp [okD] at h
  | .set _ _, h => by simp [okD] at h
  | .dcT _, h => by simp [okD] at h
  | .dcL _, h => by simp [okD] at h
  | .dctL _, h => by simp [okD] at h
theorem ok_canL : ∀ (d : List D), okL d = true → PyData.canLayAll0 (toPyL d) = true ∧ PyData.showableAll (toPyL d) = true ∧ PyData.hasDictAll (toPyL d) = false ∧ PyData.depthAll (toPyL d) = dpL d ∧ PyData.weightAll (toPyL d) ≤ wtL d ∧ PyData.intsShortAll 13 (toPyL d) = true
  | [], _ => ⟨rfl, rfl, rfl, rfl, Nat.le_refl _, rfl⟩
  | x :: xs, h => by
    rw [okL, Bool.and_eq_true] at h
    obtain ⟨h1, h2, h3, h4, h5, h6⟩ := ok_can x h.1
    obtain ⟨i1, i2, i3, i4, i5, i6⟩ := ok_canL xs h.2
    refine ⟨?_, ?_, ?_, ?_, ?_, ?_⟩
    · rw [toPyL, PyData.canLayAll0, h1, i1]; rfl
    · rw [toPyL, PyData.showableAll, h2, i2]; rfl
    · rw [toPyL, PyData.hasDictAll, h3, i3]; rfl
    · rw [toPyL, PyData.depthAll, h4, i4]; rfl
    · rw [toPyL, PyData.weightAll, wtL]; omega
    · rw [toPyL, PyData.intsShortAll, h6, i6]; rfl
end
section
variable {X : Cx} {x y : D}
def shownD (d : D) : Str := (toPy d).shown
end
def CaG (T : Wd) (x : Str) (k : Nat) (S : SpD) : Prop := ∃ ps, CalG T.P T.w T.K T.mg T.base x k ps S
abbrev CjG (T : Wd) (x : Str) (k : Nat) (S : PSp) : Prop := CaG T x k (jS S)
section
variable {T : Wd}
theorem cjg_of {x : Str} {st : Stmt} {N ps : List Str} {k : Nat} {S : PSp} (df : De T x ps st) (sc : FnScope N ps (defScope st)) (len : ∀ ds Q, S ds Q → ds.length + 1 = ps.length)
    (hbody : N.Nodup → ∀ (f : Addr) (cdv : Value) (A : Around) (outer : List Env) (s : Shared) (H : Hp) (E0 : XK), Room k (cX T N x st f cdv A outer s H E0).A → (cX T N x st f cdv A outer s H E0).A.guards = some [] →
      ∀ m J ds (Q : D → Cs → Prop) E, S ds (fun d => Q d [(J, .jar)]) → XB (cX T N x st f cdv A outer s H E0) (mdOf m [(J, .jar)] H E) (defBody st) ⟨startD N (.ref J :: ds), [(J, .jar)]⟩ (poOf Q)) : CjG T x (k + 1) S :=
  ⟨ps, calg_of df sc (fun ds c Q E ⟨J, ds', h1, h2, h3⟩ => by rw [h1]; exact len ds' _ h3) fun f cdv A outer s H E0 hr hg m ds c Q E h => by
    obtain ⟨J, ds', rfl, rfl, h⟩ := h
    exact hbody sc.nd f cdv A outer s H E0 hr hg m J ds' Q E h⟩
end
section
variable {X : Cx} {μ : Md} {Γ : En} {Q : QE} {k n : Nat} {x : Str} {p pos apos : Pos} {e o : Expr} {es : List Expr}
theorem xe_cjG {S : PSp} (C : CjG (wdX X) x k S) (hr : Room n X.A) (gd : X.A.guards = some []) (hkn : k ≤ n) (hg : Gl X x) (h : XA X μ (e :: es) Γ fun ds Γ1 => ∃ J cs ds', ds = .ref J :: ds' ∧ Γ1.c = (J, .jar) :: cs ∧ ∀ Qc : D → Prop, (∀ d, Q d Γ1 → Qc d) → S ds' Qc) (hdb : (x == ("__debug__" : Str)) = false := by decide)
    (he : starEach (e :: es) X.env = (false, eval e X.env) :: starEach es X.env := by rfl) (hpl : (backTo pos (starEach es X.env)).any (·.1) = false := by rfl) : XE X μ (.Call (.Name x p) (e :: es) [] pos) Γ Q := by
  obtain ⟨ps, C⟩ := C
  refine xe_callG C (hr.mono hkn) gd hg (PA.imp h fun σ H q ⟨R, k⟩ => ⟨R, fun vs H' ds Γ' s' f' R' r' hq => k vs H' ds Γ' s' f' R' r' ?_⟩) hdb he hpl
  obtain ⟨J, cs, ds', rfl, hc, hq⟩ := hq
  exact asks_j hc hq
end
end Pdl
namespace Pdl
open PySem L2 PyProof.Rows PySem.Spec
/-- the tracked part at the law's call: the script alone, unless the module owns it -/
def scr (K : PySem.W.Frag) (a : Addr) (vs : List Value) (ns : List Int) : Hp := fun b => if b = a ∧ K.lookup a = none then some (.frz { cls := .type "list", data := .seq vs.toArray } (.lst (ns.map V.int))) else none
theorem scr_cases {K : PySem.W.Frag} {a : Addr} {vs : List Value} {ns : List Int} (b : Addr) : scr K a vs ns b = none ∨ (b = a ∧ K.lookup a = none ∧ scr K a vs ns b = some (.frz { cls := .type "list", data := .seq vs.toArray } (.lst (ns.map V.int)))) := by
  by_cases h : b = a ∧ K.lookup a = none
  · exact .inr ⟨h.1, h.2, if_pos h⟩
  · exact .inl (if_neg h)
section
variable {P : Program} {w : World} {K : PySem.W.Frag} {mg mb : Str → Option Value} {k : Nat} {fa a : Addr} {fd : FuncData} {x : Str} {sp : Sp} {s₁ : Shared} {vs : List Value} {ns : List Int}
theorem law_callG (kin : K.In s₁.heap) (nsm : s₁.heap.Ns mainGlobals mg) (nsb : s₁.heap.Ns builtinsNs mb) (bb : ∀ x : Str, x ≠ "__name__" → mb x = bootBuiltins x) (nol : s₁.heap.NoLimit) (gen : s₁.gens = #[])
    (at_a : s₁.heap.get? a = some { cls := .type "list", data := .seq vs.toArray }) (hin : IntsAre vs ns) (few : ns.length ≤ sizeLine) (room : Room k callerA)
    (F : ∀ base : Heap, K.In base → base.Ns mainGlobals mg → FnG P w K mg base k fa fd [x] sp) (bind : ∀ (s : Shared) (u : Value), BindsTo s fd ⟨[u], []⟩ [(x, u)])
    (pro : ∀ H : Hp, SqL K H a (ns.map V.int) → sp [.ref a] H (fun v _ => v = .bl true) fun _ _ _ => False) :
    codeAny (model P w) callerA (.call (.ref fa) ⟨[.ref a], []⟩) (fun r s' => r = .ok (.ret (.bool true)) ∧ OldK s₁.heap s'.heap ∧ s'.os = s₁.os ∧ AllBare s'.gens) s₁ := by
  have rel := vals_ints hin
  have inB : ∀ {b : Addr} {o : Obj}, s₁.heap.get? b = some o → scr K a vs ns b = none → (hidT s₁.heap (scr K a vs ns)).get? b = some o := hidT_get
  have dictB : ∀ {b : Addr} {o : Obj} {es : Array DictEntry} {ep : Nat}, s₁.heap.get? b = some o → o.data = .dict es ep → scr K a vs ns b = none := by
    intro b o es ep e d
    rcases scr_cases (K := K) (a := a) (vs := vs) (ns := ns) b with h | ⟨rfl, _, _⟩
    · exact h
    · rw [at_a] at e
      cases e
      cases d
  have spaceB : ∀ {b : Addr} {m : Str → Option Value}, s₁.heap.Ns b m → (hidT s₁.heap (scr K a vs ns)).Ns b m := by
    rintro b m ⟨o, es, ep, e, d, r⟩
    exact ⟨o, es, ep, inB e (dictB e d), d, r⟩
  have kinB : K.In (hidT s₁.heap (scr K a vs ns)) := by
    intro b o e
    refine inB (kin b o e) ?_
    rcases scr_cases (K := K) (a := a) (vs := vs) (ns := ns) b with h | ⟨rfl, h, _⟩
    · exact h
    · rw [h] at e
      cases e
  have modB : Mod K mg (hidT s₁.heap (scr K a vs ns)) := by
    obtain ⟨mc, n1, n2⟩ := nol
    exact ⟨kinB, spaceB nsm, ⟨mb, spaceB nsb, bb⟩, ⟨mc, spaceB n1, n2⟩⟩
  have okB : HOk P w (scr K a vs ns) s₁.heap := by
    intro b u e
    rcases scr_cases (K := K) (a := a) (vs := vs) (ns := ns) b with h | ⟨rfl, _, h⟩
    · rw [h] at e
      cases e
    · rw [h] at e
      cases e
      refine ⟨at_a, ?_, vs, _, rel, at_a⟩
      rw [List.length_map]
      exact few
  have seqB : SqL K (scr K a vs ns) a (ns.map V.int) := by
    cases hk : K.lookup a with
    | none => exact .inl (.inr ⟨{ cls := .type "list", data := .seq vs.toArray }, if_pos ⟨rfl, hk⟩⟩)
    | some o =>
      have e := kin a o hk
      rw [at_a] at e
      cases e
      refine .inr ⟨_, vs.toArray, _, hk, rfl, rfl, rfl, ?_, by simpa using rel⟩
      rw [List.size_toArray, hin.length]
      exact few
  have envB : Env0 P w K mg (hidT s₁.heap (scr K a vs ns)) callerA [] s₁ (scr K a vs ns) := ⟨rfl, modB, fun b o e => of_hidT e, Nat.le_of_eq (hidT_size _ _), trivial, fun b hb => (by cases hb), okB, .of_eq gen⟩
  have go := (F _ kinB (spaceB nsm)).run callerA [] s₁ (scr K a vs ns) ⟨[.ref a], []⟩ [.ref a] [.ref a] _ _ room rfl envB (bind s₁ (.ref a)) (.cons rfl .nil) (pro _ seqB)
  refine codeAny_mono go fun r s' done => ?_
  match r, done with
  | .ok (.ret u), ⟨v, H', os, bare, un, hok', rv, q⟩ =>
    have q : v = .bl true := q
    subst q
    obtain rfl : u = Value.bool true := rv
    refine ⟨rfl, OldK.of_keep fun b o e => ?_, os, bare⟩
    rcases scr_cases (K := K) (a := a) (vs := vs) (ns := ns) b with h | ⟨_, _, h⟩
    · exact un.keep b o e h (fun z => by cases z) (fun z => by cases z)
    · have e1 := (okB b _ h).1
      rw [e] at e1
      cases e1
      exact (hok' b _ (un.frzs b _ _ h)).1
end
end Pdl
namespace Pdl
open PySem L2 PyProof.Rows PySem.Spec
/-- a def's function object: where it is found, its names, its text -/
structure DefX where
  adr : PySem.W.Frag → Addr
  name : Str
  qual : Str
  st : Stmt
abbrev SeenF : Type := Option (Str × Str × Arguments × FuncBody × Scope × Addr × List (Str × Addr) × Value × Addr)
def seenF (K : PySem.W.Frag) (a : Addr) : SeenF := match K.lookup a with
  | some ⟨_, _, .func fd, _⟩ => some (fd.name, fd.qualname, fd.params, fd.body, fd.scope, fd.globals, fd.closure, fd.defaults, fd.builtins)
  | _ => none
def DefX.due (d : DefX) : SeenF := some (d.name, d.qual, defArgs d.st, .stmts (defBody d.st), defScope d.st, mainGlobals, [], .none, builtinsNs)
def DefX.ok (K : PySem.W.Frag) (d : DefX) : Bool := PySem.W.keepIn K (.ref (d.adr K)) && (match K.lookup (d.adr K) with
  | some ⟨_, _, .func fd, _⟩ => PySem.W.codeIn K fd.code d.qual
  | _ => false)
theorem DefX.fo {K : PySem.W.Frag} {d : DefX} (e : seenF K (d.adr K) = d.due) (c : d.ok K = true) : ∃ fd, Fun K d.name d.qual d.st (d.adr K) fd := by
  obtain ⟨kp, c2⟩ := Bool.and_eq_true_iff.mp c
  unfold seenF at e
  cases q : K.lookup (d.adr K) with
  | none => rw [q] at c2; cases c2
  | some o =>
    obtain ⟨oc, od, dt, osl⟩ := o
    rw [q] at c2 e
    cases dt with
    | func fd =>
      obtain ⟨n1, n2, n3, n4, n5, n6, n7, n8, n9, n10, n11, n12, n13, n14, n15⟩ := fd
      unfold DefX.due at e
      simp only [Option.some.injEq, Prod.mk.injEq] at e
      obtain ⟨h1, h2, h3, h4, h5, h6, h7, h8, h9⟩ := e
      subst h1 h2 h3 h4 h5 h6 h7 h8 h9
      exact ⟨_, fun_mk (oc := oc) (od := od) (osl := osl) (kV := n9) (doc := n10) (pm := n11) (an := n12) (cdv := n13) (ct := n14) q c2 kp⟩
    | _ => cases c2
/-- a look at the heap: facts, defs -/
abbrev FB := PySem.W.Frag → Bool
abbrev AlX : Type := Bool × List SeenF
def obsX (fs : List FB) (ds : List DefX) (K : PySem.W.Frag) : AlX := ((fs.all fun f => f K) && ds.all fun d => d.ok K, ds.map fun d => seenF K (d.adr K))
def dueX (ds : List DefX) : AlX := (true, ds.map DefX.due)
def SaysX (fs : List FB) (ds : List DefX) (K : PySem.W.Frag) : Prop := obsX fs ds K = dueX ds
/-- what the objects of a list name -/
def frontG (g : Addr → Option Obj) (as : List Addr) : List Addr := as.flatMap fun a => match g a with
  | some o => He.refsD o
  | none => []
def asF (g : Addr → Option Obj) : Nat → List Addr → List Addr
  | 0, f => f
  | n + 1, f => f ++ asF g n (frontG g f)
/-- the objects of some of the module's names -/
def namedG (g : Addr → Option Obj) (names : List Str) : List Addr := names.filterMap fun x => match PySem.W.nsIn (He.frG g [mainGlobals]) mainGlobals x with
  | some (some (.ref a)) => some a
  | _ => none
def asN (g : Addr → Option Obj) (names : List Str) (n : Nat) : List Addr := mainGlobals :: PySem.cStatics :: asF g n (namedG g names)
def lookX (n : Nat) (names : List Str) (fs : List FB) (ds : List DefX) (g : Addr → Option Obj) : AlX := obsX fs ds (He.frG g (asN g names n))
def hookX (n : Nat) (names : List Str) (fs : List FB) (ds : List DefX) : PySem.W.Hook where
  α := AlX
  obs := fun s => lookX n names fs ds s.heap.get?
  val := fun _ => dueX ds
  says := fun _ h => ∃ K : PySem.W.Frag, K.In h ∧ SaysX fs ds K
  of := fun _ _ e => ⟨_, He.frG_in, e⟩
  keeps := fun _ _ _ ⟨K, hK, c⟩ k => ⟨K, PySem.W.Frag.In.keeps hK k, c⟩
theorem lookX_eq {n : Nat} {names : List Str} {fs : List FB} {ds : List DefX} {g : Addr → Option Obj} {s : Shared} (h : ∀ a, g a = s.heap.get? a) : lookX n names fs ds g = (hookX n names fs ds).obs s := by
  obtain rfl : g = s.heap.get? := funext h
  rfl
section
variable {fs : List FB} {ds : List DefX} {K : PySem.W.Frag}
theorem SaysX.fact (c : SaysX fs ds K) (i : Nat) {f : FB} (h : fs[i]? = some f := by rfl) : f K = true := by
  have c0 : ((fs.all fun f => f K) && ds.all fun d => d.ok K) = true := congrArg Prod.fst c
  exact List.all_eq_true.mp (Bool.and_eq_true_iff.mp c0).1 f (List.mem_of_getElem? h)
theorem SaysX.fo (c : SaysX fs ds K) (i : Nat) {d : DefX} (h : ds[i]? = some d := by rfl) : ∃ fd, Fun K d.name d.qual d.st (d.adr K) fd := by
  have c0 : ((fs.all fun f => f K) && ds.all fun d => d.ok K) = true := congrArg Prod.fst c
  have e : (ds.map fun d => seenF K (d.adr K))[i]? = (ds.map DefX.due)[i]? := by
    have e0 : ds.map (fun d => seenF K (d.adr K)) = ds.map DefX.due := congrArg Prod.snd c
    rw [e0]
  rw [List.getElem?_map, List.getElem?_map, h] at e
  exact DefX.fo (Option.some.inj e) (List.all_eq_true.mp (Bool.and_eq_true_iff.mp c0).2 d (List.mem_of_getElem? h))
end
def gA (x : Str) : PySem.W.Frag → Addr := fun K => He.ga K x
def mA (x m : Str) : PySem.W.Frag → Addr := fun K => He.ma K (He.ga K x) m
/-- a property's object, its getter -/
def pA (x p : Str) : PySem.W.Frag → Addr := fun K => match PySem.W.recIn K (He.ma K (He.ga K x) p) "property" with
  | some (.ref g :: _) => g
  | _ => 0
def vO (o : Option (Option Value)) (b : Option (Option Value)) : Bool := He.eqO o b
def fFree (x : Str) : FB := fun K => vO (PySem.W.nsIn K mainGlobals x) (some none)
def fGlo (x : Str) : FB := fun K => vO (PySem.W.nsIn K mainGlobals x) (some (some (.ref (gA x K))))
def fInt (x : Str) (i : Int) : FB := (He.Fa.int x i).ok
def fStr (x z : Str) : FB := (He.Fa.str x z).ok
def fCls (x : Str) : FB := (He.Fa.cls x).ok
def fNo (x f : Str) : FB := (He.Fa.noat x f).ok
def fMk (x : Str) : FB := (He.Fa.mkr x).ok
def fMeth (x m : Str) : FB := (He.Fa.meth x m).ok
def fOCls (x : Str) : FB := fun K => vO (PySem.W.findIn K (.ref (gA x K)) "__class__") (some (some (.builtin "object.__class__"))) && (vO (PySem.W.specialIn K (.builtin "object.__class__") "__get__") (some (some (.builtin "getset_descriptor.__get__"))) &&
  (decide (PySem.W.takesIn K (.builtin "object.__class__") = some true) && decide (PySem.W.mroIn K (gA x K) (.type "object") = some true)))
def fEq (x : Str) : FB := fun K => vO (PySem.W.findIn K (.ref (gA x K)) "__ne__") (some (some (.builtin "object.__ne__"))) && (decide (PySem.W.subIn K (.ref (gA x K)) (.type "object") = some true) && (vO (PySem.W.findIn K (.ref (gA x K)) "__eq__") (some (some (.ref (mA x "__eq__" K)))) && PySem.W.isFn K (.ref (mA x "__eq__" K))))
def fProp (x p : Str) : FB := fun K => vO (PySem.W.findIn K (.ref (gA x K)) p) (some (some (.ref (mA x p K)))) && (vO (PySem.W.specialIn K (.ref (mA x p K)) "__get__") (some (some (.builtin "property.__get__"))) && (decide (PySem.W.takesIn K (.ref (mA x p K)) = some true) &&
  (match PySem.W.recIn K (mA x p K) "property" with
    | some (.ref _ :: _) => true
    | _ => false)))
section
variable {K : PySem.W.Frag} {h : Heap} {mg : Str → Option Value}
theorem glo_mg (X : K.In h) (G : h.Ns mainGlobals mg) {x : Str} (c : fGlo x K = true) : mg x = some (.ref (gA x K)) := PySem.W.mg_of X G (He.eqO_ok c)
theorem free_mg (X : K.In h) (G : h.Ns mainGlobals mg) {x : Str} (c : fFree x K = true) : mg x = none := PySem.W.mg_none_of X G (He.eqO_ok c)
theorem int_mg (X : K.In h) (G : h.Ns mainGlobals mg) {x : Str} {i : Int} (c : fInt x i K = true) : GI mg x i := He.int_ok X G c
theorem str_mg (X : K.In h) (G : h.Ns mainGlobals mg) {x : Str} {l : List Nat} (c : fStr x (S l) K = true) : GS mg x l := He.str_ok X G c
theorem cls_of {x : Str} (c : fCls x K = true) : Cls K (gA x K) := He.cls_ok c
theorem no_of {x f : Str} (c : fNo x f K = true) : NoAttr K (gA x K) f := He.noat_ok c
theorem ocls_of {x : Str} (c : fCls x K = true) (o : fOCls x K = true) : OCls K (gA x K) := by
  obtain ⟨o1, o⟩ := Bool.and_eq_true_iff.mp o
  obtain ⟨o2, o⟩ := Bool.and_eq_true_iff.mp o
  obtain ⟨o3, o4⟩ := Bool.and_eq_true_iff.mp o
  exact ⟨cls_of c, He.eqO_ok o1, He.eqO_ok o2, of_decide_eq_true o3, of_decide_eq_true o4⟩
theorem prop_of {x p : Str} (c : fProp x p K = true) : PropOf K (gA x K) p (mA x p K) (pA x p K) := by
  obtain ⟨o1, o⟩ := Bool.and_eq_true_iff.mp c
  obtain ⟨o2, o⟩ := Bool.and_eq_true_iff.mp o
  obtain ⟨o3, o4⟩ := Bool.and_eq_true_iff.mp o
  refine ⟨He.eqO_ok o1, He.eqO_ok o2, of_decide_eq_true o3, ?_⟩
  unfold pA
  show ∃ r, PySem.W.recIn K (He.ma K (He.ga K x) p) "property" = some (.ref _ :: r)
  have o4 : (match PySem.W.recIn K (He.ma K (He.ga K x) p) "property" with
    | some (.ref _ :: _) => true
    | _ => false) = true := o4
  cases e : PySem.W.recIn K (He.ma K (He.ga K x) p) "property" with
  | none => rw [e] at o4; cases o4
  | some l =>
    rw [e] at o4
    match l, o4 with
    | .ref g :: r, _ => exact ⟨r, rfl⟩
end
theorem isO_self {K : PySem.W.Frag} {C : Addr} : IsO K C := by
  unfold IsO PySem.W.kitOne
  simp
section
variable {T : Wd} {h : Heap}
theorem de_at {x : Str} {st : Stmt} {ps : List Str} (KX : T.K.In h) (G : h.Ns mainGlobals T.mg) (a : fGlo x T.K = true) (o : ∃ fd, Fun T.K x x st (gA x T.K) fd)
    (b : ∀ (kV doc pm : Value) (an : Option Addr) (cdv ct : Value) (us : List Value), us.length = ps.length → bindArgs (PySem.W.fnOf x x (defArgs st) (defBody st) (defScope st) .none kV doc pm an cdv ct) ⟨us, []⟩ = pure (ps.zip us)) : De T x ps st := by
  obtain ⟨fd, F⟩ := o
  exact ⟨_, fd, glo_mg KX G a, F.kp, F, F.binds b⟩
theorem dei_at {x qual : Str} {st : Stmt} {ps : List Str} (KX : T.K.In h) (G : h.Ns mainGlobals T.mg) (a : fGlo x T.K = true) (m : fMk x T.K = true) (o : ∃ fd, Fun T.K "__init__" qual st (mA x "__init__" T.K) fd)
    (b : ∀ (kV doc pm : Value) (an : Option Addr) (cdv ct : Value) (us : List Value), us.length = ps.length → bindArgs (PySem.W.fnOf "__init__" qual (defArgs st) (defBody st) (defScope st) .none kV doc pm an cdv ct) ⟨us, []⟩ = pure (ps.zip us)) : DeI T x (gA x T.K) qual ps st := by
  obtain ⟨fd, F⟩ := o
  exact ⟨_, fd, glo_mg KX G a, He.mkr_ok m, F, F.binds b⟩
theorem deq_at {x qual : Str} {st : Stmt} {ps : List Str} (q : fEq x T.K = true) (o : ∃ fd, Fun T.K "__eq__" qual st (mA x "__eq__" T.K) fd)
    (b : ∀ (kV doc pm : Value) (an : Option Addr) (cdv ct : Value) (us : List Value), us.length = ps.length → bindArgs (PySem.W.fnOf "__eq__" qual (defArgs st) (defBody st) (defScope st) .none kV doc pm an cdv ct) ⟨us, []⟩ = pure (ps.zip us)) : DeQ T (gA x T.K) qual ps st := by
  obtain ⟨fd, F⟩ := o
  obtain ⟨o1, q⟩ := Bool.and_eq_true_iff.mp q
  obtain ⟨o2, q⟩ := Bool.and_eq_true_iff.mp q
  obtain ⟨o3, o4⟩ := Bool.and_eq_true_iff.mp q
  exact ⟨_, fd, He.eqO_ok o1, of_decide_eq_true o2, He.eqO_ok o3, o4, F, F.binds b⟩
theorem dep_at {x f qual : Str} {st : Stmt} {ps : List Str} (c : fCls x T.K = true) (p : fProp x f T.K = true) (o : ∃ fd, Fun T.K f qual st (pA x f T.K) fd)
    (b : ∀ (kV doc pm : Value) (an : Option Addr) (cdv ct : Value) (us : List Value), us.length = ps.length → bindArgs (PySem.W.fnOf f qual (defArgs st) (defBody st) (defScope st) .none kV doc pm an cdv ct) ⟨us, []⟩ = pure (ps.zip us)) : DeP T (gA x T.K) f qual ps st := by
  obtain ⟨fd, F⟩ := o
  exact ⟨_, _, fd, cls_of c, prop_of p, F, F.binds b⟩
theorem dem_at {x f qual : Str} {st : Stmt} {ps : List Str} (c : fCls x T.K = true) (m : fMeth x f T.K = true) (o : ∃ fd, Fun T.K f qual st (mA x f T.K) fd)
    (b : ∀ (kV doc pm : Value) (an : Option Addr) (cdv ct : Value) (us : List Value), us.length = ps.length → bindArgs (PySem.W.fnOf f qual (defArgs st) (defBody st) (defScope st) .none kV doc pm an cdv ct) ⟨us, []⟩ = pure (ps.zip us)) : DeM T (gA x T.K) f qual ps st := by
  obtain ⟨fd, F⟩ := o
  exact ⟨_, fd, cls_of c, He.meth_ok m, F, F.binds b⟩
end
end Pdl
namespace Pdl
open PySem L2 PyProof.Rows
def top (i : Nat) : Stmt := PySem.Challenge.pw_pushdowns_k19_whole_turned_round_and_bac.main.body.getD i (.Pass ⟨0, 0, 0, 0⟩)
abbrev s_is_place : Stmt := top 19
theorem sc_is_place : FnScope ["value"] ["value"] (defScope s_is_place) := ⟨rfl, rfl, rfl, by decide +kernel, rfl, by decide +kernel, by decide +kernel⟩
abbrev s_is_two : Stmt := top 20
theorem sc_is_two : FnScope ["value"] ["value"] (defScope s_is_two) := ⟨rfl, rfl, rfl, by decide +kernel, rfl, by decide +kernel, by decide +kernel⟩
abbrev s_is_pair : Stmt := top 21
theorem sc_is_pair : FnScope ["value"] ["value"] (defScope s_is_pair) := ⟨rfl, rfl, rfl, by decide +kernel, rfl, by decide +kernel, by decide +kernel⟩
abbrev s_pair_of : Stmt := top 22
theorem sc_pair_of : FnScope ["one", "other"] ["one", "other"] (defScope s_pair_of) := ⟨rfl, rfl, rfl, by decide +kernel, rfl, by decide +kernel, by decide +kernel⟩
abbrev s_places_in : Stmt := top 23
theorem sc_places_in : FnScope ["ties"] ["ties"] (defScope s_places_in) := ⟨rfl, rfl, rfl, by decide +kernel, rfl, by decide +kernel, by decide +kernel⟩
abbrev s_met_from : Stmt := top 24
abbrev n_met_from : List Str := ["ties", "places", "met", "later", "tie"]
theorem sc_met_from : FnScope ["ties", "places", "met", "later", "tie"] ["ties", "places"] (defScope s_met_from) := ⟨rfl, rfl, rfl, by decide +kernel, rfl, by decide +kernel, by decide +kernel⟩
abbrev s_do_hang : Stmt := top 25
theorem sc_do_hang : FnScope ["ties"] ["ties"] (defScope s_do_hang) := ⟨rfl, rfl, rfl, by decide +kernel, rfl, by decide +kernel, by decide +kernel⟩
abbrev s_check_ties : Stmt := top 26
theorem sc_check_ties : FnScope ["ties", "index"] ["ties"] (defScope s_check_ties) := ⟨rfl, rfl, rfl, by decide +kernel, rfl, by decide +kernel, by decide +kernel⟩
abbrev s_Web___init__ : Stmt := inClass (top 28) 0
theorem sc_Web___init__ : FnScope ["self", "ties"] ["self", "ties"] (defScope s_Web___init__) := ⟨rfl, rfl, rfl, by decide +kernel, rfl, by decide +kernel, by decide +kernel⟩
abbrev s_Web___eq__ : Stmt := inClass (top 28) 6
theorem sc_Web___eq__ : FnScope ["self", "other"] ["self", "other"] (defScope s_Web___eq__) := ⟨rfl, rfl, rfl, by decide +kernel, rfl, by decide +kernel, by decide +kernel⟩
abbrev s_check_arrows : Stmt := top 32
theorem sc_check_arrows : FnScope ["arrows", "ties", "index"] ["arrows"] (defScope s_check_arrows) := ⟨rfl, rfl, rfl, by decide +kernel, rfl, by decide +kernel, by decide +kernel⟩
abbrev s_is_ringed : Stmt := top 33
abbrev n_is_ringed : List Str := ["arrows", "left", "later", "arrow", "other"]
theorem sc_is_ringed : FnScope ["arrows", "left", "later", "arrow", "other"] ["arrows"] (defScope s_is_ringed) := ⟨rfl, rfl, rfl, by decide +kernel, rfl, by decide +kernel, by decide +kernel⟩
abbrev s_Way___init__ : Stmt := inClass (top 35) 0
theorem sc_Way___init__ : FnScope ["self", "arrows"] ["self", "arrows"] (defScope s_Way___init__) := ⟨rfl, rfl, rfl, by decide +kernel, rfl, by decide +kernel, by decide +kernel⟩
abbrev s_Way_arrows : Stmt := inClass (top 35) 2
theorem sc_Way_arrows : FnScope ["self"] ["self"] (defScope s_Way_arrows) := ⟨rfl, rfl, rfl, by decide +kernel, rfl, by decide +kernel, by decide +kernel⟩
abbrev s_Way_web : Stmt := inClass (top 35) 3
theorem sc_Way_web : FnScope ["self"] ["self"] (defScope s_Way_web) := ⟨rfl, rfl, rfl, by decide +kernel, rfl, by decide +kernel, by decide +kernel⟩
abbrev s_Way___eq__ : Stmt := inClass (top 35) 5
theorem sc_Way___eq__ : FnScope ["self", "other"] ["self", "other"] (defScope s_Way___eq__) := ⟨rfl, rfl, rfl, by decide +kernel, rfl, by decide +kernel, by decide +kernel⟩
abbrev s_Way_by : Stmt := inClass (top 35) 12
theorem sc_Way_by : FnScope ["self", "row"] ["self", "row"] (defScope s_Way_by) := ⟨rfl, rfl, rfl, by decide +kernel, rfl, by decide +kernel, by decide +kernel⟩
abbrev s_web_of : Stmt := top 36
abbrev n_web_of : List Str := ["arrows", "arrow"]
theorem sc_web_of : FnScope ["arrows", "arrow"] ["arrows"] (defScope s_web_of) := ⟨rfl, rfl, rfl, by decide +kernel, rfl, by decide +kernel, by decide +kernel⟩
abbrev s_check_way : Stmt := top 37
theorem sc_check_way : FnScope ["value"] ["value"] (defScope s_check_way) := ⟨rfl, rfl, rfl, by decide +kernel, rfl, by decide +kernel, by decide +kernel⟩
abbrev s_does_give : Stmt := top 38
abbrev n_does_give : List Str := ["arrows", "place", "arrow"]
theorem sc_does_give : FnScope ["arrows", "place", "arrow"] ["arrows", "place"] (defScope s_does_give) := ⟨rfl, rfl, rfl, by decide +kernel, rfl, by decide +kernel, by decide +kernel⟩
abbrev s_exchanged : Stmt := top 39
abbrev n_exchanged : List Str := ["arrows", "place", "arrow"]
theorem sc_exchanged : FnScope ["arrows", "place", "arrow"] ["arrows", "place"] (defScope s_exchanged) := ⟨rfl, rfl, rfl, by decide +kernel, rfl, by decide +kernel, by decide +kernel⟩
abbrev s_row_slip : Stmt := top 41
theorem sc_row_slip : FnScope ["arrows", "row", "places", "here", "index"] ["arrows", "row"] (defScope s_row_slip) := ⟨rfl, rfl, rfl, by decide +kernel, rfl, by decide +kernel, by decide +kernel⟩
abbrev s_check_row : Stmt := top 42
theorem sc_check_row : FnScope ["way", "row", "slip"] ["way", "row"] (defScope s_check_row) := ⟨rfl, rfl, rfl, by decide +kernel, rfl, by decide +kernel, by decide +kernel⟩
abbrev s_arrows_behind : Stmt := top 43
theorem sc_arrows_behind : FnScope ["arrows", "row", "place"] ["arrows", "row"] (defScope s_arrows_behind) := ⟨rfl, rfl, rfl, by decide +kernel, rfl, by decide +kernel, by decide +kernel⟩
abbrev s_step_over : Stmt := top 45
theorem sc_step_over : FnScope ["arrow", "other", "place"] ["arrow", "other", "place"] (defScope s_step_over) := ⟨rfl, rfl, rfl, by decide +kernel, rfl, by decide +kernel, by decide +kernel⟩
abbrev s_numbers_from : Stmt := top 46
abbrev n_numbers_from : List Str := ["arrows", "others", "found", "turn", "known", "arrow", "other", "one", "two", "near", "far", "base", "entry"]
theorem sc_numbers_from : FnScope ["arrows", "others", "found", "turn", "known", "arrow", "other", "one", "two", "near", "far", "base", "entry"] ["arrows", "others"] (defScope s_numbers_from) := ⟨rfl, rfl, rfl, by decide +kernel, rfl, by decide +kernel, by decide +kernel⟩
abbrev s_is_fitting : Stmt := top 47
theorem sc_is_fitting : FnScope ["arrows", "others", "numbers", "arrow", "other"] ["arrows", "others", "numbers"] (defScope s_is_fitting) := ⟨rfl, rfl, rfl, by decide +kernel, rfl, by decide +kernel, by decide +kernel⟩
abbrev s_numbers_of : Stmt := top 48
abbrev n_numbers_of : List Str := ["way", "other_way", "found", "least", "told", "entry", "place", "number"]
theorem sc_numbers_of : FnScope ["way", "other_way", "found", "least", "told", "entry", "place", "number"] ["way", "other_way"] (defScope s_numbers_of) := ⟨rfl, rfl, rfl, by decide +kernel, rfl, by decide +kernel, by decide +kernel⟩
abbrev s_check_both : Stmt := top 49
theorem sc_check_both : FnScope ["way", "other_way"] ["way", "other_way"] (defScope s_check_both) := ⟨rfl, rfl, rfl, by decide +kernel, rfl, by decide +kernel, by decide +kernel⟩
abbrev s_are_like : Stmt := top 50
abbrev n_are_like : List Str := ["way", "other_way"]
theorem sc_are_like : FnScope ["way", "other_way"] ["way", "other_way"] (defScope s_are_like) := ⟨rfl, rfl, rfl, by decide +kernel, rfl, by decide +kernel, by decide +kernel⟩
abbrev s_times : Stmt := top 51
abbrev n_times : List Str := ["way", "other_way"]
theorem sc_times : FnScope ["way", "other_way"] ["way", "other_way"] (defScope s_times) := ⟨rfl, rfl, rfl, by decide +kernel, rfl, by decide +kernel, by decide +kernel⟩
abbrev s_length : Stmt := top 52
abbrev n_length : List Str := ["way", "other_way", "told", "entry"]
theorem sc_length : FnScope ["way", "other_way", "told", "entry"] ["way", "other_way"] (defScope s_length) := ⟨rfl, rfl, rfl, by decide +kernel, rfl, by decide +kernel, by decide +kernel⟩
abbrev s_Ljar : Stmt := top 54
theorem sc_Ljar : FnScope ["_law_script", "_law_k", "_law_churned", "_law_cell", "_law_base", "_law_digits"] ["_law_script", "_law_k"] (defScope s_Ljar) := ⟨rfl, rfl, rfl, by decide +kernel, rfl, by decide +kernel, by decide +kernel⟩
abbrev s_Ldip : Stmt := top 55
theorem sc_Ldip : FnScope ["_law_jar_here", "_law_wide", "_law_digit", "_law_seed"] ["_law_jar_here", "_law_wide"] (defScope s_Ldip) := ⟨rfl, rfl, rfl, by decide +kernel, rfl, by decide +kernel, by decide +kernel⟩
abbrev s_Lpick : Stmt := top 56
theorem sc_Lpick : FnScope ["_law_jar_here", "_law_menu", "_law_at"] ["_law_jar_here", "_law_menu"] (defScope s_Lpick) := ⟨rfl, rfl, rfl, by decide +kernel, rfl, by decide +kernel, by decide +kernel⟩
abbrev s_Lpool : Stmt := top 57
theorem sc_Lpool : FnScope ["_law_jar_here", "_law_many", "_law_rest", "_law_found", "_law_k"] ["_law_jar_here", "_law_many"] (defScope s_Lpool) := ⟨rfl, rfl, rfl, by decide +kernel, rfl, by decide +kernel, by decide +kernel⟩
abbrev s_Ltwo : Stmt := top 58
theorem sc_Ltwo : FnScope ["_law_one", "_law_other"] ["_law_one", "_law_other"] (defScope s_Ltwo) := ⟨rfl, rfl, rfl, by decide +kernel, rfl, by decide +kernel, by decide +kernel⟩
abbrev s_Lties : Stmt := top 59
abbrev n_Lties : List Str := ["_law_jar_here", "_law_most", "_law_many", "_law_glyphs", "_law_found", "_law_k", "_law_every", "_law_one", "_law_turn", "_law_tie", "_law_other"]
theorem sc_Lties : FnScope ["_law_jar_here", "_law_most", "_law_many", "_law_glyphs", "_law_found", "_law_k", "_law_every", "_law_one", "_law_turn", "_law_tie", "_law_other"] ["_law_jar_here", "_law_most"] (defScope s_Lties) := ⟨rfl, rfl, rfl, by decide +kernel, rfl, by decide +kernel, by decide +kernel⟩
abbrev s_Llaid : Stmt := top 60
abbrev n_Llaid : List Str := ["_law_jar_here", "_law_ties_here", "_law_glyphs", "_law_rest", "_law_order_here", "_law_tie"]
theorem sc_Llaid : FnScope ["_law_jar_here", "_law_ties_here", "_law_glyphs", "_law_rest", "_law_order_here", "_law_tie"] ["_law_jar_here", "_law_ties_here", "_law_glyphs"] (defScope s_Llaid) := ⟨rfl, rfl, rfl, by decide +kernel, rfl, by decide +kernel, by decide +kernel⟩
abbrev s_Lglyphs_of : Stmt := top 61
theorem sc_Lglyphs_of : FnScope ["_law_ties_here"] ["_law_ties_here"] (defScope s_Lglyphs_of) := ⟨rfl, rfl, rfl, by decide +kernel, rfl, by decide +kernel, by decide +kernel⟩
abbrev s_Lgives : Stmt := top 62
abbrev n_Lgives : List Str := ["_law_arrows_here", "_law_glyph", "_law_arrow"]
theorem sc_Lgives : FnScope ["_law_arrows_here", "_law_glyph", "_law_arrow"] ["_law_arrows_here", "_law_glyph"] (defScope s_Lgives) := ⟨rfl, rfl, rfl, by decide +kernel, rfl, by decide +kernel, by decide +kernel⟩
abbrev s_Lflip : Stmt := top 63
abbrev n_Lflip : List Str := ["_law_arrows_here", "_law_glyph", "_law_arrow"]
theorem sc_Lflip : FnScope ["_law_arrows_here", "_law_glyph", "_law_arrow"] ["_law_arrows_here", "_law_glyph"] (defScope s_Lflip) := ⟨rfl, rfl, rfl, by decide +kernel, rfl, by decide +kernel, by decide +kernel⟩
abbrev s_Lwalk : Stmt := top 64
abbrev n_Lwalk : List Str := ["_law_jar_here", "_law_arrows_here", "_law_most", "_law_row", "_law_glyphs", "_law_turn", "_law_glyph", "_law_each"]
theorem sc_Lwalk : FnScope ["_law_jar_here", "_law_arrows_here", "_law_most", "_law_row", "_law_glyphs", "_law_turn", "_law_glyph", "_law_each"] ["_law_jar_here", "_law_arrows_here", "_law_most"] (defScope s_Lwalk) := ⟨rfl, rfl, rfl, by decide +kernel, rfl, by decide +kernel, by decide +kernel⟩
abbrev s_Lorder : Stmt := top 65
abbrev n_Lorder : List Str := ["_law_arrows_here", "_law_left", "_law_found", "_law_turn", "_law_glyph", "_law_arrow"]
theorem sc_Lorder : FnScope ["_law_arrows_here", "_law_left", "_law_found", "_law_turn", "_law_glyph", "_law_arrow"] ["_law_arrows_here"] (defScope s_Lorder) := ⟨rfl, rfl, rfl, by decide +kernel, rfl, by decide +kernel, by decide +kernel⟩
abbrev s_Lright : Stmt := top 66
abbrev n_Lright : List Str := ["_law_jar_here", "_law_turn", "_law_ties_here", "_law_glyphs", "_law_arrows_here", "_law_mine", "_law_later", "_law_third", "_law_mate", "_law_last", "_law_forth", "_law_back", "_law_sums", "_law_k", "_law_each"]
theorem sc_Lright : FnScope ["_law_jar_here", "_law_turn", "_law_ties_here", "_law_glyphs", "_law_arrows_here", "_law_mine", "_law_later", "_law_third", "_law_mate", "_law_last", "_law_forth", "_law_back", "_law_sums", "_law_k", "_law_each"] ["_law_jar_here"] (defScope s_Lright) := ⟨rfl, rfl, rfl, by decide +kernel, rfl, by decide +kernel, by decide +kernel⟩
abbrev s_law : Stmt := top 67
abbrev n_law : List Str := ["_law_script", "_law_k"]
theorem sc_law : FnScope ["_law_script", "_law_k"] ["_law_script"] (defScope s_law) := ⟨rfl, rfl, rfl, by decide +kernel, rfl, by decide +kernel, by decide +kernel⟩
theorem lit_0 : (Str.ofString "") = S [] := rfl
theorem lit_1 : (Str.ofString " ") = S [32] := rfl
theorem lit_2 : (Str.ofString "abcdefghijkmxyz") = S [97, 98, 99, 100, 101, 102, 103, 104, 105, 106, 107, 109, 120, 121, 122] := rfl
def fc_0 : List FB := [fFree "len", fFree "min", fFree "max", fFree "sorted", fFree "set", fFree "list", fFree "tuple", fFree "str", fFree "int", fFree "range", fFree "abs", fFree "divmod", fFree "any", fFree "all", fFree "isinstance", fFree "dict", fFree "sum", fFree "zip", fInt "MOST_PLACES" 7, fInt "MOST_TIES" 10, fStr "LETTERS" (S az), fGlo "_law_dip", fGlo "_law_flip", fGlo "_law_gives", fGlo "_law_glyphs_of", fGlo "_law_jar", fGlo "_law_laid", fGlo "_law_order", fGlo "_law_pick", fGlo "_law_pool"]
def fc_1 : List FB := [fGlo "_law_right", fGlo "_law_ties", fGlo "_law_two", fGlo "_law_walk", fGlo "are_like", fGlo "arrows_behind", fGlo "check_arrows", fGlo "check_both", fGlo "check_row", fGlo "check_ties", fGlo "check_way", fGlo "do_hang", fGlo "does_give", fGlo "exchanged", fGlo "is_fitting", fGlo "is_pair", fGlo "is_place", fGlo "is_ringed", fGlo "is_two", fGlo "length", fGlo "met_from", fGlo "numbers_from", fGlo "numbers_of", fGlo "pair_of", fGlo "places_in", fGlo "row_slip", fGlo "step_over", fGlo "times", fGlo "web_of", fGlo "law"]
def fc_2 : List FB := [fGlo "Way", fCls "Way", fOCls "Way", fMk "Way", fMeth "Way" "by", fProp "Way" "arrows", fProp "Way" "web", fEq "Way", fNo "Way" "lot", fGlo "Web", fCls "Web", fOCls "Web", fMk "Web", fEq "Web", fNo "Web" "letters", fNo "Web" "pairs"]
def fcs : List FB := fc_0 ++ fc_1 ++ fc_2
def df_0 : List DefX := [⟨gA "_law_dip", "_law_dip", "_law_dip", s_Ldip⟩, ⟨gA "_law_flip", "_law_flip", "_law_flip", s_Lflip⟩, ⟨gA "_law_gives", "_law_gives", "_law_gives", s_Lgives⟩, ⟨gA "_law_glyphs_of", "_law_glyphs_of", "_law_glyphs_of", s_Lglyphs_of⟩, ⟨gA "_law_jar", "_law_jar", "_law_jar", s_Ljar⟩, ⟨gA "_law_laid", "_law_laid", "_law_laid", s_Llaid⟩, ⟨gA "_law_order", "_law_order", "_law_order", s_Lorder⟩, ⟨gA "_law_pick", "_law_pick", "_law_pick", s_Lpick⟩, ⟨gA "_law_pool", "_law_pool", "_law_pool", s_Lpool⟩, ⟨gA "_law_right", "_law_right", "_law_right", s_Lright⟩, ⟨gA "_law_ties", "_law_ties", "_law_ties", s_Lties⟩, ⟨gA "_law_two", "_law_two", "_law_two", s_Ltwo⟩]
def df_1 : List DefX := [⟨gA "_law_walk", "_law_walk", "_law_walk", s_Lwalk⟩, ⟨gA "are_like", "are_like", "are_like", s_are_like⟩, ⟨gA "arrows_behind", "arrows_behind", "arrows_behind", s_arrows_behind⟩, ⟨gA "check_arrows", "check_arrows", "check_arrows", s_check_arrows⟩, ⟨gA "check_both", "check_both", "check_both", s_check_both⟩, ⟨gA "check_row", "check_row", "check_row", s_check_row⟩, ⟨gA "check_ties", "check_ties", "check_ties", s_check_ties⟩, ⟨gA "check_way", "check_way", "check_way", s_check_way⟩, ⟨gA "do_hang", "do_hang", "do_hang", s_do_hang⟩, ⟨gA "does_give", "does_give", "does_give", s_does_give⟩, ⟨gA "exchanged", "exchanged", "exchanged", s_exchanged⟩, ⟨gA "is_fitting", "is_fitting", "is_fitting", s_is_fitting⟩]
def df_2 : List DefX := [⟨gA "is_pair", "is_pair", "is_pair", s_is_pair⟩, ⟨gA "is_place", "is_place", "is_place", s_is_place⟩, ⟨gA "is_ringed", "is_ringed", "is_ringed", s_is_ringed⟩, ⟨gA "is_two", "is_two", "is_two", s_is_two⟩, ⟨gA "length", "length", "length", s_length⟩, ⟨gA "met_from", "met_from", "met_from", s_met_from⟩, ⟨gA "numbers_from", "numbers_from", "numbers_from", s_numbers_from⟩, ⟨gA "numbers_of", "numbers_of", "numbers_of", s_numbers_of⟩, ⟨gA "pair_of", "pair_of", "pair_of", s_pair_of⟩, ⟨gA "places_in", "places_in", "places_in", s_places_in⟩, ⟨gA "row_slip", "row_slip", "row_slip", s_row_slip⟩, ⟨gA "step_over", "step_over", "step_over", s_step_over⟩]
def df_3 : List DefX := [⟨gA "times", "times", "times", s_times⟩, ⟨gA "web_of", "web_of", "web_of", s_web_of⟩, ⟨gA "law", "law", "law", s_law⟩, ⟨mA "Way" "__init__", "__init__", "Way.__init__", s_Way___init__⟩, ⟨mA "Way" "by", "by", "Way.by", s_Way_by⟩, ⟨pA "Way" "arrows", "arrows", "Way.arrows", s_Way_arrows⟩, ⟨pA "Way" "web", "web", "Way.web", s_Way_web⟩, ⟨mA "Way" "__eq__", "__eq__", "Way.__eq__", s_Way___eq__⟩, ⟨mA "Web" "__init__", "__init__", "Web.__init__", s_Web___init__⟩, ⟨mA "Web" "__eq__", "__eq__", "Web.__eq__", s_Web___eq__⟩]
def dfs : List DefX := df_0 ++ df_1 ++ df_2 ++ df_3
def na_0 : List Str := ["_law_dip", "_law_flip", "_law_gives", "_law_glyphs_of", "_law_jar", "_law_laid", "_law_order", "_law_pick", "_law_pool", "_law_right", "_law_ties", "_law_two", "_law_walk", "are_like", "arrows_behind", "check_arrows", "check_both", "check_row", "check_ties", "check_way", "do_hang", "does_give", "exchanged", "is_fitting", "is_pair", "is_place", "is_ringed", "is_two", "length", "met_from"]
def na_1 : List Str := ["numbers_from", "numbers_of", "pair_of", "places_in", "row_slip", "step_over", "times", "web_of", "law", "Way", "Web"]
def nms : List Str := na_0 ++ na_1
abbrev hk : PySem.W.Hook := hookX 4 nms fcs dfs
def ob (s : PySem.W.SharedT) : AlX := lookX 4 nms fcs dfs (HandSHeadRun.getT s)
theorem ob_eq (s : PySem.W.SharedT) : ob s = hk.obs s.abs := lookX_eq (HandSHeadRun.getT_eq s)
theorem run (w : World) : HandSHeadRun.RunEq Rw (PySem.W.view Rw.prog [67]) hk ob 20000 loose w := by
  intro os
  kernel_rfl
end Pdl
namespace Pdl
open PySem L2 PyProof.Rows PySem.Spec
/-- the law: at every script of whole numbers it is true -/
def sLaw : SpD := fun ds c Q _ => c = [] ∧ (∃ ns : List Int, ds = [.lst (ns.map D.int)] ∧ ns.length ≤ 1000) ∧ ∀ c', Q (.bl true) c'
theorem law_sp {K : PySem.W.Frag} {H : Hp} {a : Addr} {ns : List Int} (hl : ns.length ≤ 63) (hS : SqL K H a (ns.map V.int)) : spD K sLaw [.ref a] H (fun v _ => v = .bl true) fun _ _ _ => False := by
  have e : hid (tot (fun _ => false) []) H = H := by
    funext b
    simp [hid, tot, inC]
  refine ⟨fun _ => false, [.lst (ns.map D.int)], [], ⟨fun a h => (by cases h), List.nodup_nil, fun p hp => (by cases hp), fun p hp => (by cases hp)⟩, ?_, rfl, ⟨ns, rfl, by omega⟩, fun c' v H' _ _ rv => ?_⟩
  · rw [e]
    exact .cons (.lst hS (RpA.ints ns)) .nil
  · cases rv
    rfl
theorem fn_GD {P : Program} {w : World} {K : PySem.W.Frag} {mg : Str → Option Value} {base : Heap} {x qual : Str} {st : Stmt} {f : Addr} {fd : FuncData} {N ps : List Str} {k : Nat} {S : SpD} (F : Fun K x qual st f fd) (sc : FnScope N ps (defScope st)) (len : ∀ ds c Q E, S ds c Q E → ds.length = ps.length)
    (hbody : ∀ (cdv : Value) (A : Around) (outer : List Env) (s : Shared) (H : Hp) (E0 : XK), Room k (bX P w K mg base N qual st f cdv A outer s H E0).A → (bX P w K mg base N qual st f cdv A outer s H E0).A.guards = some [] →
      ∀ m ds c Q E, S ds c Q E → XB (bX P w K mg base N qual st f cdv A outer s H E0) (mdOf m c H E) (defBody st) ⟨startD N ds, c⟩ (poOf Q)) : FnG P w K mg base (k + 1) f fd ps (spD K S) := by
  refine fn_G F sc (fun vs H Q E h => ?_) (fun cdv A outer s H vs Q E hr hg h => ?_)
  · obtain ⟨m, ds, c, _, r, hs⟩ := h
    rw [r.length]
    exact len _ _ _ _ hs
  · exact body_D (X := bX P w K mg base N qual st f cdv A outer s H E) rfl (fun m ds c Q' E' _ hs => hbody cdv A outer s H E hr hg m ds c Q' E' hs) h
section
variable {l : PySem.W.OpenLaw} {q : Program} {loose : List Str} {XP : (Str → Option Value) → Heap → Prop} {fs : List FB} {ds : List DefX} {names : List Str} {n k : Nat} {d : DefRec}
theorem walk_endG (most : l.most = some 63) (nodef : d.params.defaults = []) (room : Room k callerA) (hname : d.name = ("law" : Str))
    (F : ∀ (w : World) (mg : Str → Option Value) (fa : Addr) (h : Heap) {K : PySem.W.Frag}, K.In h → h.Ns mainGlobals mg → mg "law" = some (.ref fa) → SaysX fs ds K → ∃ fd : FuncData, (∀ (s : Shared) (v : Value), BindsTo s fd ⟨[v], []⟩ [("_law_script", v)]) ∧ ∀ base : Heap, K.In base → base.Ns mainGlobals mg → FnG l.prog w K mg base k fa fd ["_law_script"] (spD K sLaw)) :
    PySem.W.WalkO q loose XP (hookX n names fs ds).says l.row.toRowW d [] (fun f vs => PySem.call f vs) := by
  refine Att.attach_call most nodef fun w s₀ s₁ mg mb fa o pm cd doc a vs ns G Y ho hd hcd hmg hobj hints hlen hg => ?_
  obtain ⟨K, KX, c⟩ := Y
  rw [hname] at hmg
  obtain ⟨fd, bind, hF⟩ := F w mg fa _ KX G.T.g hmg c
  exact law_callG KX G.T.g G.T.b G.T.builtins G.T.nolimit hg hobj hints (Nat.le_trans hlen (by decide)) room hF bind fun H hS => law_sp hlen hS
end
end Pdl
namespace Pdl
open PySem L2 PyProof.Rows
def sPair : PSp := fun ds Q => ∃ a b : List Nat, ds = [.str (S a), .str (S b)] ∧ a.length + b.length ≤ 1000 ∧ Q (.str (S (if b < a then b ++ a else a ++ b)))
def sPlaces : PSp := fun ds Q => ∃ (d : D) (ls : List (List Nat)), ds = [d] ∧ (d = .lst (SL ls) ∨ d = .tup (SL ls)) ∧ ls.length ≤ 4000 ∧ ls.flatten.length ≤ 4000 ∧ Q (.str (S (us ls.flatten)))
/-- is_place(text) -/
def sIsPlace : PSp := fun ds Q => ∃ c : Nat, ds = [.str (S [c])] ∧ Q (.bl (decide (97 ≤ c ∧ c ≤ 122)))
/-- is_two, is_pair of texts of two signs -/
def sIsTwo : PSp := fun ds Q => ∃ a b : Nat, ds = [.str (S [a, b])] ∧ (97 ≤ a ∧ a ≤ 122) ∧ (97 ≤ b ∧ b ≤ 122) ∧ a ≠ b ∧ Q (.bl true)
def sIsPair : PSp := fun ds Q => ∃ a b : Nat, ds = [.str (S [a, b])] ∧ (97 ≤ a ∧ a ≤ 122) ∧ (97 ≤ b ∧ b ≤ 122) ∧ a < b ∧ Q (.bl true)
def sMet : PSp := fun ds Q => ∃ (d : D) (ls : List (List Nat)) (ps : List Nat), ds = [d, .str (S ps)] ∧ Items d (SL ls) ∧ (∀ l ∈ ls, ∃ a b, l = [a, b]) ∧ ls.length ≤ 500 ∧ ps.length ≤ 500 ∧ ∀ M, IsMet ls ps M → Q (.str (S M))
def sHang : PSp := fun ds Q => ∃ (d : D) (ls : List (List Nat)), ds = [d] ∧ (d = .lst (SL ls) ∨ d = .tup (SL ls)) ∧ (∀ l ∈ ls, ∃ a b, l = [a, b]) ∧ ls ≠ [] ∧ ls.length ≤ 500 ∧ Conn ls ∧ Q (.bl true)
def sChk : PSp := fun ds Q => ∃ (ls : List (List Nat)), ds = [.tup (SL ls)] ∧ Ties ls ∧ Q .non
def webD (C : Addr) (ls : List (List Nat)) : D := .ins C [("pairs", .tup (SL ls)), ("letters", .str (S (us ls.flatten)))]
def wayD (C : Addr) (as : List (List Nat)) : D := .ins C [("lot", .tup (SL as))]
def sWebI : ISp := fun ds Q => ∃ ls, ds = [.tup (SL ls)] ∧ Ties ls ∧ Q [("pairs", .tup (SL ls)), ("letters", .str (S (us ls.flatten)))]
def sWebEq (C : Addr) : PSp := fun ds Q => ∃ a b, ds = [webD C a, webD C b] ∧ Lw a ∧ Lw b ∧ Q (.bl (decide (a = b)))
def itOn : Nat → List (List Nat) → List (List Nat)
  | 0, L => L
  | n + 1, L => itOn n (onL L)
def rkB (as : List (List Nat)) : Bool := decide (itOn as.length as = [])
theorem ranked_back {L : List (List Nat)} (h2 : Two L) (h : Ranked (onL L)) : Ranked L := by
  obtain ⟨r, hr⟩ := h
  refine ⟨fun x => if (L.any fun o => decide ([snd2 o] = [x])) = true then r x + 1 else 0, fun a b hl => ?_⟩
  have hb : (L.any fun o => decide ([snd2 o] = [b])) = true := List.any_eq_true.mpr ⟨_, hl, by simp [snd2]⟩
  show (if (L.any fun o => decide ([snd2 o] = [a])) = true then r a + 1 else 0) < (if (L.any fun o => decide ([snd2 o] = [b])) = true then r b + 1 else 0)
  rw [if_pos hb]
  by_cases ha : (L.any fun o => decide ([snd2 o] = [a])) = true
  · rw [if_pos ha]
    have := hr a b (List.mem_filter.mpr ⟨hl, ha⟩)
    omega
  · rw [if_neg ha]
    omega
theorem itOn_ranked : ∀ (n : Nat) {L : List (List Nat)}, Two L → itOn n L = [] → Ranked L
  | 0, L, _, h => by
    have h : L = [] := h
    subst h
    exact ⟨fun _ => 0, fun a b hl => by cases hl⟩
  | n + 1, L, h2, h => ranked_back h2 (itOn_ranked n (onL_two h2) h)
theorem itOn_nil : ∀ (n : Nat), itOn n [] = []
  | 0 => rfl
  | n + 1 => itOn_nil n
theorem itOn_end : ∀ (n : Nat) {L : List (List Nat)}, Two L → Ranked L → L.length ≤ n → itOn n L = []
  | 0, L, _, _, h => List.length_eq_zero_iff.mp (Nat.le_zero.mp h)
  | n + 1, L, h2, hr, h => by
    by_cases hne : L = []
    · subst hne
      exact itOn_nil (n + 1)
    · have := onL_less h2 hr hne
      exact itOn_end n (onL_two h2) (onL_ranked hr) (by omega)
theorem rkB_iff {as : List (List Nat)} (h2 : Two as) : rkB as = true ↔ Ranked as := by
  unfold rkB
  rw [decide_eq_true_iff]
  exact ⟨itOn_ranked _ h2, fun h => itOn_end _ h2 h (Nat.le_refl _)⟩
theorem ranked_onL {L : List (List Nat)} (h2 : Two L) : Ranked (onL L) ↔ Ranked L := ⟨ranked_back h2, onL_ranked⟩
theorem rkB_fix {as L : List (List Nat)} (h2 : Two as) (g2 : Two L) (hr : Ranked as ↔ Ranked L) (hf : onL L = L) : (!decide (L = [])) = !rkB as := by
  congr 1
  rw [Bool.eq_iff_iff, decide_eq_true_iff, rkB_iff h2, hr]
  constructor
  · rintro rfl
    exact ⟨fun _ => 0, fun a b hl => by cases hl⟩
  · intro h
    refine Decidable.byContradiction fun hn => ?_
    have := onL_less g2 h hn
    rw [hf] at this
    omega
theorem rkB_t {as : List (List Nat)} (h2 : Two as) (h : Ranked as) : rkB as = true := (rkB_iff h2).mpr h
def sRing : PSp := fun ds Q => ∃ as, ds = [.tup (SL as)] ∧ Two as ∧ as.length ≤ 500 ∧ Lw as ∧ Q (.bl (!rkB as))
def sChkA : PSp := fun ds Q => ∃ as, ds = [.tup (SL as)] ∧ Arrs as ∧ Q .non
def sWayI : ISp := fun ds Q => ∃ as, ds = [.tup (SL as)] ∧ Arrs as ∧ Q [("lot", .tup (SL as))]
def sWayArrows (C : Addr) : PSp := fun ds Q => ∃ as, ds = [wayD C as] ∧ Q (.tup (SL as))
def sWayEq (C : Addr) : PSp := fun ds Q => ∃ a b, ds = [wayD C a, wayD C b] ∧ Lw a ∧ Lw b ∧ Q (.bl (decide (a = b)))
def sWebOf (Cw : Addr) : PSp := fun ds Q => ∃ as, ds = [.tup (SL as)] ∧ Arrs as ∧ Q (webD Cw (as.map pr2))
def sWayWeb (Cy Cw : Addr) : PSp := fun ds Q => ∃ as, ds = [wayD Cy as] ∧ Arrs as ∧ Q (webD Cw (as.map pr2))
def sTap : PSp := fun ds Q => ∃ n : Nat, ds = [.int (n : Int)] ∧ 1 ≤ n ∧ n ≤ 1000000 ∧ ∀ i : Nat, i < n → Q (.int (i : Int))
def sPick : PSp := fun ds Q => ∃ (d : D) (xs : List D), ds = [d] ∧ (d = .lst xs ∨ d = .tup xs ∨ ∃ l, d = .str (S l) ∧ xs = l.map fun c => .str (S [c])) ∧ xs ≠ [] ∧ xs.length ≤ 100000 ∧ ∀ x ∈ xs, Q x
def kKeg : List D → Prop := fun ds => ∃ (ns : List Int) (k : Nat), ds = [.lst (ns.map D.int), .int (k : Int)] ∧ k ≤ 100 ∧ ns.length ≤ 1000
def Az (l : List Nat) : Prop := ∀ c ∈ l, 97 ≤ c ∧ c ≤ 122
def sLetters : PSp := fun ds Q => ∃ n : Nat, ds = [.int (n : Int)] ∧ n ≤ 7 ∧ ∀ l : List Nat, l.Pairwise (· < ·) → l.length = n → Az l → Q (.str (S l))
structure NetOk (most : Nat) (l : List Nat) (ls : List (List Nat)) : Prop where
  ties : Ties ls
  all : us ls.flatten = l
  two : 2 ≤ l.length
  most : l.length ≤ most
  az : AzP l
def sRight : PSp := fun ds Q => ds = [] ∧ Q (.bl true)
end Pdl
namespace Pdl
open PySem L2 PyProof.Rows
section
variable {X : Cx} {μ : Md} {Γ : En} {Q : QE} {a b c e e2 o it tg elt : Expr} {es ifs : List Expr} {pos apos cpos tpos p : Pos} {x y d : D} {m : Addr → Bool} {H : Hp} {P : Po} {scope : Scope}
def zipD (xs ys : List D) : List D := (xs.zip ys).map fun p => .tup [p.1, p.2]
theorem zipD_get {xs ys : List D} {i : Nat} {d : D} (h : (zipD xs ys)[i]? = some d) : ∃ x y, xs[i]? = some x ∧ ys[i]? = some y ∧ d = .tup [x, y] := by
  unfold zipD at h
  rw [List.getElem?_map] at h
  cases e : (xs.zip ys)[i]? with
  | none => rw [e] at h; cases h
  | some q =>
    rw [e] at h
    have h : D.tup [q.1, q.2] = d := Option.some.inj h
    obtain ⟨h1, h2⟩ := List.getElem?_zip_eq_some.mp e
    exact ⟨q.1, q.2, h1, h2, h.symm⟩
theorem wk_zipT {K : PySem.W.Frag} {cs : Cs} {a b : Addr} {vs us : List V} {xs ys : List D} (s1 : SqT K (hid (tot m cs) H) a vs) (r1 : RpA K (hid (tot m cs) H) vs xs) (s2 : SqT K (hid (tot m cs) H) b us) (r2 : RpA K (hid (tot m cs) H) us ys) : Wk K (hid (tot m cs) H) (RZ.ItzT K a b) (zipD xs ys) := fun i H1 M sb hM => by
  have t1 : SqT K H1 a vs := (hid_sub _ _).sqT (sb.sqT s1)
  have t2 : SqT K H1 b us := (hid_sub _ _).sqT (sb.sqT s2)
  refine ⟨fun d hd => ?_, fun hl => ⟨vs, us, t1, t2, ?_⟩⟩
  · obtain ⟨x, y, hx, hy, rfl⟩ := zipD_get hd
    obtain ⟨v, hv, rv⟩ := r1.got hx
    obtain ⟨u, hu, ru⟩ := r2.got hy
    refine ⟨⟨vs, us, v, u, t1, t2, hv, hu⟩, fun z H' ⟨T, v', u', hz, hT, hH, h1, h2⟩ => ?_⟩
    subst hz hH
    have e1 : v' = v := by have := h1 vs t1; rw [hv] at this; exact (Option.some.inj this).symm
    have e2 : u' = u := by have := h2 us t2; rw [hu] at this; exact (Option.some.inj this).symm
    subst e1 e2
    have e := sub_upd (o := .tup [v', u']) hT
    exact ⟨e, .tup (.of (hid_upd (fresh_m hM hT))) (.cons ((rv.mono sb).mono (sub_hid e)) (.cons ((ru.mono sb).mono (sub_hid e)) .nil))⟩
  · unfold zipD at hl
    rw [List.length_map, List.length_zip] at hl
    rw [r1.length, r2.length]
    omega
theorem wk_zipL {K : PySem.W.Frag} {cs : Cs} {a b : Addr} {vs us : List V} {xs ys : List D} (s1 : SqL K (hid (tot m cs) H) a vs) (r1 : RpA K (hid (tot m cs) H) vs xs) (s2 : SqL K (hid (tot m cs) H) b us) (r2 : RpA K (hid (tot m cs) H) us ys) : Wk K (hid (tot m cs) H) (Itz K a b) (zipD xs ys) := fun i H1 M sb hM => by
  have t1 : SqL K H1 a vs := (hid_sub _ _).sqL (sb.sqL s1)
  have t2 : SqL K H1 b us := (hid_sub _ _).sqL (sb.sqL s2)
  refine ⟨fun d hd => ?_, fun hl => ⟨vs, us, t1, t2, ?_⟩⟩
  · obtain ⟨x, y, hx, hy, rfl⟩ := zipD_get hd
    obtain ⟨v, hv, rv⟩ := r1.got hx
    obtain ⟨u, hu, ru⟩ := r2.got hy
    refine ⟨⟨vs, us, v, u, t1, t2, hv, hu⟩, fun z H' ⟨T, v', u', hz, hT, hH, h1, h2⟩ => ?_⟩
    subst hz hH
    have e1 : v' = v := by have := h1 vs t1; rw [hv] at this; exact (Option.some.inj this).symm
    have e2 : u' = u := by have := h2 us t2; rw [hu] at this; exact (Option.some.inj this).symm
    subst e1 e2
    have e := sub_upd (o := .tup [v', u']) hT
    exact ⟨e, .tup (.of (hid_upd (fresh_m hM hT))) (.cons ((rv.mono sb).mono (sub_hid e)) (.cons ((ru.mono sb).mono (sub_hid e)) .nil))⟩
  · unfold zipD at hl
    rw [List.length_map, List.length_zip] at hl
    rw [r1.length, r2.length]
    omega
theorem xi_zip {Q : List D → En → Prop} {elts : List Expr} {kk : Nat} (hg : Gl X "zip") (hm : X.mg "zip" = none) (h : XA X μ [e, e2] Γ fun ds Γ1 => ∃ xs ys, (ds = [.tup xs, .tup ys] ∨ ds = [.lst xs, .lst ys]) ∧ Q (zipD xs ys) Γ1)
    (hs : starEach [e, e2] X.env = (false, eval e X.env) :: starEach [e2] X.env := by rfl) (hpl : (backTo pos (starEach [e2] X.env)).any (·.1) = false := by rfl) : XI X μ (.Tuple elts kk tpos) (.Call (.Name "zip" p) [e, e2] [] pos) Γ Q :=
  PI.imp (RZ.pi_zipA hg hm h hs hpl) fun σ H R ⟨Rl, k⟩ => ⟨Rl, fun vs H1 ds Γ1 s1 f1 R1 r1 ⟨xs, ys, hd, hq⟩ => by
    rcases hd with rfl | rfl
    · obtain ⟨v, u, rfl, rv, ru⟩ := r1.two
      cases rv with
      | @tup a vs _ t1 q1 => cases ru with
        | @tup b us _ t2 q2 => exact ⟨a, b, vs, us, rfl, .inr ⟨(hid_sub _ _).sqT t1.sq, (hid_sub _ _).sqT t2.sq, k _ H1 _ Γ1 s1 f1 R1 (wk_zipT t1.sq q1 t2.sq q2) hq⟩⟩
    · obtain ⟨v, u, rfl, rv, ru⟩ := r1.two
      cases rv with
      | @lst a vs _ t1 q1 => cases ru with
        | @lst b us _ t2 q2 => exact ⟨a, b, vs, us, rfl, .inl ⟨(hid_sub _ _).sqL t1, (hid_sub _ _).sqL t2, k _ H1 _ Γ1 s1 f1 R1 (wk_zipL t1 q1 t2 q2) hq⟩⟩⟩
end
end Pdl
namespace Pdl
open PySem L2 PyProof.Rows
def wipeD (s : List (Option D)) : List Nat → List (Option D)
  | [] => s
  | v :: vs => (wipeD s vs).set v none
theorem SlotRp.wipe {K : PySem.W.Frag} {G : Hp} {σ : L2.St} {s : List (Option D)} (h : SlotRp K G σ s) : ∀ vs : List Nat, SlotRp K G (L2.wipe σ vs) (wipeD s vs)
  | [] => h
  | v :: vs => (SlotRp.wipe h vs).unset v
/-- the list that is being made stands at p, hidden -/
def LcSt (K : PySem.W.Frag) (μ : Md) (p : Addr) (c1 : Cs) (H1 : Hp) (σ : L2.St) (s : List (Option D)) (acc : List D) (c : Cs) (H : Hp) : Prop :=
  ∃ vs, H p = some (.lst vs) ∧ RpA K (hid (tot μ.m c) H) vs acc ∧ Fw c1 c H1 H ∧ Rel K μ H σ ⟨s, c⟩
section
variable {K : PySem.W.Frag} {μ : Md} {p : Addr} {c1 c c' : Cs} {H1 H H' : Hp} {σ σ' : L2.St} {s s' : List (Option D)} {acc : List D} {y : V} {d : D}
theorem LcSt.off (mp : μ.m p = true) (R : Rel K μ H σ ⟨s, c⟩) : inC c p = false := by
  cases e : inC c p with
  | false => rfl
  | true =>
    obtain ⟨r, hr, er⟩ := of_inC e
    have := R.co.off r hr
    rw [er, mp] at this
    cases this
theorem LcSt.next (mp : μ.m p = true) (h : LcSt K μ p c1 H1 σ s acc c H) (f : Fw c c' H H') (R : Rel K μ H' σ' ⟨s', c'⟩) : LcSt K μ p c1 H1 σ' s' acc c' H' := by
  obtain ⟨vs, h1, h2, h3, h4⟩ := h
  exact ⟨vs, (f _ _ (LcSt.off mp h4) h1).1, h2.mono f.sub, h3.trans f, R⟩
theorem LcSt.push (mp : μ.m p = true) (hp : H1 p = none) (hp0 : μ.H0 p = none) (h : LcSt K μ p c1 H1 σ s acc c H) (r : Rp K (hid (tot μ.m c) H) y d) : ∃ vs, H p = some (.lst vs) ∧ vs.length = acc.length ∧ LcSt K μ p c1 H1 σ s (acc ++ [d]) c (upd H p (.lst (vs ++ [y]))) := by
  obtain ⟨vs, h1, h2, h3, h4⟩ := h
  have tp : tot μ.m c p = true := by unfold tot; rw [mp]; rfl
  refine ⟨vs, h1, h2.length, vs ++ [y], upd_same, ?_, ?_, ⟨⟨fun a ha => ?_, h4.co.nd, h4.co.off, fun r hr => ?_⟩, ?_, fun a o ha e => ?_⟩⟩
  · rw [hid_msk tp]
    exact h2.app (.cons r .nil)
  · intro a o ha e
    obtain ⟨z1, z2⟩ := h3 a o ha e
    exact ⟨by rw [upd_ne (ne_of_none e hp)]; exact z1, z2⟩
  · by_cases ea : a = p
    · subst ea; exact ⟨_, upd_same, rfl⟩
    · obtain ⟨o, ho, z⟩ := h4.co.dom a ha
      exact ⟨o, by rw [upd_ne ea]; exact ho, z⟩
  · have hne : r.1 ≠ p := fun z => by
      have := h4.co.off r hr
      rw [z, mp] at this
      cases this
    show CellRp K (hid (tot μ.m c) (upd H p _)) (upd H p _ r.1) r.2
    rw [hid_msk tp, upd_ne hne]
    exact h4.co.cells r hr
  · show SlotRp K (hid (tot μ.m c) (upd H p _)) _ _
    rw [hid_msk tp]
    exact h4.slots
  · obtain ⟨z1, z2⟩ := h4.fw a o ha e
    exact ⟨by rw [upd_ne (ne_of_none e hp0)]; exact z1, z2⟩
end
/-- what a target does with data, on slots that are wiped -/
structure TgD (K : PySem.W.Frag) (g : TG) (vs : List Nat) (eff : D → List (Option D) → Option (List (Option D))) : Prop where
  run : ∀ (μ : Md) (H : Hp) (σ : L2.St) (s : List (Option D)) (c : Cs) (v : V) (d : D) (s2 : List (Option D)) (q : L2.St → Hp → Prop), eff d s = some s2 → Rel K μ H (wipe σ vs) ⟨wipeD s vs, c⟩ → Rp K (hid (tot μ.m c) H) v d →
    (∀ σ2, wipe σ2 vs = wipe σ vs → Rel K μ H σ2 ⟨s2, c⟩ → q σ2 H) → g v (wipe σ vs) H q
  wip : ∀ d s s2, eff d s = some s2 → wipeD s2 vs = wipeD s vs
def eff1 (i : Nat) : D → List (Option D) → Option (List (Option D)) := fun d s => some (s.set i (some d))
theorem tg_name {K : PySem.W.Frag} (i : Nat) : TgD K (gName i) [i] (eff1 i) := by
  refine ⟨fun μ H σ s c v d s2 q he R r k => ?_, fun d s s2 he => ?_⟩
  · cases he
    refine k _ ?_ ?_
    · show ((σ.set i none).set i (some v)).set i none = σ.set i none
      rw [List.set_set, List.set_set]
    · have z := R.set i r
      have e : (wipeD s [i]).set i (some d) = s.set i (some d) := List.set_set ..
      have z : Rel K μ H ((σ.set i none).set i (some v)) ⟨(wipeD s [i]).set i (some d), c⟩ := z
      rw [e] at z
      exact z
  · cases he
    show (s.set i (some d)).set i none = s.set i none
    rw [List.set_set]
def eff2 (i j : Nat) : D → List (Option D) → Option (List (Option D)) := fun d s => match d with
  | .tup [a, b] => some ((s.set i (some a)).set j (some b))
  | _ => none
theorem set_swap {α : Type} {l : List α} {i j : Nat} {a b : α} (h : i ≠ j) : (l.set i a).set j b = (l.set j b).set i a := List.set_comm a b h
theorem tg_two {K : PySem.W.Frag} {i j : Nat} (hij : i ≠ j) : TgD K (gTup K 2 (gCons (gName i) (gCons (gName j) gNil))) [i, j] (eff2 i j) := by
  refine ⟨fun μ H σ s c v d s2 q he R r k => ?_, fun d s s2 he => ?_⟩
  · unfold eff2 at he
    split at he
    · rename_i a b
      cases he
      cases r with
      | @tup adr us _ t1 r1 =>
        obtain ⟨u1, u2, rfl, q1, q2⟩ := r1.two
        refine ⟨adr, _, rfl, (hid_sub _ _).sqT t1.sq, rfl, u1, _, rfl, u2, _, rfl, rfl, k _ ?_ ?_⟩
        · show (((((σ.set j none).set i none).set i (some u1)).set j (some u2)).set j none).set i none = (σ.set j none).set i none
          rw [List.set_set, List.set_set, set_swap hij, List.set_set, List.set_set]
        · have z := (R.set i q1).set j q2
          have e : ((wipeD s [i, j]).set i (some a)).set j (some b) = (s.set i (some a)).set j (some b) := by
            show ((((s.set j none).set i none).set i (some a)).set j (some b)) = _
            rw [List.set_set, set_swap (Ne.symm hij), List.set_set]
          have z : Rel K μ H ((((σ.set j none).set i none).set i (some u1)).set j (some u2)) ⟨((wipeD s [i, j]).set i (some a)).set j (some b), c⟩ := z
          rw [e] at z
          exact z
    · cases he
  · unfold eff2 at he
    split at he
    · rename_i a b
      cases he
      show (((s.set i (some a)).set j (some b)).set j none).set i none = (s.set j none).set i none
      rw [List.set_set, set_swap hij, List.set_set]
    · cases he
section
variable {X : Cx} {μ : Md} {Γ : En} {Q : QE} {a b c e o it it1 tg tg1 elt : Expr} {es ifs ifs1 : List Expr} {pos apos cpos tpos : Pos} {x y d : D} {m : Addr → Bool} {H : Hp} {P : Po} {scope : Scope} {eff eff1 : D → List (Option D) → Option (List (Option D))} {vs vs1 : List Nat} {g g1 : TG}
def QLcG (X : Cx) (scope : Scope) (ifs : List Expr) (elt : Expr) (eff : D → List (Option D) → Option (List (Option D))) (Q : QE) : List D → En → Prop := fun ds Γ1 => ∃ I : Nat → List D → Cs → Prop, I 0 [] Γ1.c ∧
      (∀ k d acc c2, ds[k]? = some d → I k acc c2 → ∃ s2, eff d Γ1.s = some s2 ∧ ∀ μ', Blk X scope fun Y => XTl Y μ' ifs ⟨s2, c2⟩ fun b Γ3 => if b = true then Blk X scope fun Z => XE Z μ' elt Γ3 fun y Γ4 => I (k + 1) (acc ++ [y]) Γ4.c else I (k + 1) acc Γ3.c) ∧
      ds.length ≤ 100000 ∧ ∀ acc c2, I ds.length acc c2 → Q (.lst acc) ⟨Γ1.s, c2⟩
/-- the mode while a list is being made at p -/
abbrev lcMd (μ : Md) (p : Addr) (c1 : Cs) (H1 : Hp) : Md := { m := fun a => μ.m a || a == p, c0 := c1, H0 := H1, E := fun _ _ => False }
theorem lcMd_p {p : Addr} {c1 : Cs} {H1 : Hp} : (lcMd μ p c1 H1).m p = true := by show (μ.m p || p == p) = true; simp
theorem lcMd_ne {p a : Addr} {c1 : Cs} {H1 : Hp} (h : a ≠ p) : (lcMd μ p c1 H1).m a = μ.m a := by show (μ.m a || a == p) = _; rw [beq_eq_false_iff_ne.mpr h]; simp
theorem lc_start {p : Addr} {H1 : Hp} {σ : L2.St} {Γ1 : En} (R1 : Rel X.K μ H1 σ Γ1) (hp : H1 p = none) (vs : List Nat) : LcSt X.K (lcMd μ p Γ1.c H1) p Γ1.c H1 (wipe σ vs) (wipeD Γ1.s vs) [] Γ1.c (upd H1 p (.lst [])) := by
  have hpm : tot μ.m Γ1.c p = false := R1.fresh hp
  have f0 : Fw Γ1.c Γ1.c H1 (upd H1 p (.lst [])) := Fw.of_sub (sub_upd hp)
  have near : Sub (hid (tot μ.m Γ1.c) H1) (hid (tot (lcMd μ p Γ1.c H1).m Γ1.c) (upd H1 p (.lst []))) := hid_mono fun a o h e => by
    obtain ⟨h1, h2⟩ := tot_false.mp h
    obtain ⟨h3, h4⟩ := f0 a o h2 e
    exact ⟨tot_false.mpr ⟨by rw [lcMd_ne (ne_of_none e hp)]; exact h1, h4⟩, h3⟩
  refine ⟨[], upd_same, .nil, f0, ⟨⟨fun a h => ?_, R1.co.nd, fun r hr => ?_, fun r hr => ?_⟩, (R1.slots.mono near).wipe vs, f0⟩⟩
  · by_cases e : a = p
    · subst e; exact ⟨_, upd_same, rfl⟩
    · rw [lcMd_ne e] at h
      obtain ⟨o, ho, z⟩ := R1.co.dom a h
      exact ⟨o, sub_upd hp _ _ ho, z⟩
  · have hne : r.1 ≠ p := fun z => by
      have := (tot_false.mp hpm).2
      rw [← z, inC_of hr] at this
      cases this
    rw [lcMd_ne hne]
    exact R1.co.off r hr
  · have z := R1.co.cells r hr
    obtain ⟨u, hu⟩ := z.some
    show CellRp X.K _ (upd H1 p _ r.1) r.2
    rw [upd_ne (ne_of_none hu hp)]
    exact z.mono near
theorem lc_near {p : Addr} {H1 H' : Hp} {c1 cs : Cs} (hp : H1 p = none) (f : Fw c1 cs H1 H') : Sub (hid (tot μ.m c1) H1) (hid (tot (lcMd μ p c1 H1).m cs) H') := hid_mono fun a o h e => by
  obtain ⟨h1, h2⟩ := tot_false.mp h
  obtain ⟨h3, h4⟩ := f a o h2 e
  exact ⟨tot_false.mpr ⟨by rw [lcMd_ne (ne_of_none e hp)]; exact h1, h4⟩, h3⟩
theorem lc_end {p : Addr} {H1 H' : Hp} {σ σw : L2.St} {sw : List (Option D)} {Γ1 : En} {acc : List D} {c' : Cs} (R1 : Rel X.K μ H1 σ Γ1) (hp : H1 p = none) (h : LcSt X.K (lcMd μ p Γ1.c H1) p Γ1.c H1 σw sw acc c' H') :
    Fw Γ1.c c' H1 H' ∧ Rel X.K μ H' σ ⟨Γ1.s, c'⟩ ∧ Rp X.K (Vw μ ⟨Γ1.s, c'⟩ H') (.ref p) (.lst acc) := by
  obtain ⟨vs, hD, ra, f', R'⟩ := h
  have hpm : tot μ.m Γ1.c p = false := R1.fresh hp
  have less : Sub (hid (tot (lcMd μ p Γ1.c H1).m c') H') (hid (tot μ.m c') H') := hid_mono fun a o h e => by
    obtain ⟨h1, h2⟩ := tot_false.mp h
    have hne : a ≠ p := fun z => by rw [z, lcMd_p] at h1; cases h1
    rw [lcMd_ne hne] at h1
    exact ⟨tot_false.mpr ⟨h1, h2⟩, e⟩
  refine ⟨f', ⟨⟨fun a h => R'.co.dom a ?_, R'.co.nd, fun r hr => ?_, fun r hr => (R'.co.cells r hr).mono less⟩, R1.slots.mono f'.sub, R1.fw.trans f'⟩, .lst (.of ?_) (ra.mono less)⟩
  · show (μ.m a || a == p) = true
    rw [h]; rfl
  · have z : (μ.m r.1 || r.1 == p) = false := R'.co.off r hr
    exact (Bool.or_eq_false_iff.mp z).1
  · exact hid_some.mpr ⟨tot_false.mpr ⟨(tot_false.mp hpm).1, LcSt.off lcMd_p R'⟩, hD⟩
theorem rel_wipe {K : PySem.W.Frag} {H : Hp} {σ : L2.St} {s : List (Option D)} {c : Cs} (R : Rel K μ H σ ⟨s, c⟩) (vs : List Nat) : Rel K μ H (wipe σ vs) ⟨wipeD s vs, c⟩ := ⟨R.co, SlotRp.wipe R.slots vs, R.fw⟩
theorem lcG (tgd : TgD X.K g vs eff) (σ : L2.St) (H : Hp) (q : VK) (h : tD X.K μ Γ Q σ H q) : tLc (tID X.K μ Γ (QLcG X scope ifs elt eff Q)) g (uBT X scope ifs) (uBE X scope elt) vs σ H q := by
  obtain ⟨R, k⟩ := h
  refine ⟨R, fun J H1 ds Γ1 s1 f1 R1 wk ⟨I, h0, ht, hlen, hd⟩ p hp => ?_⟩
  refine ⟨fun k' n H' => n = ds.length - k' ∧ k' ≤ ds.length ∧ ∃ (acc : List D) (c' : Cs), acc.length ≤ k' ∧ I k' acc c' ∧ LcSt X.K (lcMd μ p Γ1.c H1) p Γ1.c H1 (wipe σ vs) (wipeD Γ1.s vs) acc c' H',
    ⟨ds.length, by simp, Nat.zero_le _, [], Γ1.c, Nat.le_refl _, h0, lc_start R1 hp vs⟩, ?_⟩
  rintro k' n H' ⟨rfl, hk, acc, c', hl, hI, L⟩
  obtain ⟨us, hD, ra, f', R'⟩ := id L
  obtain ⟨w1, w2⟩ := wk k' H' (tot (lcMd μ p Γ1.c H1).m c') (lc_near hp f') R'.domT
  by_cases hlt : k' < ds.length
  · obtain ⟨go, yl⟩ := w1 ds[k'] (by simp [hlt])
    refine .inr ⟨go, fun H2 => ∃ (acc : List D) (c' : Cs), acc.length ≤ k' + 1 ∧ I (k' + 1) acc c' ∧ LcSt X.K (lcMd μ p Γ1.c H1) p Γ1.c H1 (wipe σ vs) (wipeD Γ1.s vs) acc c' H2, fun H2 q2 => ⟨ds.length - (k' + 1), by omega, rfl, hlt, q2⟩, fun v H2 y => ?_⟩
    obtain ⟨e2, r2⟩ := yl v H2 y
    obtain ⟨s2, he, hx⟩ := ht k' ds[k'] acc c' (by simp [hlt]) hI
    have f2 : Fw c' c' H' H2 := Fw.of_sub e2
    refine tgd.run _ H2 σ Γ1.s c' v ds[k'] s2 _ he (R'.more e2) r2 fun σ2 hw R2 => ⟨hw, ?_⟩
    have wipes : ∀ {G : Hp} {cs : Cs}, Rel X.K (lcMd μ p Γ1.c H1) G σ2 ⟨s2, cs⟩ → Rel X.K (lcMd μ p Γ1.c H1) G (wipe σ vs) ⟨wipeD Γ1.s vs, cs⟩ := fun {G cs} R => by
      have z := rel_wipe R vs
      rw [hw, tgd.wip _ _ _ he] at z
      exact z
    refine ⟨tTD X.K (lcMd μ p Γ1.c H1) _ _, hx _, R2, fun H3 b Γ3 s3 f3 R3 hq => ?_⟩
    obtain ⟨sl3, c3⟩ := Γ3
    obtain rfl : sl3 = s2 := s3
    have L3 := L.next lcMd_p (f2.trans f3) (wipes R3)
    cases b with
    | false =>
      rw [if_neg Bool.false_ne_true] at hq
      exact iteF ⟨acc, c3, Nat.le_succ_of_le hl, hq, L3⟩
    | true =>
      rw [if_pos rfl] at hq
      refine iteT ⟨tD X.K (lcMd μ p Γ1.c H1) _ _, hq, R3, fun y H4 d4 Γ4 s4 f4 R4 r4 hI4 => ?_⟩
      obtain ⟨sl4, c4⟩ := Γ4
      obtain rfl : sl4 = sl3 := s4
      have L4 := L3.next lcMd_p f4 (wipes R4)
      obtain ⟨us4, hD4, hl4, L5⟩ := L4.push lcMd_p hp hp r4
      exact ⟨us4, hD4, Nat.lt_of_le_of_lt (by rw [hl4]; exact Nat.le_trans hl (Nat.le_trans hk hlen)) (by decide), acc ++ [d4], c4, by rw [List.length_append]; exact Nat.succ_le_succ hl, hI4, L5⟩
  · have e : k' = ds.length := by omega
    subst e
    obtain ⟨f, R2, r2⟩ := lc_end R1 hp L
    exact .inl ⟨w2 (Nat.le_refl _), k _ H' (.lst acc) ⟨Γ1.s, c'⟩ s1 (f1.trans f) R2 r2 (hd acc c' hI)⟩
theorem xe_lcG {own : List (Str × Nat)} (hc : X.calm = true) (hN : X.N.Nodup) (hb : BlkOk X.N X.env.scope scope own) (tgd : TgD X.K g (own.map (·.2)) eff) (hg : Blk X scope fun Y => PG Y tg g)
    (h : XI X μ tg it Γ (QLcG X scope ifs elt eff Q)) (hs : ∀ x, foldedSetIterable it X.env x = pure x := by intro _; rfl) : XE X μ (.ListComp elt [⟨tg, it, ifs, 0⟩] scope pos) Γ Q :=
  PE.imp (pe_lc (g := g) (tt := uBT X scope ifs) (te := uBE X scope elt) hc hN h hb hg
    (fun s H C cl fp => ⟨fun pins s' σ H' q I ⟨t, ht, hq⟩ => (ht s H C cl fp).run pins s' σ H' q I hq⟩) (fun s H C cl fp => ⟨fun pins s' σ H' q I ⟨t, ht, hq⟩ => (ht s H C cl fp).run pins s' σ H' q I hq⟩) hs) fun σ H q h => lcG tgd σ H q h
end
end Pdl
namespace Pdl
open PySem L2 PyProof.Rows
section
variable {X : Cx} {μ : Md} {Γ : En} {Q : QE} {a b c e o it it1 tg tg1 elt : Expr} {es ifs ifs1 : List Expr} {pos apos cpos tpos : Pos} {x y d : D} {m : Addr → Bool} {H : Hp} {P : Po} {scope : Scope} {eff eff1 : D → List (Option D) → Option (List (Option D))} {vs vs1 : List Nat} {g g1 : TG}
/-- one clause, any target, by a function -/
def QLaG (X : Cx) (scope : Scope) (ifs : List Expr) (elt : Expr) (eff : D → List (Option D) → Option (List (Option D))) {α β : Type} (ea : α → D) (eb : β → D) (Q : QE) : List D → En → Prop := fun ds Γ1 => ∃ (as : List α) (F : α → Option β), ds = as.map ea ∧ as.length ≤ 100000 ∧
  (∀ a ∈ as, ∃ s2, eff (ea a) Γ1.s = some s2 ∧ ∀ μ', Blk X scope fun Y => XTl Y μ' ifs ⟨s2, Γ1.c⟩ fun b Γ3 => if b = true then Blk X scope fun Z => XE Z μ' elt Γ3 fun y Γ4 => ∃ r, F a = some r ∧ y = eb r ∧ Γ4.c = Γ1.c else F a = none ∧ Γ3.c = Γ1.c) ∧
  Q (.lst ((as.filterMap F).map eb)) Γ1
theorem qlaG {α β : Type} {ea : α → D} {eb : β → D} {ds : List D} {Γ1 : En} (h : QLaG X scope ifs elt eff ea eb Q ds Γ1) : QLcG X scope ifs elt eff Q ds Γ1 := by
  obtain ⟨as, F, rfl, hl, ht, hq⟩ := h
  refine ⟨fun k acc c => acc = ((as.take k).filterMap F).map eb ∧ c = Γ1.c, ⟨by simp, rfl⟩, ?_, by simpa using hl, ?_⟩
  · rintro k d acc c2 hd ⟨rfl, rfl⟩
    rw [List.getElem?_map] at hd
    obtain ⟨a, ha, rfl⟩ := Option.map_eq_some_iff.mp hd
    have et : as.take (k + 1) = as.take k ++ [a] := by
      rw [List.take_add_one, ha]
      rfl
    obtain ⟨s2, he, hx⟩ := ht a (List.mem_of_getElem? ha)
    refine ⟨s2, he, fun μ' s H C cl fp => ?_⟩
    refine ⟨fun pins s' σ' H' q I' ⟨R', k'⟩ => (hx μ' s H C cl fp).run pins s' σ' H' q I' ⟨R', fun H3 b Γ3 s3 f3 R3 hq => k' H3 b Γ3 s3 f3 R3 ?_⟩⟩
    cases b with
    | true =>
      rw [if_pos rfl] at hq ⊢
      intro s2 H2 C2 cl2 fp2
      refine (hq s2 H2 C2 cl2 fp2).imp ?_
      rintro d5 Γ5 ⟨r, g1, g2, g3⟩
      refine ⟨?_, g3⟩
      rw [et, List.filterMap_append]
      simp [g1, g2]
    | false =>
      rw [if_neg Bool.false_ne_true] at hq ⊢
      refine ⟨?_, hq.2⟩
      rw [et, List.filterMap_append]
      simp [hq.1]
  · rintro acc c2 ⟨rfl, rfl⟩
    have e : (as.map ea).length = as.length := by simp
    rw [e, List.take_length]
    exact hq
/-- [elt for x, y in it if ..] -/
theorem xe_lcT {α β : Type} (ea : α → D) (eb : β → D) {i j : Nat} {xn yn : Str} {px py : Pos} {kt : Nat} (hN : X.N.Nodup) (hi : X.N[i]? = some xn) (hj : X.N[j]? = some yn) (hij : i ≠ j) (hb : blkC X.N X.env.scope scope [(xn, i), (yn, j)] = true) (hx : Blk X scope fun Y => Loc Y.env.scope xn) (hf : Blk X scope fun Y => Y.fn xn = true ∨ Y.env.scope.names.lookup xn = some .local)
    (hx1 : Blk X scope fun Y => Loc Y.env.scope yn) (hf1 : Blk X scope fun Y => Y.fn yn = true ∨ Y.env.scope.names.lookup yn = some .local) (hcl : Blk X scope fun Y => Y.calm = true)
    (h1 : Blk X scope fun Y => (assignEach [Expr.Name xn px, Expr.Name yn py] Y.env).map (·.2) = assign (Expr.Name xn px) Y.env :: (assignEach [Expr.Name yn py] Y.env).map (·.2)) (h2 : Blk X scope fun Y => (assignEach [Expr.Name yn py] Y.env).map (·.2) = assign (Expr.Name yn py) Y.env :: (assignEach [] Y.env).map (·.2))
    (h3 : Blk X scope fun Y => (assignEach [Expr.Name xn px, Expr.Name yn py] Y.env).length = 2) (h4 : Blk X scope fun Y => (assignEach [Expr.Name xn px, Expr.Name yn py] Y.env).findIdx? (·.1) = none)
    (h : XI X μ (.Tuple [.Name xn px, .Name yn py] kt tpos) it Γ (QLaG X scope ifs elt (eff2 i j) ea eb Q)) (hs : ∀ x, foldedSetIterable it X.env x = pure x := by intro _; rfl) (hc : X.calm = true := by rfl) :
    XE X μ (.ListComp elt [⟨.Tuple [.Name xn px, .Name yn py] kt tpos, it, ifs, 0⟩] scope pos) Γ Q :=
  xe_lcG (own := [(xn, i), (yn, j)]) hc hN (blkOk_by hb) (tg_two hij) (fun s H C cl fp => pg_tup (hcl s H C cl fp) (pgs_cons (pg_name hN hi (hx s H C cl fp) (hf s H C cl fp)) (pgs_cons (pg_name hN hj (hx1 s H C cl fp) (hf1 s H C cl fp)) pgs_nil (h2 s H C cl fp)) (h1 s H C cl fp)) (h3 s H C cl fp) (h4 s H C cl fp)) (h.imp fun _ _ => qlaG) hs
end
end Pdl
namespace Pdl
open PySem L2 PyProof.Rows PySem.W
section
variable {α : Type}
def leE (e : α → D) : α → α → Bool := dataLe false fun a => toPy (e a)
def srtE (e : α → D) (l : List α) : List α := l.mergeSort (leE e)
/-- keys tell the things of l apart -/
def KInj (e : α → D) (l : List α) : Prop := ∀ a ∈ l, ∀ b ∈ l, keyToks (toPy (e a)) = keyToks (toPy (e b)) → a = b
theorem leE_trans (e : α → D) (a b c : α) (h1 : leE e a b = true) (h2 : leE e b c = true) : leE e a c = true := (sortLe_total (listOrd itemOrd) false fun a => keyToks (toPy (e a))).trans a b c h1 h2
theorem leE_total (e : α → D) (a b : α) : (leE e a b || leE e b a) = true := by
  have := (sortLe_total (listOrd itemOrd) false fun a => keyToks (toPy (e a))).total a b
  unfold leE dataLe
  rcases this with h | h <;> simp [h]
theorem leE_anti {e : α → D} {l : List α} (hk : KInj e l) {a b : α} (ha : a ∈ l) (hb : b ∈ l) (h1 : leE e a b = true) (h2 : leE e b a = true) : a = b := by
  have h1' : (!PyProof.Rows.lexLt itemOrd (keyToks (toPy (e b))) (keyToks (toPy (e a)))) = true := h1
  have h2' : (!PyProof.Rows.lexLt itemOrd (keyToks (toPy (e a))) (keyToks (toPy (e b)))) = true := h2
  rw [Bool.not_eq_true'] at h1' h2'
  exact hk a ha b hb (lex_total _ _ h2' h1')
theorem srtE_perm (e : α → D) (l : List α) : (srtE e l).Perm l := List.mergeSort_perm _ _
theorem srtE_sorted (e : α → D) (l : List α) : (srtE e l).Pairwise fun a b => leE e a b = true := List.pairwise_mergeSort (leE_trans e) (leE_total e) l
theorem srtE_eq {e : α → D} {l m : List α} (hk : KInj e l) (hs : m.Pairwise fun a b => leE e a b = true) (hp : m.Perm l) : srtE e l = m :=
  List.Perm.eq_of_pairwise (fun a b ha hb h1 h2 => leE_anti hk ((srtE_perm e l).mem_iff.mp ha) (hp.mem_iff.mp hb) h1 h2) (srtE_sorted e l) hs ((srtE_perm e l).trans hp.symm)
theorem srtE_same {e : α → D} {l m : List α} (hk : KInj e l) (hp : m.Perm l) : srtE e m = srtE e l :=
  (srtE_eq hk (srtE_sorted e m) ((srtE_perm e m).trans hp)).symm
theorem srtD_map (e : α → D) (l : List α) : srtD (l.map e) = (srtE e l).map e := (sort_maps (r := leE e) (s := dataLe false toPy) e (l := l) (fun _ _ _ _ => rfl)).symm
end
section
variable {X : Cx} {α : Type}
theorem cd_sortedE {e : α → D} {d : D} {l : List α} (hc : X.calm = true) (hu : X.A.units + 64 < cLine) (hi : Items d (l.map e)) (ok : SortOk (l.map e)) : CallD X (.builtin "sorted") [d] (.lst ((srtE e l).map e)) := by
  rw [← srtD_map]
  exact cd_sorted hc hu hi ok
end
def tS (ls : List (List Nat)) : D := .tup (SL ls)
theorem keys_SL : ∀ {a b : List (List Nat)}, keyToksAll (toPyL (SL a)) = keyToksAll (toPyL (SL b)) → a = b
  | [], [], _ => rfl
  | [], y :: b, h => by
    have h : keyToksAll [] = keyToksAll (.str (S y) :: toPyL (SL b)) := h
    simp [keyToksAll] at h
  | x :: a, [], h => by
    have h : keyToksAll (.str (S x) :: toPyL (SL a)) = keyToksAll [] := h
    simp [keyToksAll] at h
  | x :: a, y :: b, h => by
    have h : keyToksAll (.str (S x) :: toPyL (SL a)) = keyToksAll (.str (S y) :: toPyL (SL b)) := h
    simp only [keyToksAll, keyToks, List.cons_append, List.nil_append, List.cons.injEq, Sum.inr.injEq] at h
    obtain ⟨_, h1, h2⟩ := h
    rw [keys_SL h2]
    have h1 : x = y := h1
    rw [h1]
theorem kinj_tS (l : List (List (List Nat))) : KInj tS l := fun a _ b _ h => by
  have h : keyToks (.tuple (toPyL (SL a))) = keyToks (.tuple (toPyL (SL b))) := h
  unfold keyToks at h
  exact keys_SL h
end Pdl
namespace Pdl
open PySem L2 PyProof.Rows
section
variable {prog : Program} {w : World} {A : Around} {E : Value → Shared → Prop} {s : Shared}
theorem unpack_two {a b : Nat} {t : Tok} {targets : List (Bool × (Value → Sem Unit))} {Q : Unit → Shared → Prop} (hh : A.handled = none) (ha : a < 128) (hb : b < 128) (hn : targets.length = 2) (hst : targets.findIdx? (·.1) = none)
    (h : ∀ h' t1 t2 tk, (∀ b o, s.heap.get? b = some o → h'.get? b = some o) → wpAny (model prog w) A (assignInOrder (targets.map (·.2)) [.str (S [a]) t1, .str (S [b]) t2]) Q E { s with heap := h', toks := tk }) :
    wpAny (model prog w) A (unpack (.str (S [a, b]) t) targets) Q E s := by
  have asc : (S [a, b]).cps.all (· < 128) = true := by
    show (#[a, b]).all (· < 128) = true
    simp [ha, hb]
  unfold unpack
  rw [hn, hst]
  refine wpAny_bind (wpAny_holding ?_)
  unfold unpackItems
  refine wpAny_bind ?_
  unfold notIterableAtAll
  refine wpAny_bind (wpAny_specialOf (typeIs_str s _ t) F.slot_str_iter.lookup ?_)
  refine wpAny_pure ?_
  simp only [Bool.false_eq_true, if_false]
  refine wpAny_bind (wpAny_holding (wpAny_pyIter_ascii asc ?_))
  have i0 : (s.heap.push { cls := .type "str_ascii_iterator", data := .fields #[.str (S [a, b]) t, .int 0 0] }).IsStrIter s.heap.objs.size "str_ascii_iterator" (S [a, b]) t 0 := ⟨_, Heap.get?_push_size _ rfl, rfl, rfl⟩
  refine wpAny_bind (wpAny_holding ?_)
  show wpAny _ _ (pyNext _ >>= _) _ _ _
  refine wpAny_bind (wpAny_pyNext_ascii_item i0 (c := a) rfl fun h1 i1 b1 => ?_)
  refine wpAny_bind (wpAny_holding ?_)
  show wpAny _ _ (pyNext _ >>= _) _ _ _
  refine wpAny_bind (wpAny_pyNext_ascii_item i1 (c := b) rfl fun h2 i2 b2 => ?_)
  refine wpAny_bind (wpAny_holding (wpAny_pure ?_))
  refine wpAny_pure ?_
  refine wpAny_pure ?_
  rw [if_neg (by simp)]
  refine wpAny_bind (wpAny_holding (wpAny_pyNext_ascii_end hh i2 rfl fun h3 e3 => ?_))
  simp only [Option.isSome_none, Bool.false_eq_true, if_false]
  refine wpAny_pure (h h3 _ _ _ fun c o e => ?_)
  have hne : c ≠ s.heap.objs.size := Nat.ne_of_lt (Heap.lt_size e)
  exact e3 c o hne (b2.extBut c o hne (b1.extBut c o hne (Heap.get?_push_of_some _ e)))
end
section
variable {X : Cx} {μ : Md} {Γ : En} {Q : QE} {a b c e o it tg elt : Expr} {es ifs : List Expr} {pos apos cpos tpos p : Pos} {x y d : D} {m : Addr → Bool} {H : Hp} {P : Po} {scope : Scope}
def gTwoS (t : TGs) : TG := fun v σ H Q => ∃ a b : Nat, v = .str (S [a, b]) ∧ a < 128 ∧ b < 128 ∧ t [.str (S [a]), .str (S [b])] σ H Q
theorem pg_twoS {es : List Expr} {k : Nat} {t : TGs} (hc : X.calm = true) (h : PGs X es t) (hn : (assignEach es X.env).length = 2 := by rfl) (hst : (assignEach es X.env).findIdx? (·.1) = none := by rfl) : PG X (.Tuple es k pos) (gTwoS t) := by
  refine ⟨fun pins s σ H v u Q I r hw => ?_⟩
  obtain ⟨a, b, rfl, ha, hb, hw⟩ := hw
  obtain ⟨t, rfl⟩ := r
  rw [assign_Tuple]
  refine wpAny_bind (wpAny_standAt (unpack_two (I.ok.hd hc) ha hb hn hst fun h' t1 t2 tk hk => ?_))
  exact h.run pins _ σ H [.str (S [a]), .str (S [b])] _ Q (I.kept (t' := tk) hk) (.cons ⟨t1, rfl⟩ (.cons ⟨t2, rfl⟩ .nil)) hw
theorem xg_twoS {Q : En → Prop} {ts : List Expr} {j a b : Nat} (hc : X.calm = true) (ha : a < 128) (hb : b < 128) (h : XGs X μ ts [.str (S [a]), .str (S [b])] Γ Q) (hn : (assignEach ts X.env).length = 2 := by rfl) (hst : (assignEach ts X.env).findIdx? (·.1) = none := by rfl) : XG X μ (.Tuple ts j pos) (.str (S [a, b])) Γ Q :=
  PG.imp (pg_twoS hc h hn hst) fun v σ H q ⟨R, r, k⟩ => by
    cases r
    exact ⟨a, b, rfl, ha, hb, R, .cons (.str _) (.cons (.str _) .nil), k⟩
def QLcC (X : Cx) (scope : Scope) (ifs : List Expr) (elt : Expr) (eff : D → List (Option D) → Option (List (Option D))) (ds : List D) (Q : QE) (Γ : En) : Prop := ∃ I : Nat → List D → Prop, I 0 [] ∧
  (∀ k d acc, ds[k]? = some d → I k acc → ∃ s2, eff d Γ.s = some s2 ∧ ∀ μ', Blk X scope fun Y => XTl Y μ' ifs ⟨s2, Γ.c⟩ fun b Γ3 => Γ3.c = Γ.c ∧ if b = true then Blk X scope fun Z => XE Z μ' elt Γ3 fun y Γ4 => Γ4.c = Γ.c ∧ I (k + 1) (acc ++ [y]) else I (k + 1) acc) ∧
  ds.length ≤ 100000 ∧ ∀ acc, I ds.length acc → Q (.lst acc) Γ
theorem lcC {g : TG} {vs : List Nat} {eff : D → List (Option D) → Option (List (Option D))} {pc : Addr} {ds : List D} {i : Nat} (tgd : TgD X.K g vs eff) (hx : Γ.s[i]? = some (some (.ref pc))) (hin : (pc, Cell.lst ds) ∈ Γ.c) (hq : QLcC X scope ifs elt eff ds Q Γ) (σ : L2.St) (H : Hp) (q : VK) (h : tD X.K μ Γ Q σ H q) :
    tLc (iList X.K (tVar i)) g (uBT X scope ifs) (uBE X scope elt) vs σ H q := by
  obtain ⟨R, k⟩ := h
  obtain ⟨I, h0, ht, hlen, hd⟩ := hq
  obtain ⟨v, hv, rv⟩ := R.slots.2 i _ hx
  cases rv
  obtain ⟨ws, hw, rw'⟩ := R.co.cells _ hin
  refine ⟨_, hv, pc, rfl, ⟨ws, .of hw⟩, fun p hp => ?_⟩
  have hne : pc ≠ p := ne_of_none hw hp
  refine ⟨fun k' n H' => n = ds.length - k' ∧ k' ≤ ds.length ∧ ∃ (acc : List D), acc.length ≤ k' ∧ I k' acc ∧ LcSt X.K (lcMd μ p Γ.c H) p Γ.c H (wipe σ vs) (wipeD Γ.s vs) acc Γ.c H',
    ⟨ds.length, by simp, Nat.zero_le _, [], Nat.le_refl _, h0, lc_start R hp vs⟩, ?_⟩
  rintro k' n H' ⟨rfl, hk, acc, hl, hI, L⟩
  obtain ⟨us, hD, ra, f', R'⟩ := id L
  obtain ⟨xs, hxs, rx⟩ := R'.co.cells _ hin
  have sq : SqL X.K H' pc xs := .of hxs
  by_cases hlt : k' < ds.length
  · obtain ⟨v', hv', rv'⟩ := rx.got (i := k') (d := ds[k']) (by simp [hlt])
    refine .inr ⟨⟨xs, v', sq, hv'⟩, fun H2 => ∃ (acc : List D), acc.length ≤ k' + 1 ∧ I (k' + 1) acc ∧ LcSt X.K (lcMd μ p Γ.c H) p Γ.c H (wipe σ vs) (wipeD Γ.s vs) acc Γ.c H2, fun H2 q2 => ⟨ds.length - (k' + 1), by omega, rfl, hlt, q2⟩, fun z H2 y => ?_⟩
    obtain ⟨rfl, hz⟩ := y
    have ez : z = v' := by
      have := hz xs sq
      rw [hv'] at this
      exact (Option.some.inj this).symm
    subst ez
    obtain ⟨s2, he, hx⟩ := ht k' ds[k'] acc (by simp [hlt]) hI
    refine tgd.run _ _ σ Γ.s Γ.c z ds[k'] s2 _ he R' rv' fun σ2 hw R2 => ⟨hw, ?_⟩
    have wipes : ∀ {G : Hp} {cs : Cs}, Rel X.K (lcMd μ p Γ.c H) G σ2 ⟨s2, cs⟩ → Rel X.K (lcMd μ p Γ.c H) G (wipe σ vs) ⟨wipeD Γ.s vs, cs⟩ := fun {G cs} R => by
      have z := rel_wipe R vs
      rw [hw, tgd.wip _ _ _ he] at z
      exact z
    refine ⟨tTD X.K (lcMd μ p Γ.c H) _ _, hx _, R2, fun H3 b Γ3 s3 f3 R3 hq => ?_⟩
    obtain ⟨hc3, hq⟩ := hq
    obtain ⟨sl3, c3⟩ := Γ3
    obtain rfl : sl3 = s2 := s3
    obtain rfl : c3 = Γ.c := hc3
    have L3 := L.next lcMd_p f3 (wipes R3)
    cases b with
    | false =>
      rw [if_neg Bool.false_ne_true] at hq
      exact iteF ⟨acc, Nat.le_succ_of_le hl, hq, L3⟩
    | true =>
      rw [if_pos rfl] at hq
      refine iteT ⟨tD X.K (lcMd μ p Γ.c H) _ _, hq, R3, fun y H4 d4 Γ4 s4 f4 R4 r4 hI4 => ?_⟩
      obtain ⟨hc4, hI4⟩ := hI4
      obtain ⟨sl4, c4⟩ := Γ4
      obtain rfl : sl4 = sl3 := s4
      obtain rfl : c4 = Γ.c := hc4
      have L4 := L3.next lcMd_p f4 (wipes R4)
      obtain ⟨us4, hD4, hl4, L5⟩ := L4.push lcMd_p hp hp r4
      exact ⟨us4, hD4, Nat.lt_of_le_of_lt (by rw [hl4]; exact Nat.le_trans hl (Nat.le_trans hk hlen)) (by decide), acc ++ [d4], by rw [List.length_append]; exact Nat.succ_le_succ hl, hI4, L5⟩
  · have e : k' = ds.length := by omega
    subst e
    obtain ⟨f, R2, r2⟩ := lc_end R hp L
    exact .inl ⟨⟨xs, sq, by rw [rx.length]; exact Nat.le_refl _⟩, k _ H' (.lst acc) Γ rfl f R2 r2 (hd acc hI)⟩
def QLaC (X : Cx) (scope : Scope) (ifs : List Expr) (elt : Expr) (i : Nat) {α β : Type} (ea : α → D) (eb : β → D) (ds : List D) (Q : QE) (Γ : En) : Prop := ∃ (as : List α) (F : α → Option β), ds = as.map ea ∧ as.length ≤ 100000 ∧
  (∀ a ∈ as, ∀ μ', Blk X scope fun Y => XTl Y μ' ifs ⟨Γ.s.set i (some (ea a)), Γ.c⟩ fun b Γ3 => Γ3.c = Γ.c ∧ if b = true then Blk X scope fun Z => XE Z μ' elt Γ3 fun y Γ4 => ∃ r, F a = some r ∧ y = eb r ∧ Γ4.c = Γ.c else F a = none) ∧
  Q (.lst ((as.filterMap F).map eb)) Γ
theorem qlaC {α β : Type} {ea : α → D} {eb : β → D} {i : Nat} {ds : List D} (h : QLaC X scope ifs elt i ea eb ds Q Γ) : QLcC X scope ifs elt (eff1 i) ds Q Γ := by
  obtain ⟨as, F, rfl, hl, ht, hq⟩ := h
  refine ⟨fun k acc => acc = ((as.take k).filterMap F).map eb, by simp, ?_, by simpa using hl, ?_⟩
  · rintro k d acc hd rfl
    rw [List.getElem?_map] at hd
    obtain ⟨a, ha, rfl⟩ := Option.map_eq_some_iff.mp hd
    have et : as.take (k + 1) = as.take k ++ [a] := by
      rw [List.take_add_one, ha]
      rfl
    refine ⟨_, rfl, fun μ' s H C cl fp => ?_⟩
    refine ⟨fun pins s' σ' H' q I' ⟨R', k'⟩ => (ht a (List.mem_of_getElem? ha) μ' s H C cl fp).run pins s' σ' H' q I' ⟨R', fun H3 b Γ3 s3 f3 R3 hq => k' H3 b Γ3 s3 f3 R3 ⟨hq.1, ?_⟩⟩⟩
    have hq := hq.2
    cases b with
    | true =>
      rw [if_pos rfl] at hq ⊢
      intro s2 H2 C2 cl2 fp2
      refine (hq s2 H2 C2 cl2 fp2).imp ?_
      rintro d5 Γ5 ⟨r, g1, g2, g3⟩
      refine ⟨g3, ?_⟩
      show _ = ((as.take (k + 1)).filterMap F).map eb
      rw [et, List.filterMap_append]
      simp [g1, g2]
    | false =>
      rw [if_neg Bool.false_ne_true] at hq ⊢
      show _ = ((as.take (k + 1)).filterMap F).map eb
      rw [et, List.filterMap_append]
      simp [hq]
  · rintro acc rfl
    have e : (as.map ea).length = as.length := by simp
    rw [e, List.take_length]
    exact hq
/-- [elt for x in own if ..], own a list of one's own -/
theorem xe_lcCA {α β : Type} (ea : α → D) (eb : β → D) {i ic : Nat} {xn cn : Str} {pc : Addr} {ds : List D} {np : Pos} (hN : X.N.Nodup) (hi : X.N[i]? = some xn) (hb : blkC X.N X.env.scope scope [(xn, i)] = true) (hx : Blk X scope fun Y => Loc Y.env.scope xn) (hf : Blk X scope fun Y => Y.fn xn = true ∨ Y.env.scope.names.lookup xn = some .local)
    (hic : X.N[ic]? = some cn) (hvc : Vis X.env.scope cn) (hs : Γ.s[ic]? = some (some (.ref pc))) (hin : (pc, Cell.lst ds) ∈ Γ.c) (h : QLaC X scope ifs elt i ea eb ds Q Γ)
    (h1 : (cn == ("__debug__" : Str)) = false := by decide) (h2 : (cn == ("__classdict__" : Str)) = false := by decide) (hsf : ∀ x, foldedSetIterable (.Name cn np) X.env x = pure x := by intro _; rfl) (hc : X.calm = true := by rfl) : XE X μ (.ListComp elt [⟨.Name xn tpos, .Name cn np, ifs, 0⟩] scope pos) Γ Q :=
  PE.imp (pe_lc (own := [(xn, i)]) (g := gName i) (tt := uBT X scope ifs) (te := uBE X scope elt) hc hN (pi_list (pe_var hic hvc h1 h2)) (blkOk_by hb) (fun s H C cl fp => pg_name hN hi (hx s H C cl fp) (hf s H C cl fp))
    (fun s H C cl fp => ⟨fun pins s' σ H' q I ⟨t, ht, hq⟩ => (ht s H C cl fp).run pins s' σ H' q I hq⟩) (fun s H C cl fp => ⟨fun pins s' σ H' q I ⟨t, ht, hq⟩ => (ht s H C cl fp).run pins s' σ H' q I hq⟩) hsf) fun σ H q hh => lcC (tg_name i) hs hin (qlaC h) σ H q hh
theorem xs_lcCA {α β : Type} (ea : α → D) (eb : β → D) {i ic j : Nat} {xn cn yn : Str} {pc : Addr} {ds : List D} {np py spos : Pos} (hN : X.N.Nodup) (hi : X.N[i]? = some xn) (hb : blkC X.N X.env.scope scope [(xn, i)] = true) (hx : Blk X scope fun Y => Loc Y.env.scope xn) (hf : Blk X scope fun Y => Y.fn xn = true ∨ Y.env.scope.names.lookup xn = some .local)
    (hic : X.N[ic]? = some cn) (hvc : Vis X.env.scope cn) (hs : Γ.s[ic]? = some (some (.ref pc))) (hin : (pc, Cell.lst ds) ∈ Γ.c)
    (hy : X.N[j]? = some yn) (hyl : X.env.scope.names.lookup yn = some .local) (hk : X.env.scope.kind = .function) (hl : (py.line == pos.line) = true) (ha : (scope.names.any fun (n, k) => n == yn && (k == .local || k == .cell)) = false)
    (h : QLaC X scope ifs elt i ea eb ds (fun d Γ1 => P.nx { Γ1 with s := Γ1.s.set j (some d) }) Γ)
    (h1 : (cn == ("__debug__" : Str)) = false := by decide) (h2 : (cn == ("__classdict__" : Str)) = false := by decide) (hsf : ∀ x, foldedSetIterable (.Name cn np) X.env x = pure x := by intro _; rfl) (hc : X.calm = true := by rfl) : XS X μ (.Assign [.Name yn py] (.ListComp elt [⟨.Name xn tpos, .Name cn np, ifs, 0⟩] scope pos) spos) Γ P :=
  PS.imp (ps_setLc (i := j) (own := [(xn, i)]) (g := gName i) (tt := uBT X scope ifs) (te := uBE X scope elt) hc hN hy hyl (sw_true hk hyl hl ha) (pi_list (pe_var hic hvc h1 h2)) (blkOk_by hb) (fun s H C cl fp => pg_name hN hi (hx s H C cl fp) (hf s H C cl fp))
    (fun s H C cl fp => ⟨fun pins s' σ H' q I ⟨t, ht, hq⟩ => (ht s H C cl fp).run pins s' σ H' q I hq⟩) (fun s H C cl fp => ⟨fun pins s' σ H' q I ⟨t, ht, hq⟩ => (ht s H C cl fp).run pins s' σ H' q I hq⟩) hsf)
    fun D σ H ⟨R, k, _⟩ => lcC (tg_name i) hs hin (qlaC h) σ H _ ⟨R, fun v H1 d Γ1 s1 f1 R1 r1 hq => k _ H1 { Γ1 with s := Γ1.s.set j (some d) } f1 (R1.set j r1) hq⟩
theorem xe_me {pl : Sem Bool} {k n : Nat} {C : Addr} {f : Str} {S : PSp} (M : Me (wdX X) C f k S) (hr : Room n X.A) (hkn : k ≤ n) (h : XE X μ o Γ fun z Γ1 => ∃ fs, z = .ins C fs ∧ fs.lookup f = none ∧ XA X μ (e :: es) Γ1 fun ds Γ2 => ∀ Qc : D → Prop, (∀ d, Q d Γ2 → Qc d) → S (.ins C fs :: ds) Qc)
    (hst : starEach (e :: es) X.env = (false, eval e X.env) :: starEach es X.env := by rfl) (hpl : (backTo pos (starEach es X.env)).any (·.1) = false := by rfl)
    (ht : eval (.Call (.Attribute o f apos) (e :: es) [] pos) X.env = (do
      let ov ← eval o X.env
      standAt apos.atName
      let (f, first) ← holding [ov] (getMethod ov f pl)
      callWith pos f first (backTo pos (starEach (e :: es) X.env)) (backToKw pos (keywordEach [] X.env))) := by rfl) : XE X μ (.Call (.Attribute o f apos) (e :: es) [] pos) Γ Q :=
  xe_meth M (hr.mono hkn) (h.imp fun d Γ' ⟨fs, e1, e2, hq⟩ => ⟨fs, e1, e2, PA.imp hq fun σ H q ⟨R, k⟩ => ⟨R, fun vs H' ds Γ'' s' f' R' r' hq => k vs H' ds Γ'' s' f' R' r' (asks_p hq)⟩⟩) hst hpl ht
end
end Pdl
namespace Pdl
open PySem L2 PyProof.Rows
section
variable {X : Cx} {μ : Md} {Γ : En} {Q : QE} {a b c e e2 o it tg elt : Expr} {es ifs : List Expr} {pos apos cpos tpos p : Pos} {x y d : D} {m : Addr → Bool} {H : Hp} {P : Po} {scope : Scope}
theorem call_tuple_x : CallR X (.type "tuple") (fun xs H Q => ∃ p ys, xs = [.ref p] ∧ SqL X.K H p ys ∧ ∀ (l : Addr) (ob : Obj), H l = none → ob.cls = .type "tuple" → ob.dict = none → Q (.ref l) (upd H l (.frz ob (.tup ys)))) := by
  intro pins s σ H xs us Q I r h
  obtain ⟨p, ys, rfl, hq, q⟩ := h
  obtain ⟨u, rfl, rx⟩ := r.one
  cases rx
  obtain ⟨its, r', pl, hz⟩ := I.list hq
  refine call_tuple_list pl.isList (fun h' kp => ?_) (by rw [List.size_toArray, ← r'.length]; exact hz)
  have J : Inv X pins σ H { s with heap := h' } := I.kept (t' := s.toks) kp
  have new : ObjOk X.prog X.w (upd H h'.objs.size (.frz { cls := .type "tuple", data := .seq its.toArray } (.tup ys))) (h'.push { cls := .type "tuple", data := .seq its.toArray }) h'.objs.size (.frz { cls := .type "tuple", data := .seq its.toArray } (.tup ys)) :=
    ⟨Heap.get?_push_size _ rfl, hz, its, r', IsTup.new _ _⟩
  exact ⟨.ref h'.objs.size, _, J.laid (t' := s.toks) (fun b o e => Heap.get?_push_of_some _ e) (Nat.le_refl _) new, rfl, q _ _ (J.hok.fresh (Nat.le_refl _)) rfl rfl⟩
theorem xe_own_tup (hg : Gl X "tuple") (hm : X.mg "tuple" = none) (h : XA X μ (e :: es) Γ fun ds Γ1 => ∃ xs, ds = [.lst xs] ∧ ∀ p, Q (.ref p) ⟨Γ1.s, Γ1.c ++ [(p, .tupx xs)]⟩)
    (he : starEach (e :: es) X.env = (false, eval e X.env) :: starEach es X.env := by rfl) (hpl : (backTo pos (starEach es X.env)).any (·.1) = false := by rfl) : XE X μ (.Call (.Name "tuple" p) (e :: es) [] pos) Γ Q :=
  PE.imp (pe_callTy call_tuple_x hg hm PyProof.Rows.boot_tuple h (by decide) (by decide) he hpl) fun σ H q ⟨R, k⟩ => ⟨R, fun vs H1 ds Γ1 s1 f1 R1 r1 ⟨xs, hd, hq⟩ => by
    subst hd
    obtain ⟨v, rfl, r⟩ := r1.one
    cases r with
    | @lst a ys _ q1 q2 =>
      refine ⟨a, ys, rfl, (hid_sub _ _).sqL q1, fun l ob hl hc hd => ?_⟩
      obtain ⟨R2, f2⟩ := R1.newC (cl := .tupx xs) (o := .frz ob (.tup ys)) hl ⟨ob, ys, rfl, hc, hd, q2⟩
      exact k _ _ (.ref l) ⟨Γ1.s, Γ1.c ++ [(l, .tupx xs)]⟩ s1 (f1.trans f2) R2 (.ref l) (hq l)⟩
theorem pairsX {pins : List (Addr × Obj)} {σ : L2.St} {H : Hp} {s : Shared} (I : Inv X pins σ H s) : ∀ {tups : List Addr} {kvs : List (Key × V)}, Paired (fun p kv => SqT X.K H p [kV kv.1, kv.2]) tups kvs →
    ∃ (ps : List (Value × Value)) (prs : List (Key × Value)), KV kvs prs ∧ ps.length = tups.length ∧ prs.length = tups.length ∧ ∀ (j : Nat) (k v : Value), ps[j]? = some (k, v) → ∃ T key, tups[j]? = some T ∧ prs[j]? = some (key, v) ∧ keyIs key k = true ∧ IsTup s.heap T #[k, v]
  | _, _, .nil => ⟨[], [], .nil, rfl, rfl, fun j k v e => by simp at e⟩
  | _, _, .cons (a := T) (b := kv) h t => by
    obtain ⟨ps, prs, r, l1, l2, hp⟩ := pairsX I t
    obtain ⟨its, rv, ht, _⟩ := I.tuple h
    obtain ⟨u, y, rfl, ru, ry⟩ : ∃ u y, its = [u, y] ∧ RelV (kV kv.1) u ∧ RelV kv.2 y := by
      cases rv with
      | cons h1 t1 => cases t1 with
        | cons h2 t2 => cases t2; exact ⟨_, _, rfl, h1, h2⟩
    refine ⟨(u, y) :: ps, (kv.1, y) :: prs, .cons ⟨rfl, ry⟩ r, by simp [l1], by simp [l2], fun j k v e => ?_⟩
    cases j with
    | zero =>
      cases e
      exact ⟨T, kv.1, rfl, rfl, kV_is (P := X.prog) (w := X.w) ru, ht⟩
    | succ j =>
      obtain ⟨T', key, e1, e2, e3, e4⟩ := hp j k v (by simpa using e)
      exact ⟨T', key, by simpa using e1, by simpa using e2, e3, e4⟩
theorem call_dict_x (hc : X.calm = true) : CallR X (.type "dict") (fun xs H Q => ∃ (a : Addr) (ob : Obj) (tups : List Addr) (kvs : List (Key × V)), xs = [.ref a] ∧ H a = some (.frz ob (.tup (tups.map V.ref))) ∧ ob.cls = .type "tuple" ∧ ob.dict = none ∧ Paired (fun p kv => SqT X.K H p [kV kv.1, kv.2]) tups kvs ∧
    tups.length ≤ 100000 ∧ ∀ p, H p = none → Q (.ref p) (upd H p (.dK (mergeK [] kvs)))) := by
  intro pins s σ H xs us Q I r h
  obtain ⟨a, ob, tups, kvs, rfl, hH, hcl, hdi, hp, hz, q⟩ := h
  obtain ⟨u, rfl, rx⟩ := r.one
  cases rx
  obtain ⟨ho, hl, its, rv, o2, ho2, hc2, n, hd2⟩ := (show ObjOk X.prog X.w H s.heap a (.frz ob (.tup (tups.map V.ref))) from I.hok a _ hH)
  rw [ho] at ho2
  cases ho2
  have ei : its = tups.map Value.ref := by
    have gen : ∀ {ts : List Addr} {is : List Value}, Vals (ts.map V.ref) is → is = ts.map Value.ref := fun {ts} => by
      induction ts with
      | nil => intro is h; cases h; rfl
      | cons t ts ih =>
        intro is h
        cases h with
        | cons h1 h2 =>
          cases h1
          rw [ih h2]
          rfl
    exact gen rv
  subst ei
  obtain ⟨ps, prs, rel, l1, l2, hpr⟩ := pairsX I hp
  have PA := PairArg.tuple (prog := X.prog) (w := X.w) a (tups.map Value.ref).toArray (fun j => tups.getD j 0) ps
  refine PySem.call_dict_pairs (knd := mixKind X.prog X.w) (kvs := prs) PA (I.ok.hd hc) ⟨⟨ob, n, ho, hcl, hdi, hd2⟩, ⟨by simp [l1], fun j k v e => ?_⟩⟩ ⟨by rw [l2, l1], fun i key v e => ?_⟩ (by rw [l1]; exact Nat.le_trans hz (by decide)) fun h' tk hd' k => ?_
  · obtain ⟨T, key, e1, e2, e3, e4⟩ := hpr j k v e
    refine ⟨?_, .inl ?_⟩
    · simp [e1]
    · show IsTup s.heap (tups.getD j 0) #[k, v]
      rw [show tups.getD j 0 = T by simp [List.getD, e1]]
      exact e4
  · obtain ⟨T, key', e1, e2, e3, e4⟩ := hpr i key v e
    exact ⟨key', e2, e3⟩
  · have hm : (s.heap.objs.size == sysModules) = false := beq_eq_false_iff_ne.mpr (Nat.ne_of_gt I.big)
    have hlen : (mergeK [] kvs).length ≤ sizeLine := by
      refine Nat.le_trans (length_mergeK kvs []) ?_
      rw [List.length_nil, Nat.zero_add, rel.length, l2]
      exact Nat.le_trans hz (by decide)
    exact ⟨.ref s.heap.objs.size, _, I.laid (t' := tk) (fun b o e => k b o (fun z => by cases z) e) (Nat.le_refl _) (show ObjOk X.prog X.w _ _ _ (.dK (mergeK [] kvs)) from ⟨hlen, hm, merged [] prs, KV.merge rel .nil, hd'⟩), rfl, q _ (I.hok.fresh (Nat.le_refl _))⟩
/-- pairs as data -/
def prD (q : Key × D) : D := .tup [kD q.1, q.2]
theorem rp_pairs {K : PySem.W.Frag} {G H : Hp} (sb : Sub G H) : ∀ {kvs : List (Key × D)} {vs : List V}, RpA K G vs (kvs.map prD) → ∃ (tups : List Addr) (us : List (Key × V)), vs = tups.map V.ref ∧ tups.length = kvs.length ∧ Paired (fun p kv => SqT K H p [kV kv.1, kv.2]) tups us ∧ RpK K G us kvs
  | [], _, .nil => ⟨[], [], rfl, rfl, .nil, .nil⟩
  | q :: kvs, _, .cons h t => by
    obtain ⟨tups, us, rfl, hl, hp, hr⟩ := rp_pairs sb t
    obtain ⟨k, d⟩ := q
    cases h with
    | @tup a ws _ s1 r1 =>
      obtain ⟨v1, v2, rfl, q1, q2⟩ := r1.two
      have e1 : v1 = kV k := by
        cases k with
        | inl i => cases q1; rfl
        | inr x => cases q1; rfl
      subst e1
      exact ⟨a :: tups, (k, v2) :: us, rfl, by simp [hl], .cons (sb.sqT s1.sq) hp, .cons q2 hr⟩
theorem mergeK_nodup : ∀ {kvs acc : List (Key × V)}, ((acc ++ kvs).map (·.1)).Nodup → mergeK acc kvs = acc ++ kvs
  | [], acc, _ => by simp [mergeK]
  | q :: kvs, acc, h => by
    have e : putK acc q.1 q.2 = acc ++ [q] := by
      unfold putK
      have : (acc.any fun kv => decide (kv.1 = q.1)) = false := by
        rw [List.any_eq_false]
        intro z hz
        simp only [decide_eq_true_eq]
        intro ez
        rw [List.map_append, List.nodup_append] at h
        exact h.2.2 z.1 (List.mem_map_of_mem hz) q.1 (by simp) ez
      rw [this, if_neg Bool.false_ne_true]
    show mergeK (putK acc q.1 q.2) kvs = _
    rw [e, mergeK_nodup (by simpa using h)]
    simp
/-- dict(x), x a tuple of one's own -/
theorem xe_dictX {i : Nat} {xn : Str} {px pf : Pos} {s : List (Option D)} {c1 c2 : Cs} {pa : Addr} {kvs : List (Key × D)} (hg : Gl X "dict") (hm : X.mg "dict" = none) (hN : X.N[i]? = some xn) (hv : Vis X.env.scope xn) (hx : s[i]? = some (some (.ref pa))) (hl : kvs.length ≤ 100000) (hn : (kvs.map (·.1)).Nodup)
    (h : Q (.dct kvs) ⟨s, c1 ++ (pa, .tupx (kvs.map prD)) :: c2⟩) (h1 : (xn == ("__debug__" : Str)) = false := by decide) (h2 : (xn == ("__classdict__" : Str)) = false := by decide) (hc : X.calm = true := by rfl)
    (he : starEach [Expr.Name xn px] X.env = (false, eval (.Name xn px) X.env) :: starEach [] X.env := by rfl) (hpl : (backTo pos (starEach [] X.env)).any (·.1) = false := by rfl) : XE X μ (.Call (.Name "dict" pf) [.Name xn px] [] pos) ⟨s, c1 ++ (pa, .tupx (kvs.map prD)) :: c2⟩ Q := by
  have hvar : XE X μ (.Name xn px) ⟨s, c1 ++ (pa, .tupx (kvs.map prD)) :: c2⟩ fun x Γ1 => x = .ref pa ∧ Γ1 = ⟨s, c1 ++ (pa, .tupx (kvs.map prD)) :: c2⟩ := xe_var hN hv hx ⟨rfl, rfl⟩ h1 h2
  have ha : XA X μ [.Name xn px] ⟨s, c1 ++ (pa, .tupx (kvs.map prD)) :: c2⟩ fun ds Γ1 => ds = [.ref pa] ∧ Γ1 = ⟨s, c1 ++ (pa, .tupx (kvs.map prD)) :: c2⟩ := xa_cons (hvar.imp fun x Γ1 ⟨e1, e2⟩ => by subst e1 e2; exact xa_nil ⟨rfl, rfl⟩) he
  refine PE.imp (pe_callTy (call_dict_x hc) hg hm PyProof.Rows.boot_dict ha (by decide) (by decide) he hpl) fun σ H q ⟨R, k⟩ => ⟨R, fun vs H1 ds Γ1 s1 f1 R1 r1 ⟨e1, e2⟩ => ?_⟩
  subst e1 e2
  obtain ⟨v, rfl, r⟩ := r1.one
  cases r
  obtain ⟨ob, ws, hw, hc1, hc2, rw'⟩ := cell_get R1.co
  obtain ⟨tups, us, rfl, hlt, hp, hr⟩ := rp_pairs (hid_sub _ _) rw'
  refine ⟨pa, ob, tups, us, rfl, hw, hc1, hc2, hp, by omega, fun p2 hp2 => ?_⟩
  have hk : us.map (·.1) = kvs.map (·.1) := hr.keys
  rw [mergeK_nodup (by rw [List.nil_append, hk]; exact hn), List.nil_append]
  have e2 := sub_upd (o := .dK us) hp2
  exact k _ _ _ _ s1 (f1.trans (Fw.of_sub e2)) (R1.more e2) (.dct (hid_upd (R1.fresh hp2)) (hr.mono (sub_hid e2))) h
theorem xe_dictX' {i : Nat} {xn : Str} {px pf : Pos} {c1 c2 : Cs} {pa : Addr} {xs : List D} {kvs : List (Key × D)} (hcell : Γ.c = c1 ++ (pa, .tupx xs) :: c2) (hxs : xs = kvs.map prD) (hg : Gl X "dict") (hm : X.mg "dict" = none) (hN : X.N[i]? = some xn) (hv : Vis X.env.scope xn) (hx : Γ.s[i]? = some (some (.ref pa))) (hl : kvs.length ≤ 100000) (hn : (kvs.map (·.1)).Nodup)
    (h : Q (.dct kvs) Γ) (h1 : (xn == ("__debug__" : Str)) = false := by decide) (h2 : (xn == ("__classdict__" : Str)) = false := by decide) (hc : X.calm = true := by rfl)
    (he : starEach [Expr.Name xn px] X.env = (false, eval (.Name xn px) X.env) :: starEach [] X.env := by rfl) (hpl : (backTo pos (starEach [] X.env)).any (·.1) = false := by rfl) : XE X μ (.Call (.Name "dict" pf) [.Name xn px] [] pos) Γ Q := by
  obtain ⟨s, cc⟩ := Γ
  subst hxs
  have hcell : cc = c1 ++ (pa, .tupx (kvs.map prD)) :: c2 := hcell
  subst hcell
  exact xe_dictX hg hm hN hv hx hl hn h h1 h2 hc he hpl
theorem RpK.val {K : PySem.W.Frag} {G : Hp} {k : Key} : ∀ {vs : List (Key × V)} {ds : List (Key × D)}, RpK K G vs ds → ∀ {d : D}, (ds.find? fun q => decide (q.1 = k)) = some (k, d) → ∃ v, valV vs k = some v ∧ Rp K G v d
  | _, _, .nil, d, h => by simp at h
  | _, _, .cons (k := k') (v := v') (d := d') h t, d, e => by
    by_cases hk : k' = k
    · subst hk
      rw [List.find?_cons] at e
      simp at e
      subst e
      exact ⟨v', by simp [valV], h⟩
    · rw [List.find?_cons] at e
      simp only [hk, decide_false] at e
      obtain ⟨v, h1, h2⟩ := RpK.val t e
      refine ⟨v, ?_, h2⟩
      unfold valV at h1 ⊢
      rw [List.find?_cons]
      simp only [hk, decide_false]
      exact h1
theorem xe_ixd (hu : X.A.units + 1 < cLine) (h : XE X μ a Γ fun x Γ1 => XE X μ b Γ1 fun y Γ2 => ∃ kvs k d, x = .dct kvs ∧ y = kD k ∧ (kvs.find? fun q => decide (q.1 = k)) = some (k, d) ∧ Q d Γ2) (hs : NoSl b := by intro _ _; rfl) : XE X μ (.Subscript a b pos) Γ Q :=
  PE.imp (pe_dget hu h pe_u hs) fun σ H q ⟨R, k⟩ => ⟨R, fun v H1 x Γ1 s1 f1 R1 r1 hb => ⟨_, hb, R1, fun w H2 y Γ2 s2 f2 R2 r2 ⟨kvs, kk, d, ex, ey, hf, hq⟩ => by
    subst ex ey
    cases r1 with
    | @dct aa us _ g1 g2 =>
      have g2' := g2.mono f2.sub
      obtain ⟨u, hu1, hu2⟩ := g2'.val hf
      have ew : w = kV kk := by
        cases kk with
        | inl i => cases r2; rfl
        | inr z => cases r2; rfl
      subst ew
      refine ⟨aa, u, rfl, .inl ⟨us, kk, .inl (hid_sub _ _ _ _ (f2.sub _ _ g1)), rfl, hu1.symm⟩, k _ _ _ _ (s2.trans s1) (f1.trans f2) R2 hu2 hq⟩⟩⟩
theorem cd_minL (hc : X.calm = true) {ns : List Int} {m : Int} (hm : m ∈ ns) (hl : ∀ y ∈ ns, m ≤ y) : CallD X (.builtin "min") [.lst (ns.map D.int)] (.int m) := .of (cr_min hc) fun vs H q mm hmm h1 k => by
  obtain ⟨v, rfl, r⟩ := h1.one
  cases r with
  | @lst a us _ s1 r1 =>
    have e := r1.of_ints
    subst e
    refine ⟨a, ns, rfl, (hid_sub _ _).sqL s1, List.length_pos_of_mem hm, fun m' hm' hl' => ?_⟩
    have : m' = m := Int.le_antisymm (hl' m hm) (hl m' hm')
    subst this
    exact k _ H (Sub.refl H) (.int _)
theorem cd_maxL (hc : X.calm = true) {ns : List Int} {m : Int} (hm : m ∈ ns) (hl : ∀ y ∈ ns, y ≤ m) : CallD X (.builtin "max") [.lst (ns.map D.int)] (.int m) := .of (cr_max hc) fun vs H q mm hmm h1 k => by
  obtain ⟨v, rfl, r⟩ := h1.one
  cases r with
  | @lst a us _ s1 r1 =>
    have e := r1.of_ints
    subst e
    refine ⟨a, ns, rfl, (hid_sub _ _).sqL s1, List.length_pos_of_mem hm, fun m' hm' hl' => ?_⟩
    have : m' = m := Int.le_antisymm (hl m' hm') (hl' m hm)
    subst this
    exact k _ H (Sub.refl H) (.int _)
/-- a cell forgotten -/
theorem xe_drop {s : List (Option D)} {c1 c2 : Cs} {pa : Addr} {cl : Cell} (h : XE X μ e ⟨s, c1 ++ c2⟩ Q) : XE X μ e ⟨s, c1 ++ (pa, cl) :: c2⟩ Q :=
  PE.imp h fun σ H q ⟨R, k⟩ => by
    obtain ⟨R2, f2, _⟩ := R.freeze (.inr (.inr trivial))
    exact ⟨R2, fun v H' d Γ' s' f' R' r' hq => k v H' d Γ' s' (f2.trans f') R' r' hq⟩
/-- a thing of one's own is handed out as data -/
theorem xe_var_freeze {i : Nat} {xn : Str} {s : List (Option D)} {c1 c2 : Cs} {pa : Addr} {cl : Cell} {d : D} (hN : X.N[i]? = some xn) (hv : Vis X.env.scope xn) (hx : s[i]? = some (some (.ref pa))) (hd : cl.d = some d) (h : Q d ⟨s, c1 ++ c2⟩)
    (h1 : (xn == ("__debug__" : Str)) = false := by decide) (h2 : (xn == ("__classdict__" : Str)) = false := by decide) : XE X μ (.Name xn pos) ⟨s, c1 ++ (pa, cl) :: c2⟩ Q :=
  PE.imp (pe_var hN hv h1 h2) fun σ H q ⟨R, k⟩ => by
    obtain ⟨v, hv, rv⟩ := R.slots.2 i _ hx
    cases rv
    obtain ⟨R2, f2, _⟩ := R.freeze (.inr (.inr trivial))
    exact ⟨_, hv, k _ H d ⟨s, c1 ++ c2⟩ rfl f2 R2 (frozen R hd) h⟩
end
end Pdl
namespace Pdl
/-- arrows with those of a place the other way -/
def exF (p : Nat) (l : List Nat) : List Nat := if p ∈ l then l.reverse else l
def exch (as : List (List Nat)) (p : Nat) : List (List Nat) := as.map (exF p)
def Gives (as : List (List Nat)) (p : Nat) : Prop := ∀ a, [a, p] ∉ as
def Takes (as : List (List Nat)) (p : Nat) : Prop := ∀ a, [p, a] ∉ as
/-- a row of turnings leads from arrows to others -/
inductive Row : List (List Nat) → List Nat → List (List Nat) → Prop
  | nil {as} : Row as [] as
  | cons {as p row bs} : p ∈ as.flatten → Gives as p → Row (exch as p) row bs → Row as (p :: row) bs
def NoLoop (as : List (List Nat)) : Prop := ∀ a, [a, a] ∉ as
theorem Ranked.noLoop {as : List (List Nat)} (h : Ranked as) : NoLoop as := fun a ha => by
  obtain ⟨r, hr⟩ := h
  exact Nat.lt_irrefl _ (hr a a ha)
theorem exF_two {p a b : Nat} : exF p [a, b] = if p = a ∨ p = b then [b, a] else [a, b] := by
  unfold exF
  simp only [List.mem_cons, List.not_mem_nil, or_false]
  rfl
theorem exch_two {as : List (List Nat)} {p : Nat} (h : Two as) : Two (exch as p) := fun l hl => by
  obtain ⟨t, ht, rfl⟩ := List.mem_map.mp hl
  obtain ⟨a, b, rfl⟩ := h t ht
  rw [exF_two]
  split
  · exact ⟨b, a, rfl⟩
  · exact ⟨a, b, rfl⟩
theorem pr2_comm {a b : Nat} : pr2 [a, b] = pr2 [b, a] := by
  show (if b < a then [b, a] else [a, b]) = (if a < b then [a, b] else [b, a])
  by_cases h1 : b < a
  · rw [if_pos h1, if_neg (by omega)]
  · by_cases h2 : a < b
    · rw [if_neg h1, if_pos h2]
    · have : a = b := by omega
      subst this
      simp
theorem exF_pr2 {p : Nat} {l : List Nat} (h : ∃ a b, l = [a, b]) : pr2 (exF p l) = pr2 l := by
  obtain ⟨a, b, rfl⟩ := h
  rw [exF_two]
  split
  · exact pr2_comm
  · rfl
theorem exch_pr2 {as : List (List Nat)} {p : Nat} (h : Two as) : (exch as p).map pr2 = as.map pr2 := by
  unfold exch
  rw [List.map_map]
  exact List.map_congr_left fun l hl => exF_pr2 (h l hl)
theorem mem_exF {p x : Nat} {l : List Nat} : x ∈ exF p l ↔ x ∈ l := by
  unfold exF
  split
  · simp
  · rfl
theorem mem_exch_flat {as : List (List Nat)} {p x : Nat} : x ∈ (exch as p).flatten ↔ x ∈ as.flatten := by
  simp only [List.mem_flatten, exch]
  constructor
  · rintro ⟨l, hl, hx⟩
    obtain ⟨t, ht, rfl⟩ := List.mem_map.mp hl
    exact ⟨t, ht, mem_exF.mp hx⟩
  · rintro ⟨l, hl, hx⟩
    exact ⟨_, List.mem_map_of_mem hl, mem_exF.mpr hx⟩
theorem mem_exch {as : List (List Nat)} {p a b : Nat} (h2 : Two as) : [a, b] ∈ exch as p ↔ ((p = a ∨ p = b) ∧ [b, a] ∈ as) ∨ (¬ (p = a ∨ p = b) ∧ [a, b] ∈ as) := by
  unfold exch
  rw [List.mem_map]
  constructor
  · rintro ⟨t, ht, e⟩
    obtain ⟨x, y, rfl⟩ := h2 t ht
    rw [exF_two] at e
    split at e
    · rename_i h
      simp at e
      obtain ⟨rfl, rfl⟩ := e
      exact .inl ⟨h.symm, ht⟩
    · rename_i h
      simp at e
      obtain ⟨rfl, rfl⟩ := e
      exact .inr ⟨h, ht⟩
  · rintro (⟨h, ht⟩ | ⟨h, ht⟩)
    · exact ⟨_, ht, by rw [exF_two, if_pos h.symm]⟩
    · exact ⟨_, ht, by rw [exF_two, if_neg h]⟩
/-- a giver turned: no ring comes -/
theorem exch_ranked {as : List (List Nat)} {p : Nat} (h2 : Two as) (hr : Ranked as) (hg : Gives as p) : Ranked (exch as p) := by
  obtain ⟨r, h⟩ := hr
  have hl : NoLoop as := Ranked.noLoop ⟨r, h⟩
  obtain ⟨M, hM⟩ : ∃ M, ∀ a b, [a, b] ∈ as → r a < M ∧ r b < M := by
    clear hl hg
    induction as with
    | nil => exact ⟨0, fun a b h => by cases h⟩
    | cons l ls ih =>
      obtain ⟨M, hM⟩ := ih (fun l hl => h2 l (List.mem_cons_of_mem _ hl)) fun a b hab => h a b (List.mem_cons_of_mem _ hab)
      obtain ⟨x, y, rfl⟩ := h2 l List.mem_cons_self
      refine ⟨M + r x + r y + 1, fun a b hab => ?_⟩
      rcases List.mem_cons.mp hab with e | e
      · simp at e
        obtain ⟨rfl, rfl⟩ := e
        omega
      · have := hM a b e
        omega
  refine ⟨fun x => if x = p then M else r x, fun a b hab => ?_⟩
  rcases (mem_exch h2).mp hab with ⟨h1, h3⟩ | ⟨h1, h3⟩
  · have h4 : p ≠ a := fun e => hg b (e ▸ h3)
    have h5 : p = b := h1.resolve_left h4
    subst h5
    show (if a = p then M else r a) < (if p = p then M else r p)
    rw [if_neg (fun e => h4 e.symm), if_pos rfl]
    exact (hM _ _ h3).2
  · show (if a = p then M else r a) < (if b = p then M else r b)
    rw [if_neg (fun e => h1 (.inl e.symm)), if_neg (fun e => h1 (.inr e.symm))]
    exact h a b h3
theorem exch_takes {as : List (List Nat)} {p : Nat} (h2 : Two as) (hg : Gives as p) : Takes (exch as p) p := fun a ha => by
  rcases (mem_exch h2).mp ha with ⟨_, h⟩ | ⟨h, _⟩
  · exact hg a h
  · exact h (.inl rfl)
/-- numbers with the differences that two lots of arrows on the same ties ask for -/
def Fit (as bs : List (List Nat)) (f : Nat → Int) : Prop := ∀ (i a b : Nat) (o : List Nat), as[i]? = some [a, b] → bs[i]? = some o → f a - f b = if [a, b] = o then 0 else 1
/-- the same ties -/
def SameW (as bs : List (List Nat)) : Prop := as.map pr2 = bs.map pr2
theorem SameW.len {as bs : List (List Nat)} (h : SameW as bs) : as.length = bs.length := by
  have := congrArg List.length h
  simpa using this
theorem pr2_inv {a b c d : Nat} (h : pr2 [a, b] = pr2 [c, d]) : (a = c ∧ b = d) ∨ (a = d ∧ b = c) := by
  have h : (if b < a then [b, a] else [a, b]) = (if d < c then [d, c] else [c, d]) := h
  split at h <;> split at h <;> simp at h <;> omega
theorem SameW.at {as bs : List (List Nat)} (h : SameW as bs) (h2 : Two bs) {i a b : Nat} {o : List Nat} (h3 : as[i]? = some [a, b]) (h4 : bs[i]? = some o) : o = [a, b] ∨ o = [b, a] := by
  obtain ⟨c, d, rfl⟩ := h2 o (List.mem_of_getElem? h4)
  have e : (as.map pr2)[i]? = (bs.map pr2)[i]? := by rw [h]
  rw [List.getElem?_map, List.getElem?_map, h3, h4] at e
  have e : pr2 [a, b] = pr2 [c, d] := Option.some.inj e
  rcases pr2_inv e with ⟨rfl, rfl⟩ | ⟨rfl, rfl⟩
  · exact .inl rfl
  · exact .inr rfl
theorem exch_at {as : List (List Nat)} {p i : Nat} : (exch as p)[i]? = (as[i]?).map (exF p) := by
  unfold exch
  rw [List.getElem?_map]
/-- one turning less -/
theorem Fit.turn {as bs : List (List Nat)} {f : Nat → Int} {p : Nat} (h2 : Two as) (h2' : Two bs) (hs : SameW as bs) (hl : NoLoop as) (hg : Gives as p) (h : Fit as bs f) : Fit (exch as p) bs (fun x => if x = p then f x - 1 else f x) := fun i a b o h3 h4 => by
  rw [exch_at] at h3
  cases e : as[i]? with
  | none => rw [e] at h3; cases h3
  | some t =>
    obtain ⟨x, y, rfl⟩ := h2 t (List.mem_of_getElem? e)
    rw [e] at h3
    have h3 : exF p [x, y] = [a, b] := Option.some.inj h3
    have hne : x ≠ y := fun z => hl x (z ▸ List.mem_of_getElem? (z ▸ e))
    have hyp : p ≠ y := fun z => hg x (List.mem_of_getElem? (z ▸ e))
    have hf := h i x y o e h4
    have ho := hs.at h2' e h4
    rw [exF_two] at h3
    by_cases hx : p = x
    · subst hx
      rw [if_pos (.inl rfl)] at h3
      simp at h3
      obtain ⟨rfl, rfl⟩ := h3
      show (if y = p then f y - 1 else f y) - (if p = p then f p - 1 else f p) = _
      rw [if_neg (fun z => hyp z.symm), if_pos rfl]
      rcases ho with rfl | rfl
      · rw [if_pos rfl] at hf
        rw [if_neg (by simp; intro z; exact absurd z.symm hne)]
        omega
      · rw [if_neg (by simp; intro z; exact absurd z hne)] at hf
        rw [if_pos rfl]
        omega
    · rw [if_neg (by rintro (z | z); exact hx z; exact hyp z)] at h3
      simp at h3
      obtain ⟨rfl, rfl⟩ := h3
      show (if x = p then f x - 1 else f x) - (if y = p then f y - 1 else f y) = _
      rw [if_neg (fun z => hx z.symm), if_neg (fun z => hyp z.symm)]
      exact hf
/-- .. one more -/
theorem Fit.back {as bs : List (List Nat)} {f : Nat → Int} {p : Nat} (h2 : Two as) (h2' : Two bs) (hs : SameW as bs) (hl : NoLoop as) (hg : Gives as p) (h : Fit (exch as p) bs f) : Fit as bs (fun x => if x = p then f x + 1 else f x) := fun i x y o e h4 => by
  have hne : x ≠ y := fun z => hl x (z ▸ List.mem_of_getElem? (z ▸ e))
  have hyp : p ≠ y := fun z => hg x (List.mem_of_getElem? (z ▸ e))
  have ho := hs.at h2' e h4
  have e' : (exch as p)[i]? = some (exF p [x, y]) := by rw [exch_at, e]; rfl
  rw [exF_two] at e'
  show (if x = p then f x + 1 else f x) - (if y = p then f y + 1 else f y) = _
  rw [if_neg (c := y = p) (fun z => hyp z.symm)]
  by_cases hx : p = x
  · subst hx
    rw [if_pos (.inl rfl)] at e'
    have hf := h i y p o e' h4
    rw [if_pos rfl]
    rcases ho with rfl | rfl
    · rw [if_neg (by simp; intro z; exact absurd z.symm hne)] at hf
      rw [if_pos rfl]
      omega
    · rw [if_pos rfl] at hf
      rw [if_neg (by simp; intro z; exact absurd z hne)]
      omega
  · rw [if_neg (by rintro (z | z); exact hx z; exact hyp z)] at e'
    rw [if_neg (fun z => hx z.symm)]
    exact h i x y o e' h4
theorem Fit.refl {as : List (List Nat)} : Fit as as (fun _ => 0) := fun i a b o h1 h2 => by
  rw [h1] at h2
  cases h2
  simp
/-- a row: its counts fit -/
theorem Row.facts {as bs : List (List Nat)} {row : List Nat} (h : Row as row bs) : Two as → Ranked as → Two bs ∧ Ranked bs ∧ SameW as bs ∧ Fit as bs (fun x => (row.count x : Int)) := by
  induction h with
  | nil => exact fun h2 hr => ⟨h2, hr, rfl, Fit.refl⟩
  | @cons as p row bs hp hg h ih =>
    intro h2 hr
    obtain ⟨i1, i2, i3, i4⟩ := ih (exch_two h2) (exch_ranked h2 hr hg)
    have hs : SameW as bs := (exch_pr2 h2).symm.trans i3
    refine ⟨i1, i2, hs, ?_⟩
    have := Fit.back h2 i1 hs hr.noLoop hg i4
    intro i a b o e1 e2
    have := this i a b o e1 e2
    rw [← this]
    have hc : ∀ x, ((p :: row).count x : Int) = if x = p then (row.count x : Int) + 1 else (row.count x : Int) := fun x => by
      rw [List.count_cons]
      by_cases hx : x = p
      · subst hx
        simp
      · rw [if_neg hx, if_neg (by simpa using fun z => hx z.symm)]
        simp
    show ((p :: row).count a : Int) - ((p :: row).count b : Int) = _
    rw [hc, hc]
/-- the places of some arrows; a finite maximum -/
theorem max_on (f : Nat → Int) : ∀ (l : List Nat), l ≠ [] → ∃ x ∈ l, ∀ y ∈ l, f y ≤ f x
  | [], h => absurd rfl h
  | [x], _ => ⟨x, by simp, by simp⟩
  | x :: y :: l, _ => by
    obtain ⟨z, hz, hm⟩ := max_on f (y :: l) (by simp)
    by_cases h : f z ≤ f x
    · refine ⟨x, by simp, fun w hw => ?_⟩
      rcases List.mem_cons.mp hw with rfl | hw
      · exact Int.le_refl _
      · have := hm w hw
        omega
    · refine ⟨z, List.mem_cons_of_mem _ hz, fun w hw => ?_⟩
      rcases List.mem_cons.mp hw with rfl | hw
      · omega
      · exact hm w hw
/-- where numbers fit and some are above 0, a place above 0 gives -/
theorem Fit.giver {as bs : List (List Nat)} {f : Nat → Int} (h2 : Two as) (hr : Ranked as) (hs : SameW as bs) (h : Fit as bs f) {p : Nat} (hp : p ∈ as.flatten) (hf : 0 < f p) : ∃ q ∈ as.flatten, 0 < f q ∧ Gives as q := by
  obtain ⟨r, hr⟩ := hr
  obtain ⟨m, hm, hmax⟩ := max_on f as.flatten (fun e => by rw [e] at hp; cases hp)
  have hne : as.flatten.filter (fun x => f x == f m) ≠ [] := fun e => by
    have : m ∈ as.flatten.filter (fun x => f x == f m) := List.mem_filter.mpr ⟨hm, by simp⟩
    rw [e] at this
    cases this
  obtain ⟨q, hq, hmin⟩ := max_on (fun x => - (r x : Int)) _ hne
  obtain ⟨hq1, hq2⟩ := List.mem_filter.mp hq
  have hq2 : f q = f m := by simpa using hq2
  refine ⟨q, hq1, by have := hmax p hp; omega, fun a ha => ?_⟩
  obtain ⟨i, hi⟩ := List.getElem?_of_mem ha
  have hlt : i < bs.length := by rw [← hs.len]; exact (List.getElem?_eq_some_iff.mp hi).1
  have e1 := h i a q bs[i] hi (List.getElem?_eq_getElem hlt)
  have ha1 : a ∈ as.flatten := List.mem_flatten.mpr ⟨_, ha, by simp⟩
  have e2 := hmax a ha1
  have e3 : f a = f m := by split at e1 <;> omega
  have e4 := hmin a (List.mem_filter.mpr ⟨ha1, by simp [e3]⟩)
  have e5 := hr a q ha
  omega
theorem Fit.zero {as bs : List (List Nat)} {f : Nat → Int} (h2 : Two as) (hs : SameW as bs) (h : Fit as bs f) (h0 : ∀ x ∈ as.flatten, f x = 0) : as = bs := by
  refine List.ext_getElem? fun i => ?_
  cases e : as[i]? with
  | none =>
    have : as.length ≤ i := by simpa using e
    rw [List.getElem?_eq_none (by rw [← hs.len]; exact this)]
  | some l =>
    obtain ⟨a, b, rfl⟩ := h2 l (List.mem_of_getElem? e)
    have hlt : i < bs.length := by rw [← hs.len]; exact (List.getElem?_eq_some_iff.mp e).1
    have e1 := h i a b bs[i] e (List.getElem?_eq_getElem hlt)
    have ha := h0 a (List.mem_flatten.mpr ⟨_, List.mem_of_getElem? e, by simp⟩)
    have hb := h0 b (List.mem_flatten.mpr ⟨_, List.mem_of_getElem? e, by simp⟩)
    rw [List.getElem?_eq_getElem hlt]
    by_cases e2 : [a, b] = bs[i]
    · rw [e2]
    · rw [if_neg e2] at e1
      omega
/-- numbers that fit, from 0 on: a row turns each place so often -/
theorem Fit.row {bs : List (List Nat)} (h2' : Two bs) (pl : List Nat) (hn : pl.Nodup) : ∀ (n : Nat) {as : List (List Nat)} {f : Nat → Int}, Two as → Ranked as → SameW as bs → Fit as bs f → (∀ x, x ∈ pl ↔ x ∈ as.flatten) → (∀ x ∈ pl, 0 ≤ f x) → (pl.map f).sum = (n : Int) →
    ∃ row, Row as row bs ∧ ∀ x ∈ pl, (row.count x : Int) = f x
  | 0, as, f, h2, hr, hs, h, hpl, h0, hsum => by
    have hz : ∀ x ∈ pl, f x = 0 := by
      clear h hpl hn
      induction pl with
      | nil => intro x hx; cases hx
      | cons y ys ih =>
        have h1 := h0 y (by simp)
        have hp : ∀ (l : List Nat), (∀ x ∈ l, 0 ≤ f x) → 0 ≤ (l.map f).sum := fun l => by
          induction l with
          | nil => intro _; simp
          | cons z zs ihz =>
            intro hh
            have := ihz fun x hx => hh x (List.mem_cons_of_mem _ hx)
            have := hh z (by simp)
            simp
            omega
        have h3 := hp ys fun x hx => h0 x (List.mem_cons_of_mem _ hx)
        simp at hsum
        intro x hx
        rcases List.mem_cons.mp hx with rfl | hx
        · omega
        · exact ih (fun x hx => h0 x (List.mem_cons_of_mem _ hx)) (by omega) x hx
    have e := h.zero h2 hs fun x hx => hz x ((hpl x).mpr hx)
    subst e
    exact ⟨[], .nil, fun x hx => by rw [hz x hx]; simp⟩
  | n + 1, as, f, h2, hr, hs, h, hpl, h0, hsum => by
    obtain ⟨p, hp, hpos⟩ : ∃ p ∈ pl, 0 < f p := by
      refine Decidable.byContradiction fun hno => ?_
      have : ∀ (l : List Nat), (∀ x ∈ l, f x ≤ 0) → (l.map f).sum ≤ 0 := fun l => by
        induction l with
        | nil => intro _; simp
        | cons z zs ihz =>
          intro hh
          have := ihz fun x hx => hh x (List.mem_cons_of_mem _ hx)
          have := hh z (by simp)
          simp
          omega
      have := this pl fun x hx => by
        refine Int.not_lt.mp fun hlt => hno ⟨x, hx, hlt⟩
      omega
    obtain ⟨q, hq, hqp, hg⟩ := h.giver h2 hr hs ((hpl p).mp hp) hpos
    have hl := hr.noLoop
    have hq' := (hpl q).mpr hq
    obtain ⟨row, hrow, hc⟩ := Fit.row h2' pl hn n (exch_two h2) (exch_ranked h2 hr hg) ((exch_pr2 h2).trans hs) (h.turn h2 h2' hs hl hg) (fun x => (hpl x).trans mem_exch_flat.symm) (fun x hx => by
      show 0 ≤ if x = q then f x - 1 else f x
      have := h0 x hx
      split
      · rename_i e; subst e; omega
      · exact this) (by
      have : ∀ (l : List Nat), l.Nodup → q ∈ l → (l.map fun x => if x = q then f x - 1 else f x).sum = (l.map f).sum - 1 := fun l => by
        induction l with
        | nil => intro _ h; cases h
        | cons z zs ihz =>
          intro hn' hm
          obtain ⟨n1, n2⟩ := List.nodup_cons.mp hn'
          rw [List.map_cons, List.map_cons, List.sum_cons, List.sum_cons]
          rcases List.mem_cons.mp hm with rfl | hm
          · rw [if_pos rfl]
            have : (zs.map fun x => if x = q then f x - 1 else f x) = zs.map f := List.map_congr_left fun x hx => if_neg fun (e : x = q) => n1 (e ▸ hx)
            rw [this]
            omega
          · rw [if_neg (fun (e : z = q) => n1 (e ▸ hm)), ihz n2 hm]
            omega
      rw [this pl hn hq']
      omega)
    refine ⟨q :: row, .cons hq hg hrow, fun x hx => ?_⟩
    have : (row.count x : Int) = if x = q then f x - 1 else f x := hc x hx
    rw [List.count_cons]
    by_cases e : x = q
    · subst e
      rw [if_pos rfl] at this
      simp
      omega
    · rw [if_neg e] at this
      rw [if_neg (by simpa using fun z => e z.symm)]
      simpa using this
end Pdl
namespace Pdl
def stepO (l o : List Nat) (p : Nat) : Int := if l = o then 0 else if fst2 l = p then 1 else -1
abbrev NL := List (Nat × Int)
def keys (fd : NL) : List Nat := fd.map (·.1)
def valN (fd : NL) (p : Nat) : Int := ((fd.filter fun e => e.1 == p).head?.map (·.2)).getD 0
/-- an arrow from a known place to one that is not, or back -/
def crosses (ks : List Nat) (l : List Nat) : Bool := (decide (fst2 l ∈ ks)) != (decide (snd2 l ∈ ks))
def nearO (ks : List Nat) (l : List Nat) : Nat := if fst2 l ∈ ks then fst2 l else snd2 l
def farO (ks : List Nat) (l : List Nat) : Nat := if fst2 l ∈ ks then snd2 l else fst2 l
def nfNew (fd : NL) (x : List Nat × List Nat) : Nat × Int := (farO (keys fd) x.1, valN fd (nearO (keys fd) x.1) + stepO x.1 x.2 (farO (keys fd) x.1))
def nfStep (as bs : List (List Nat)) (fd : NL) : NL := match (as.zip bs).find? (fun x => crosses (keys fd) x.1) with
  | none => fd
  | some x => fd ++ [nfNew fd x]
def nf (as bs : List (List Nat)) : Nat → NL
  | 0 => [(fst2 (as.head?.getD []), 0)]
  | n + 1 => nfStep as bs (nf as bs n)
theorem valN_mem {fd : NL} {p : Nat} {n : Int} (h : (keys fd).Nodup) (hm : (p, n) ∈ fd) : valN fd p = n := by
  unfold valN
  have : fd.filter (fun e => e.1 == p) = [(p, n)] := by
    induction fd with
    | nil => cases hm
    | cons e es ih =>
      obtain ⟨h1, h2⟩ := List.nodup_cons.mp h
      rcases List.mem_cons.mp hm with rfl | hm
      · have hne : es.filter (fun e => e.1 == p) = [] := List.filter_eq_nil_iff.mpr fun e he hp => h1 (by
          have : e.1 = p := by simpa using hp
          exact List.mem_map.mpr ⟨e, he, this⟩)
        rw [List.filter_cons, if_pos (by simp), hne]
      · have hne : ¬ (e.1 == p) = true := fun hp => h1 (by
          have : e.1 = p := by simpa using hp
          exact List.mem_map.mpr ⟨_, hm, this.symm⟩)
        rw [List.filter_cons, if_neg hne]
        exact ih h2 hm
  rw [this]
  rfl
/-- what holds of the numbers so far -/
structure NfI (as bs : List (List Nat)) (fd : NL) : Prop where
  ne : fd ≠ []
  nd : (keys fd).Nodup
  sub : ∀ p ∈ keys fd, p ∈ as.flatten
  fit : ∀ f, Fit as bs f → ∀ e ∈ fd, e.2 = f e.1 - f (fst2 (as.head?.getD []))
theorem nf_start {as bs : List (List Nat)} (h2 : Two as) (hne : as ≠ []) : NfI as bs (nf as bs 0) := by
  cases as with
  | nil => exact absurd rfl hne
  | cons l ls =>
    obtain ⟨a, b, rfl⟩ := h2 l List.mem_cons_self
    refine ⟨by simp [nf], by simp [nf, keys], fun p hp => ?_, fun f _ e he => ?_⟩
    · simp [nf, keys, fst2] at hp
      simp [hp]
    · simp [nf, fst2] at he
      subst he
      simp [fst2]
theorem nf_step {as bs : List (List Nat)} {fd : NL} (h2 : Two as) (h2' : Two bs) (hs : SameW as bs) (hl : NoLoop as) (h : NfI as bs fd) : NfI as bs (nfStep as bs fd) ∧ ((as.zip bs).find? (fun x => crosses (keys fd) x.1) ≠ none → (nfStep as bs fd).length = fd.length + 1) := by
  unfold nfStep
  cases e : (as.zip bs).find? (fun x => crosses (keys fd) x.1) with
  | none => exact ⟨h, fun z => absurd rfl z⟩
  | some x =>
    obtain ⟨l, o⟩ := x
    refine ⟨?_, fun _ => by simp⟩
    have hc : crosses (keys fd) l = true := by simpa using List.find?_some e
    have hm := List.mem_of_find?_eq_some e
    obtain ⟨i, hi⟩ := List.getElem?_of_mem hm
    rw [List.getElem?_zip_eq_some] at hi
    obtain ⟨hi1, hi2⟩ := hi
    obtain ⟨a, b, rfl⟩ := h2 l (List.mem_of_getElem? hi1)
    have ha : a ∈ as.flatten := List.mem_flatten.mpr ⟨_, List.mem_of_getElem? hi1, by simp⟩
    have hb : b ∈ as.flatten := List.mem_flatten.mpr ⟨_, List.mem_of_getElem? hi1, by simp⟩
    have hne : a ≠ b := fun z => hl a (z ▸ List.mem_of_getElem? (z ▸ hi1))
    have ho := hs.at h2' hi1 hi2
    unfold crosses at hc
    have hc : (decide (a ∈ keys fd) != decide (b ∈ keys fd)) = true := hc
    by_cases hak : a ∈ keys fd
    · have hbk : b ∉ keys fd := fun z => by simp [hak, z] at hc
      have e1 : nfNew fd ([a, b], o) = (b, valN fd a + stepO [a, b] o b) := by
        unfold nfNew farO nearO
        rw [if_pos (show fst2 [a, b] ∈ keys fd from hak), if_pos (show fst2 [a, b] ∈ keys fd from hak)]
        rfl
      show NfI as bs (fd ++ [nfNew fd ([a, b], o)])
      rw [e1]
      refine ⟨by simp, ?_, fun p hp => ?_, fun f hf e he => ?_⟩
      · show (List.map (·.1) (fd ++ [_])).Nodup
        rw [List.map_append, List.nodup_append]
        exact ⟨h.nd, by simp, fun x hx y hy => by simp at hy; subst hy; exact fun z => hbk (z ▸ hx)⟩
      · have hp : p ∈ List.map (·.1) (fd ++ [_]) := hp
        rw [List.map_append, List.mem_append] at hp
        rcases hp with hp | hp
        · exact h.sub p hp
        · simp at hp; subst hp; exact hb
      · rcases List.mem_append.mp he with he | he
        · exact h.fit f hf e he
        · simp at he
          subst he
          obtain ⟨⟨a', n⟩, h3, h4⟩ := List.mem_map.mp hak
          have h4 : a' = a := h4
          subst h4
          have h5 := h.fit f hf _ h3
          have h6 := hf i a' b o hi1 hi2
          show valN fd a' + stepO [a', b] o b = f b - _
          rw [valN_mem h.nd h3]
          have h5 : n = f a' - _ := h5
          unfold stepO
          rw [h5]
          by_cases ee : [a', b] = o
          · rw [if_pos ee] at h6 ⊢; omega
          · rw [if_neg ee] at h6 ⊢
            rw [if_neg (show ¬ (fst2 [a', b] = b) from hne)]
            omega
    · have hbk : b ∈ keys fd := Decidable.byContradiction fun z => by simp [hak, z] at hc
      have e1 : nfNew fd ([a, b], o) = (a, valN fd b + stepO [a, b] o a) := by
        unfold nfNew farO nearO
        rw [if_neg (show ¬ fst2 [a, b] ∈ keys fd from hak), if_neg (show ¬ fst2 [a, b] ∈ keys fd from hak)]
        rfl
      show NfI as bs (fd ++ [nfNew fd ([a, b], o)])
      rw [e1]
      refine ⟨by simp, ?_, fun p hp => ?_, fun f hf e he => ?_⟩
      · show (List.map (·.1) (fd ++ [_])).Nodup
        rw [List.map_append, List.nodup_append]
        exact ⟨h.nd, by simp, fun x hx y hy => by simp at hy; subst hy; exact fun z => hak (z ▸ hx)⟩
      · have hp : p ∈ List.map (·.1) (fd ++ [_]) := hp
        rw [List.map_append, List.mem_append] at hp
        rcases hp with hp | hp
        · exact h.sub p hp
        · simp at hp; subst hp; exact ha
      · rcases List.mem_append.mp he with he | he
        · exact h.fit f hf e he
        · simp at he
          subst he
          obtain ⟨⟨b', n⟩, h3, h4⟩ := List.mem_map.mp hbk
          have h4 : b' = b := h4
          subst h4
          have h5 := h.fit f hf _ h3
          have h6 := hf i a b' o hi1 hi2
          show valN fd b' + stepO [a, b'] o a = f a - _
          rw [valN_mem h.nd h3]
          have h5 : n = f b' - _ := h5
          unfold stepO
          rw [h5]
          by_cases ee : [a, b'] = o
          · rw [if_pos ee] at h6 ⊢; omega
          · rw [if_neg ee] at h6 ⊢
            rw [if_pos (show (fst2 [a, b'] = a) from rfl)]
            omega
/-- all hangs together, from the first arrow -/
def ConnA (as : List (List Nat)) : Prop := ∀ C : Nat → Prop, C (fst2 (as.head?.getD [])) → (∀ a b, [a, b] ∈ as → (C a ↔ C b)) → ∀ x ∈ as.flatten, C x
theorem nf_go {as bs : List (List Nat)} (h2 : Two as) (hs : SameW as bs) (hc : ConnA as) {fd : NL} (h : NfI as bs fd) (hroot : fst2 (as.head?.getD []) ∈ keys fd) (e : (as.zip bs).find? (fun x => crosses (keys fd) x.1) = none) : ∀ x ∈ as.flatten, x ∈ keys fd := by
  refine hc (· ∈ keys fd) hroot fun a b hab => ?_
  obtain ⟨i, hi⟩ := List.getElem?_of_mem hab
  have hlt : i < bs.length := by rw [← hs.len]; exact (List.getElem?_eq_some_iff.mp hi).1
  have hz : ([a, b], bs[i]) ∈ as.zip bs := List.mem_of_getElem? (i := i) (List.getElem?_zip_eq_some.mpr ⟨hi, List.getElem?_eq_getElem hlt⟩)
  have := List.find?_eq_none.mp e _ hz
  have this : ¬ (decide (a ∈ keys fd) != decide (b ∈ keys fd)) = true := this
  by_cases h1 : a ∈ keys fd <;> by_cases h3 : b ∈ keys fd <;> simp [h1, h3] at this ⊢
theorem nf_all {as bs : List (List Nat)} (h2 : Two as) (h2' : Two bs) (hs : SameW as bs) (hl : NoLoop as) (hne : as ≠ []) (hc : ConnA as) {pl : List Nat} (hpl : ∀ x, x ∈ pl ↔ x ∈ as.flatten) (hn : pl.Nodup) :
    ∀ n, NfI as bs (nf as bs n) ∧ fst2 (as.head?.getD []) ∈ keys (nf as bs n) ∧ (n + 1 ≤ pl.length → (nf as bs n).length = n + 1)
  | 0 => ⟨nf_start h2 hne, by simp [nf, keys], fun _ => rfl⟩
  | n + 1 => by
    obtain ⟨i1, i2, i3⟩ := nf_all h2 h2' hs hl hne hc hpl hn n
    obtain ⟨s1, s2⟩ := nf_step h2 h2' hs hl i1
    refine ⟨s1, ?_, fun hle => ?_⟩
    · show _ ∈ keys (nfStep as bs (nf as bs n))
      unfold nfStep
      split
      · exact i2
      · unfold keys at i2 ⊢
        rw [List.map_append]
        exact List.mem_append_left _ i2
    · have e3 := i3 (by omega)
      show (nfStep as bs (nf as bs n)).length = _
      rw [s2 fun e => ?_, e3]
      have hall := nf_go h2 hs hc i1 i2 e
      have : pl.length ≤ (keys (nf as bs n)).length := by
        refine List.Nodup.length_le_of_subset hn fun x hx => hall x ((hpl x).mp hx)
      unfold keys at this
      rw [List.length_map] at this
      omega
end Pdl
namespace Pdl
open PySem L2 PyProof.Rows PySem.W
def fitB (as bs : List (List Nat)) (g : Nat → Int) : Bool := (as.zip bs).all fun x => decide (g (fst2 x.1) - g (snd2 x.1) = stepO x.1 x.2 (fst2 x.1))
theorem fitB_iff {as bs : List (List Nat)} {g : Nat → Int} (h2 : Two as) : fitB as bs g = true ↔ Fit as bs g := by
  unfold fitB
  rw [List.all_eq_true]
  constructor
  · intro h i a b o h1 h3
    have hz : ([a, b], o) ∈ as.zip bs := List.mem_of_getElem? (i := i) (List.getElem?_zip_eq_some.mpr ⟨h1, h3⟩)
    have := h _ hz
    simp only [decide_eq_true_eq] at this
    have e : stepO [a, b] o (fst2 [a, b]) = if [a, b] = o then 0 else 1 := by
      unfold stepO
      split
      · rfl
      · rw [if_pos rfl]
    rw [e] at this
    exact this
  · rintro h ⟨l, o⟩ hx
    obtain ⟨i, hi⟩ := List.getElem?_of_mem hx
    obtain ⟨h1, h3⟩ := List.getElem?_zip_eq_some.mp hi
    obtain ⟨a, b, rfl⟩ := h2 l (List.mem_of_getElem? h1)
    have := h i a b o h1 h3
    simp only [decide_eq_true_eq]
    have e : stepO [a, b] o (fst2 [a, b]) = if [a, b] = o then 0 else 1 := by
      unfold stepO
      split
      · rfl
      · rw [if_pos rfl]
    show g a - g b = _
    rw [e]
    exact this
/-- places with numbers, as data -/
def nD (q : Nat × Int) : D := .tup [.str (S [q.1]), .int q.2]
def numD (fd : List (Nat × Int)) : List D := fd.map nD
def numK (fd : List (Nat × Int)) : List (Key × D) := fd.map fun q => (Sum.inr (S [q.1]), .int q.2)
theorem numK_pr (fd : List (Nat × Int)) : (numK fd).map prD = numD fd := by
  unfold numK numD
  rw [List.map_map]
  rfl
theorem numK_nodup {fd : List (Nat × Int)} (h : (fd.map (·.1)).Nodup) : ((numK fd).map (·.1)).Nodup := by
  unfold numK
  rw [List.map_map]
  have : fd.map ((fun q : Key × D => q.1) ∘ fun q : Nat × Int => ((Sum.inr (S [q.1]) : Key), D.int q.2)) = (fd.map (·.1)).map fun p => (Sum.inr (S [p]) : Key) := by rw [List.map_map]; rfl
  rw [this]
  refine List.Pairwise.map _ (fun a b hab e => hab ?_) h
  have := S_inj (Sum.inr.inj e)
  simpa using this
theorem numK_find {fd : List (Nat × Int)} {p : Nat} {n : Int} (h : (fd.map (·.1)).Nodup) (hm : (p, n) ∈ fd) : ((numK fd).find? fun q => decide (q.1 = Sum.inr (S [p]))) = some (Sum.inr (S [p]), .int n) := by
  induction fd with
  | nil => cases hm
  | cons e es ih =>
    obtain ⟨h1, h2⟩ := List.nodup_cons.mp h
    show ((((Sum.inr (S [e.1]) : Key), D.int e.2) :: numK es).find? _) = _
    rw [List.find?_cons]
    rcases List.mem_cons.mp hm with rfl | hm
    · simp
    · have hne : e.1 ≠ p := fun z => h1 (by
        show e.1 ∈ es.map (·.1)
        rw [z]
        exact List.mem_map.mpr ⟨_, hm, rfl⟩)
      have : decide ((Sum.inr (S [e.1]) : Key) = Sum.inr (S [p])) = false := by
        simp only [decide_eq_false_iff_not]
        intro z
        have := S_inj (Sum.inr.inj z)
        simp at this
        exact hne this
      rw [this]
      exact ih h2 hm
/-- sorted by places -/
theorem nD_kinj (l : List (Nat × Int)) : KInj nD l := fun a _ b _ h => by
  have h : keyToks (.tuple [.str (S [a.1]), .int a.2]) = keyToks (.tuple [.str (S [b.1]), .int b.2]) := h
  simp only [keyToks, keyToksAll, List.cons_append, List.nil_append, List.cons.injEq, Sum.inr.injEq, Sum.inl.injEq] at h
  obtain ⟨_, h1, _, h2, _⟩ := h
  have h1 : [a.1] = [b.1] := h1
  exact Prod.ext (by simpa using h1) h2
theorem nD_le {a b : Nat × Int} (h : a.1 < b.1) : leE nD a b = true := by
  show (!dataLt (.tuple [.str (S [b.1]), .int b.2]) (.tuple [.str (S [a.1]), .int a.2])) = true
  rw [dataLt_pair (by simp [alike]) (by simp [alike])]
  have e : PyData.eqv (.str (S [b.1])) (.str (S [a.1])) = false := by
    simp only [PyData.eqv]
    simp only [beq_eq_false_iff_ne]
    intro z
    have := S_inj z
    simp at this
    omega
  rw [e, if_neg Bool.false_ne_true]
  have e2 : dataLt (.str (S [b.1])) (.str (S [a.1])) = decide ([b.1] < [a.1]) := by
    have := congrFun (congrFun (dataLe_str (fun x : List Nat => S x)) [a.1]) [b.1]
    have t : (!dataLt (.str (S [b.1])) (.str (S [a.1]))) = decide ((S [a.1]).cps.toList ≤ (S [b.1]).cps.toList) := this
    have t2 : decide ((S [a.1]).cps.toList ≤ (S [b.1]).cps.toList) = !decide ([b.1] < [a.1]) := by
      show decide ([a.1] ≤ [b.1]) = _
      by_cases z : [b.1] < [a.1]
      · simp [z]
      · simp [z, List.not_lt.mp z]
    rw [t2] at t
    exact Bool.not_inj t
  rw [e2]
  have : ¬ [b.1] < [a.1] := fun z => by have := lt1.mp z; omega
  simp [this]
theorem nD_sorted {l m : List (Nat × Int)} (hs : (m.map (·.1)).Pairwise (· < ·)) (hp : m.Perm l) : srtE nD l = m := srtE_eq (nD_kinj l) ((List.pairwise_map.mp hs).imp fun h => nD_le h) hp
theorem nD_sortOk {l : List (Nat × Int)} (hl : l.length ≤ 100000) : SortOk (l.map nD) := by
  have hpy : toPyL (l.map nD) = l.map fun a => PyData.tuple [.str (S [a.1]), .int a.2] := by rw [toPyL_map, List.map_map]; rfl
  refine ⟨?_, ?_, ?_, fun d hd => ?_, by simpa using hl⟩
  · rw [isPyL_all, List.all_eq_true]
    intro d hd
    obtain ⟨a, _, rfl⟩ := List.mem_map.mp hd
    rfl
  · rw [hpy]
    intro d hd d' hd'
    obtain ⟨a, _, rfl⟩ := List.mem_map.mp hd
    obtain ⟨b, _, rfl⟩ := List.mem_map.mp hd'
    simp [alike, alikeAll]
  · rw [hpy]
    refine .inl fun d hd => ?_
    obtain ⟨a, ha, rfl⟩ := List.mem_map.mp hd
    exact ⟨_, _, rfl⟩
  · obtain ⟨a, _, rfl⟩ := List.mem_map.mp hd
    show (PyData.tuple [.str (S [a.1]), .int a.2]).depth ≤ 50
    simp [PyData.depth, PyData.depthAll]
end Pdl
namespace Pdl
open PySem L2 PyProof.Rows
theorem mem_pr2 {l : List Nat} (h : ∃ a b, l = [a, b]) {x : Nat} : x ∈ pr2 l ↔ x ∈ l := by
  obtain ⟨a, b, rfl⟩ := h
  show x ∈ (if b < a then [b, a] else [a, b]) ↔ _
  split
  · simp [or_comm]
  · rfl
theorem mem_pr2_flat {as : List (List Nat)} (h : Two as) {x : Nat} : x ∈ (as.map pr2).flatten ↔ x ∈ as.flatten := by
  simp only [List.mem_flatten]
  constructor
  · rintro ⟨l, hl, hx⟩
    obtain ⟨t, ht, rfl⟩ := List.mem_map.mp hl
    exact ⟨t, ht, (mem_pr2 (h t ht)).mp hx⟩
  · rintro ⟨l, hl, hx⟩
    exact ⟨_, List.mem_map_of_mem hl, (mem_pr2 (h l hl)).mpr hx⟩
theorem us_pr2 {as : List (List Nat)} (h : Two as) : us (as.map pr2).flatten = us as.flatten :=
  us_eq (us_sorted _) fun x => (mem_us.trans (mem_pr2_flat h).symm)
theorem Arrs.few {as : List (List Nat)} (h : Arrs as) : (us as.flatten).length ≤ 7 := by rw [← us_pr2 h.two]; exact h.ties.few
theorem Arrs.connA {as : List (List Nat)} (h : Arrs as) : ConnA as := fun C hc hs x hx => by
  refine h.ties.conn C (fun l0 hl0 y hy => ?_) (fun a b hab hor => ?_) x ((mem_pr2_flat h.two).mpr hx)
  · cases as with
    | nil => cases hl0
    | cons l ls =>
      obtain ⟨a, b, rfl⟩ := h.two l List.mem_cons_self
      have e : pr2 [a, b] = l0 := Option.some.inj hl0
      subst e
      have hcb := (hs a b List.mem_cons_self).mp hc
      have z : y = a ∨ y = b := by simpa using (mem_pr2 ⟨a, b, rfl⟩).mp hy
      rcases z with rfl | rfl
      · exact hc
      · exact hcb
  · obtain ⟨t, ht, e⟩ := List.mem_map.mp hab
    obtain ⟨x, y, rfl⟩ := h.two t ht
    have e : (if y < x then [y, x] else [x, y]) = [a, b] := e
    have hh := hs x y ht
    split at e <;> (simp at e; obtain ⟨rfl, rfl⟩ := e; rcases hor with z | z <;> simp_all)
theorem Arrs.loop {as : List (List Nat)} (h : Arrs as) : NoLoop as := h.rk.noLoop
/-- what the numbers are -/
structure NumOk (as bs : List (List Nat)) (fd : NL) : Prop where
  perm : (keys fd).Perm (us as.flatten)
  nd : (keys fd).Nodup
  ne : fd ≠ []
  fit : ∀ f, Fit as bs f → Fit as bs (valN fd)
theorem nf_ok {as bs : List (List Nat)} (ha : Arrs as) (hb : Two bs) (hs : SameW as bs) : NumOk as bs (nf as bs ((us as.flatten).length - 1)) := by
  have hpl : ∀ x, x ∈ us as.flatten ↔ x ∈ as.flatten := fun x => mem_us
  have hpos : 1 ≤ (us as.flatten).length := by
    cases as with
    | nil => exact absurd rfl ha.ne
    | cons l ls =>
      obtain ⟨a, b, rfl⟩ := ha.two l List.mem_cons_self
      exact List.length_pos_of_mem (a := a) (mem_us.mpr (by simp))
  obtain ⟨h1, h2, h3⟩ := nf_all ha.two hb hs ha.loop ha.ne ha.connA hpl (us_nodup _) ((us as.flatten).length - 1)
  have hlen := h3 (by omega)
  have hp : (keys (nf as bs ((us as.flatten).length - 1))).Perm (us as.flatten) := perm_of_sub h1.nd (us_nodup _) (fun x hx => mem_us.mpr (h1.sub x hx)) (by unfold keys; rw [List.length_map]; omega)
  refine ⟨hp, h1.nd, h1.ne, fun f hf i a b o e1 e2 => ?_⟩
  have ha' : a ∈ keys (nf as bs ((us as.flatten).length - 1)) := hp.mem_iff.mpr (mem_us.mpr (List.mem_flatten.mpr ⟨_, List.mem_of_getElem? e1, by simp⟩))
  have hb' : b ∈ keys (nf as bs ((us as.flatten).length - 1)) := hp.mem_iff.mpr (mem_us.mpr (List.mem_flatten.mpr ⟨_, List.mem_of_getElem? e1, by simp⟩))
  obtain ⟨⟨a', n⟩, q1, q2⟩ := List.mem_map.mp ha'
  obtain ⟨⟨b', k⟩, q3, q4⟩ := List.mem_map.mp hb'
  have q2 : a' = a := q2
  have q4 : b' = b := q4
  subst q2 q4
  rw [valN_mem h1.nd q1, valN_mem h1.nd q3]
  have z1 : n = f a' - _ := h1.fit f hf _ q1
  have z2 : k = f b' - _ := h1.fit f hf _ q3
  have := hf i a' b' o e1 e2
  omega
/-- numbers less the least one, by places -/
def toldN (as : List (List Nat)) (fd : NL) (m : Int) : List (Nat × Int) := (us as.flatten).map fun p => (p, valN fd p - m)
theorem told_perm {as bs : List (List Nat)} {fd : NL} {m : Int} (h : NumOk as bs fd) : (toldN as fd m).Perm (fd.map fun e => (e.1, e.2 - m)) := by
  have e : (fd.map fun e => (e.1, e.2 - m)) = (keys fd).map fun p => (p, valN fd p - m) := by
    unfold keys
    rw [List.map_map]
    refine List.map_congr_left fun e he => ?_
    show (e.1, e.2 - m) = (e.1, valN fd e.1 - m)
    rw [valN_mem h.nd he]
  rw [e]
  unfold toldN
  exact (h.perm.map _).symm
theorem told_keys {as : List (List Nat)} {fd : NL} {m : Int} : (toldN as fd m).map (·.1) = us as.flatten := by
  unfold toldN
  rw [List.map_map]
  exact List.map_id _
theorem Fit.shift {as bs : List (List Nat)} {f : Nat → Int} {m : Int} (h : Fit as bs f) : Fit as bs (fun p => f p - m) := fun i a b o h1 h2 => by
  have := h i a b o h1 h2
  simp only
  omega
end Pdl
namespace Pdl
open PySem L2 PyProof.Rows
section
variable {X : Cx}
theorem ud_neg {i : Int} : UnD X (unaryOp .USub) (.int i) (.int (-i)) := fun pins s σ H x v Q I rx ⟨m, hm, r, k⟩ => by
  cases r
  exact un_neg pins s σ H _ v Q I rx ⟨i, rfl, k _ H (Sub.refl H) (.int _)⟩
end
def sStep : PSp := fun ds Q => ∃ (a b p : Nat) (o : List Nat), ds = [.str (S [a, b]), .str (S o), .str (S [p])] ∧ Q (.int (stepO [a, b] o p))
def sNumFrom : PSp := fun ds Q => ∃ as bs, ds = [.tup (SL as), .tup (SL bs)] ∧ Arrs as ∧ Two bs ∧ SameW as bs ∧ Q (.lst (numD (nf as bs ((us as.flatten).length - 1))))
def sFitting : PSp := fun ds Q => ∃ as bs fd, ds = [.tup (SL as), .tup (SL bs), .dct (numK fd)] ∧ Arrs as ∧ Two bs ∧ SameW as bs ∧ (fd.map (·.1)).Nodup ∧ (∀ x ∈ as.flatten, x ∈ fd.map (·.1)) ∧ Q (.bl (fitB as bs (valN fd)))
def sNumOf (Cy : Addr) : PSp := fun ds Q => ∃ as bs, ds = [wayD Cy as, wayD Cy bs] ∧ Arrs as ∧ Arrs bs ∧ (¬ SameW as bs → Q .non) ∧
  (SameW as bs → (∀ f : Nat → Int, Fit as bs f → (∀ p ∈ as.flatten, 0 ≤ f p) → (∃ p ∈ as.flatten, f p = 0) → Q (.tupx (numD ((us as.flatten).map fun p => (p, f p))))) ∧ ((¬ ∃ f, Fit as bs f) → Q .non))
end Pdl
namespace Pdl
open PySem L2 PyProof.Rows
def givesB (as : List (List Nat)) (p : Nat) : Bool := !(as.any fun l => decide ([snd2 l] = [p]))
def takesB (as : List (List Nat)) (p : Nat) : Bool := !(as.any fun l => decide ([fst2 l] = [p]))
theorem givesB_iff {as : List (List Nat)} {p : Nat} (h2 : Two as) : givesB as p = true ↔ Gives as p := by
  unfold givesB Gives
  rw [Bool.not_eq_true', List.any_eq_false]
  constructor
  · intro h a ha
    exact h _ ha (by simp [snd2])
  · intro h l hl e
    obtain ⟨a, b, rfl⟩ := h2 l hl
    have : b = p := by simpa [snd2] using e
    subst this
    exact h a hl
theorem takesB_iff {as : List (List Nat)} {p : Nat} (h2 : Two as) : takesB as p = true ↔ Takes as p := by
  unfold takesB Takes
  rw [Bool.not_eq_true', List.any_eq_false]
  constructor
  · intro h a ha
    exact h _ ha (by simp [fst2])
  · intro h l hl e
    obtain ⟨a, b, rfl⟩ := h2 l hl
    have : a = p := by simpa [fst2] using e
    subst this
    exact h b hl
theorem exch_arrs {as : List (List Nat)} {p : Nat} (h : Arrs as) (hr : Ranked (exch as p)) : Arrs (exch as p) := ⟨exch_two h.two, by rw [exch_pr2 h.two]; exact h.ties, hr⟩
theorem turn_arrs {as : List (List Nat)} {p : Nat} (h : Arrs as) (hg : Gives as p) : Arrs (exch as p) := exch_arrs h (exch_ranked h.two h.rk hg)
theorem exch_len (as : List (List Nat)) (p : Nat) : (exch as p).length = as.length := by simp [exch]
def slipR (pl : List Nat) : List (List Nat) → List Nat → Nat → Int
  | _, [], _ => -1
  | as, p :: r, i => if p ∈ pl ∧ givesB as p = true then slipR pl (exch as p) r (i + 1) else (i : Int)
def behindR : List (List Nat) → List Nat → List (List Nat)
  | as, [] => as
  | as, p :: r => behindR (exch as p) r
theorem row_slip {as bs : List (List Nat)} {row : List Nat} (h : Row as row bs) : ∀ {pl : List Nat} {i : Nat}, Two as → (∀ x, x ∈ pl ↔ x ∈ as.flatten) → slipR pl as row i = -1 ∧ behindR as row = bs := by
  induction h with
  | nil => exact fun _ _ => ⟨rfl, rfl⟩
  | @cons as p row bs hp hg h ih =>
    intro pl i h2 hpl
    obtain ⟨i1, i2⟩ := ih (i := i + 1) (exch_two h2) fun x => (hpl x).trans mem_exch_flat.symm
    refine ⟨?_, i2⟩
    unfold slipR
    rw [if_pos ⟨(hpl p).mpr hp, (givesB_iff h2).mpr hg⟩]
    exact i1
theorem Row.arrs {as bs : List (List Nat)} {row : List Nat} (h : Row as row bs) : Arrs as → Arrs bs := by
  induction h with
  | nil => exact fun h => h
  | cons hp hg h ih => exact fun ha => ih (turn_arrs ha hg)
def sGives : PSp := fun ds Q => ∃ as p, ds = [.tup (SL as), .str (S [p])] ∧ Two as ∧ as.length ≤ 500 ∧ Q (.bl (givesB as p))
def sExch : PSp := fun ds Q => ∃ as p, ds = [.tup (SL as), .str (S [p])] ∧ Two as ∧ as.length ≤ 500 ∧ Q (.tup (SL (exch as p)))
def sSlip : PSp := fun ds Q => ∃ as row, ds = [.tup (SL as), .str (S row)] ∧ Two as ∧ as.length ≤ 500 ∧ row.length ≤ 1000 ∧ Q (.int (slipR (us as.flatten) as row 0))
def sChkRow (Cy : Addr) : PSp := fun ds Q => ∃ as bs row, ds = [wayD Cy as, .str (S row)] ∧ Arrs as ∧ Row as row bs ∧ row.length ≤ 1000 ∧ Q .non
def sBehindR : PSp := fun ds Q => ∃ as row, ds = [.tup (SL as), .str (S row)] ∧ Two as ∧ as.length ≤ 500 ∧ row.length ≤ 1000 ∧ Q (.tup (SL (behindR as row)))
def sBy (Cy : Addr) : PSp := fun ds Q => ∃ as bs row, ds = [wayD Cy as, .str (S row)] ∧ Arrs as ∧ Row as row bs ∧ row.length ≤ 1000 ∧ Q (wayD Cy bs)
end Pdl
namespace Pdl
open PySem L2 PyProof.Rows
theorem Row.snoc {as bs : List (List Nat)} {row : List Nat} {p : Nat} (h : Row as row bs) : p ∈ bs.flatten → Gives bs p → Row as (row ++ [p]) (exch bs p) := by
  induction h with
  | nil => exact fun hp hg => .cons hp hg .nil
  | cons hp hg h ih => exact fun hp' hg' => .cons hp hg (ih hp' hg')
theorem idx_head {a : Nat} {r : List Nat} : idx (a :: r) a = 0 := by simp [idx, List.findIdx_cons]
theorem idx_tail {a x : Nat} {r : List Nat} (h : a ≠ x) : idx (a :: r) x = idx r x + 1 := by
  unfold idx
  rw [List.findIdx_cons]
  have : (a == x) = false := by simpa using h
  rw [this]
  rfl
/-- the first place moved behind: turned -/
theorem lay_turn {ls : List (List Nat)} {a : Nat} {r : List Nat} (h : Ties ls) (ho : ∀ x ∈ ls.flatten, x ∈ a :: r) (hn : (a :: r).Nodup) : exch (ls.map (lay (a :: r))) a = ls.map (lay (r ++ [a])) ∧ Gives (ls.map (lay (a :: r))) a := by
  obtain ⟨hna, hnr⟩ := List.nodup_cons.mp hn
  have key : ∀ x y, [x, y] ∈ ls → (x = a → lay (a :: r) [x, y] = [a, y] ∧ lay (r ++ [a]) [x, y] = [y, a] ∧ y ≠ a) ∧ (y = a → lay (a :: r) [x, y] = [a, x] ∧ lay (r ++ [a]) [x, y] = [x, a] ∧ x ≠ a) ∧ (x ≠ a → y ≠ a → lay (a :: r) [x, y] = lay (r ++ [a]) [x, y]) := by
    intro x y hxy
    obtain ⟨x', y', e, h1, h2, h3⟩ := h.pr _ hxy
    simp at e
    obtain ⟨rfl, rfl⟩ := e
    have hx : x ∈ a :: r := ho x (List.mem_flatten.mpr ⟨_, hxy, by simp⟩)
    have hy : y ∈ a :: r := ho y (List.mem_flatten.mpr ⟨_, hxy, by simp⟩)
    refine ⟨fun e => ?_, fun e => ?_, fun e1 e2 => ?_⟩
    · subst e
      have hya : y ≠ x := by omega
      have hyr : y ∈ r := (List.mem_cons.mp hy).resolve_left hya
      refine ⟨?_, ?_, hya⟩
      · show (if idx (x :: r) x < idx (x :: r) y then [x, y] else [y, x]) = _
        rw [idx_head, idx_tail (Ne.symm hya), if_pos (by omega)]
      · show (if idx (r ++ [x]) x < idx (r ++ [x]) y then [x, y] else [y, x]) = _
        rw [idx_new hna, idx_app hyr, if_neg]
        have := idx_lt_len hyr
        omega
    · subst e
      have hxa : x ≠ y := by omega
      have hxr : x ∈ r := (List.mem_cons.mp hx).resolve_left hxa
      refine ⟨?_, ?_, hxa⟩
      · show (if idx (y :: r) x < idx (y :: r) y then [x, y] else [y, x]) = _
        rw [idx_head, if_neg (by omega)]
      · show (if idx (r ++ [y]) x < idx (r ++ [y]) y then [x, y] else [y, x]) = _
        rw [idx_new hna, idx_app hxr, if_pos (idx_lt_len hxr)]
    · have hxr : x ∈ r := (List.mem_cons.mp hx).resolve_left e1
      have hyr : y ∈ r := (List.mem_cons.mp hy).resolve_left e2
      show (if idx (a :: r) x < idx (a :: r) y then [x, y] else [y, x]) = (if idx (r ++ [a]) x < idx (r ++ [a]) y then [x, y] else [y, x])
      rw [idx_tail (Ne.symm e1), idx_tail (Ne.symm e2), idx_app hxr, idx_app hyr]
      by_cases hlt : idx r x < idx r y
      · rw [if_pos hlt, if_pos (by omega)]
      · rw [if_neg hlt, if_neg (by omega)]
  constructor
  · unfold exch
    rw [List.map_map]
    refine List.map_congr_left fun l hl => ?_
    obtain ⟨x, y, rfl⟩ := h.two l hl
    obtain ⟨k1, k2, k3⟩ := key x y hl
    show exF a (lay (a :: r) [x, y]) = _
    by_cases hx : x = a
    · obtain ⟨q1, q2, q3⟩ := k1 hx
      rw [q1, q2, exF_two, if_pos (.inl rfl)]
    · by_cases hy : y = a
      · obtain ⟨q1, q2, q3⟩ := k2 hy
        rw [q1, q2, exF_two, if_pos (.inl rfl)]
      · rw [k3 hx hy]
        have : lay (r ++ [a]) [x, y] = [x, y] ∨ lay (r ++ [a]) [x, y] = [y, x] := by
          show (if idx (r ++ [a]) x < idx (r ++ [a]) y then [x, y] else [y, x]) = _ ∨ _
          split
          · exact .inl rfl
          · rename_i hh
            refine .inr ?_
            show (if idx (r ++ [a]) x < idx (r ++ [a]) y then [x, y] else [y, x]) = _
            rw [if_neg hh]
        rcases this with e | e
        · rw [e, exF_two, if_neg (by rintro (z | z); exact hx z.symm; exact hy z.symm)]
        · rw [e, exF_two, if_neg (by rintro (z | z); exact hy z.symm; exact hx z.symm)]
  · intro x hx
    obtain ⟨t, ht, e⟩ := List.mem_map.mp hx
    obtain ⟨u, v, rfl⟩ := h.two t ht
    obtain ⟨k1, k2, k3⟩ := key u v ht
    by_cases hu : u = a
    · obtain ⟨q1, q2, q3⟩ := k1 hu
      rw [q1] at e
      simp at e
      exact q3 e.2
    · by_cases hv : v = a
      · obtain ⟨q1, q2, q3⟩ := k2 hv
        rw [q1] at e
        simp at e
        exact q3 e.2
      · have e : (if idx (a :: r) u < idx (a :: r) v then [u, v] else [v, u]) = [x, a] := e
        split at e <;> (simp at e; obtain ⟨rfl, rfl⟩ := e; first | exact hv rfl | exact hu rfl)
def rot (row : List Nat) (k : Nat) : List Nat := row.drop k ++ row.take k
theorem rot_perm (row : List Nat) (k : Nat) : (rot row k).Perm row := by
  unfold rot
  exact (List.perm_append_comm).trans (by rw [List.take_append_drop])
theorem rot_at {row : List Nat} {k c : Nat} (h : row[k]? = some c) : rot row k = c :: (row.drop (k + 1) ++ row.take k) ∧ rot row (k + 1) = (row.drop (k + 1) ++ row.take k) ++ [c] := by
  have hk : k < row.length := (List.getElem?_eq_some_iff.mp h).1
  have e : row[k] = c := (List.getElem?_eq_some_iff.mp h).2
  unfold rot
  constructor
  · rw [List.drop_eq_getElem_cons hk, e]
    rfl
  · rw [List.take_add_one, h, List.append_assoc]
    rfl
theorem lay_flat {ls : List (List Nat)} {o : List Nat} (h : Ties ls) {x : Nat} : x ∈ (ls.map (lay o)).flatten ↔ x ∈ ls.flatten := by
  simp only [List.mem_flatten]
  constructor
  · rintro ⟨l, hl, hx⟩
    obtain ⟨t, ht, rfl⟩ := List.mem_map.mp hl
    obtain ⟨a, b, rfl⟩ := h.two t ht
    refine ⟨_, ht, ?_⟩
    have hx : x ∈ (if idx o a < idx o b then [a, b] else [b, a]) := hx
    split at hx <;> (simp at hx ⊢; omega)
  · rintro ⟨l, hl, hx⟩
    obtain ⟨a, b, rfl⟩ := h.two l hl
    refine ⟨_, List.mem_map_of_mem hl, ?_⟩
    show x ∈ (if idx o a < idx o b then [a, b] else [b, a])
    split <;> (simp at hx ⊢; omega)
/-- all places moved behind, one by one: a row -/
theorem rot_row {ls : List (List Nat)} {row : List Nat} (h : Ties ls) (ho : ∀ x, x ∈ row ↔ x ∈ ls.flatten) (hn : row.Nodup) : ∀ k, k ≤ row.length → Row (ls.map (lay row)) (row.take k) (ls.map (lay (rot row k)))
  | 0, _ => by
    have : rot row 0 = row := by simp [rot]
    rw [this]
    exact .nil
  | k + 1, hk => by
    have ih := rot_row h ho hn k (by omega)
    have hkc : row[k]? = some row[k] := List.getElem?_eq_getElem (by omega)
    obtain ⟨e1, e2⟩ := rot_at hkc
    have hp := rot_perm row k
    have ht := lay_turn (a := row[k]) (r := row.drop (k + 1) ++ row.take k) h (fun x hx => by rw [← e1]; exact hp.mem_iff.mpr ((ho x).mpr hx)) (by rw [← e1]; exact hp.nodup_iff.mpr hn)
    rw [← e1, ← e2] at ht
    rw [List.take_add_one, hkc, ← ht.1]
    exact ih.snoc ((lay_flat h).mpr ((ho _).mp (List.getElem_mem _))) ht.2
end Pdl
namespace Pdl
open PySem L2 PyProof.Rows
def valT (kvs : List (List Key × D)) (k : List Key) : Option D := (kvs.find? fun kv => decide (kv.1 = k)).map (·.2)
def putT (kvs : List (List Key × D)) (k : List Key) (v : D) : List (List Key × D) :=
  if (kvs.any fun kv => decide (kv.1 = k)) = true then kvs.map (fun kv => if kv.1 = k then (kv.1, v) else kv) else kvs ++ [(k, v)]
section
variable {K : PySem.W.Frag} {G : Hp}
theorem RpA.keys : ∀ (ks : List Key), RpA K G (ks.map kV) (ks.map kD)
  | [] => .nil
  | .inl i :: ks => .cons (.int i) (RpA.keys ks)
  | .inr z :: ks => .cons (.str z) (RpA.keys ks)
theorem RpT.length : ∀ {vs : List (List Key × V)} {ds : List (List Key × D)}, RpT K G vs ds → vs.length = ds.length
  | _, _, .nil => rfl
  | _, _, .cons _ r => by simp [RpT.length r]
theorem RpT.keys : ∀ {vs : List (List Key × V)} {ds : List (List Key × D)}, RpT K G vs ds → vs.map (·.1) = ds.map (·.1)
  | _, _, .nil => rfl
  | _, _, .cons _ r => by simp [RpT.keys r]
theorem RpT.app : ∀ {vs us : List (List Key × V)} {ds es : List (List Key × D)}, RpT K G vs ds → RpT K G us es → RpT K G (vs ++ us) (ds ++ es)
  | _, _, _, _, .nil, r => r
  | _, _, _, _, .cons h t, r => .cons h (RpT.app t r)
theorem RpT.put {vs : List (List Key × V)} {ds : List (List Key × D)} {kk : List Key} {v : V} {d : D} (r : RpT K G vs ds) (rv : Rp K G v d) : RpT K G (putK vs kk v) (putT ds kk d) := by
  have ea : (vs.any fun kv => decide (kv.1 = kk)) = (ds.any fun kv => decide (kv.1 = kk)) := by
    have h1 : (vs.any fun kv => decide (kv.1 = kk)) = (vs.map (·.1)).any fun z => decide (z = kk) := by rw [List.any_map]; rfl
    have h2 : (ds.any fun kv => decide (kv.1 = kk)) = (ds.map (·.1)).any fun z => decide (z = kk) := by rw [List.any_map]; rfl
    rw [h1, h2, r.keys]
  unfold putK putT
  rw [ea]
  split
  · clear ea
    have go : ∀ {vs : List (List Key × V)} {ds : List (List Key × D)}, RpT K G vs ds → RpT K G (vs.map (fun kv => if kv.1 = kk then (kv.1, v) else kv)) (ds.map (fun kv => if kv.1 = kk then (kv.1, d) else kv)) := by
      intro vs ds r
      induction vs generalizing ds with
      | nil => cases r; exact .nil
      | cons x vs ih =>
        cases r with
        | @cons k0 v0 d0 _ _ h t =>
          rw [List.map_cons, List.map_cons]
          by_cases hk : k0 = kk
          · simp only [hk, if_true]
            exact .cons rv (ih t)
          · simp only [hk, if_false]
            exact .cons h (ih t)
    exact go r
  · exact r.app (.cons rv .nil)
theorem RpT.val {k : List Key} : ∀ {vs : List (List Key × V)} {ds : List (List Key × D)}, RpT K G vs ds →
    (∀ d, valT ds k = some d → ∃ v, valV vs k = some v ∧ Rp K G v d) ∧ (valT ds k = none → valV vs k = none)
  | _, _, .nil => ⟨fun d h => (by cases h), fun _ => rfl⟩
  | _, _, .cons (k := k') h t => by
    obtain ⟨i1, i2⟩ := RpT.val (k := k) t
    by_cases hk : k' = k
    · subst hk
      refine ⟨fun d hd => ?_, fun hd => ?_⟩
      · simp [valT] at hd
        subst hd
        exact ⟨_, valV_pos rfl, h⟩
      · simp [valT] at hd
    · have e1 : ∀ (d0 : D) (ds : List (List Key × D)), valT ((k', d0) :: ds) k = valT ds k := fun d0 ds => by simp [valT, List.find?_cons, hk]
      rw [e1, valV_neg (p := (k', _)) hk]
      exact ⟨i1, i2⟩
end
section
variable {X : Cx} {μ : Md} {Γ : En} {Q : QE} {a b c e e2 o it tg elt : Expr} {es ifs : List Expr} {pos apos cpos tpos p : Pos} {x y d : D} {m : Addr → Bool} {H : Hp} {P : Po} {scope : Scope}
/-- the dict of a value -/
theorem dict_of {G : Hp} {v : V} {kvs : List (List Key × D)} (h : Rp X.K G v (.dcT kvs) ∨ Rp X.K G v (.dcL kvs)) : ∃ a us, v = .ref a ∧ Rd G a (.dT us) ∧ RpT X.K G us kvs := by
  rcases h with h | h
  · cases h with
    | dcT h1 h2 => exact ⟨_, _, rfl, .inl h1, h2⟩
  · cases h with
    | @dcL a o us _ h1 h2 => exact ⟨_, _, rfl, .inr ⟨o, h1⟩, h2⟩
def IsDT (d : D) (kvs : List (List Key × D)) : Prop := d = .dcT kvs ∨ d = .dcL kvs
theorem IsDT.of {G : Hp} {v : V} {d : D} {kvs : List (List Key × D)} (h : IsDT d kvs) (r : Rp X.K G v d) : ∃ a us, v = .ref a ∧ Rd G a (.dT us) ∧ RpT X.K G us kvs := by
  rcases h with rfl | rfl
  · exact dict_of (.inl r)
  · exact dict_of (.inr r)
end
end Pdl
namespace Pdl
open PySem L2 PyProof.Rows
def Reach (as bs : List (List Nat)) : Prop := ∃ row, Row as row bs
theorem Row.app {as bs cs : List (List Nat)} {r1 r2 : List Nat} (h : Row as r1 bs) (h2 : Row bs r2 cs) : Row as (r1 ++ r2) cs := by
  induction h with
  | nil => exact h2
  | cons a b _ ih => exact .cons a b (ih h2)
theorem Reach.trans {as bs cs : List (List Nat)} (h1 : Reach as bs) (h2 : Reach bs cs) : Reach as cs := let ⟨r1, a⟩ := h1; let ⟨r2, b⟩ := h2; ⟨_, a.app b⟩
theorem Reach.refl (as : List (List Nat)) : Reach as as := ⟨[], .nil⟩
theorem min_on (f : Nat → Int) (l : List Nat) (hl : l ≠ []) : ∃ x ∈ l, ∀ y ∈ l, f x ≤ f y := by
  obtain ⟨x, hx, h⟩ := max_on (fun y => - f y) l hl
  exact ⟨x, hx, fun y hy => by have := h y hy; omega⟩
theorem sum_nonneg {f : Nat → Int} : ∀ (l : List Nat), (∀ x ∈ l, 0 ≤ f x) → 0 ≤ (l.map f).sum
  | [], _ => by simp
  | x :: l, h => by
    have h1 := sum_nonneg l fun y hy => h y (List.mem_cons_of_mem _ hy)
    have h2 := h x List.mem_cons_self
    simp
    omega
/-- numbers that fit with the least one 0: a row turns each place so often -/
theorem Fit.least {as bs : List (List Nat)} {f : Nat → Int} (ha : Arrs as) (h : Fit as bs f) : ∃ g : Nat → Int, Fit as bs g ∧ (∀ p ∈ as.flatten, 0 ≤ g p) ∧ ∃ p ∈ as.flatten, g p = 0 := by
  have hne : as.flatten ≠ [] := fun e => by
    obtain ⟨l, hl⟩ := List.exists_mem_of_ne_nil _ ha.ne
    obtain ⟨a, b, rfl⟩ := ha.two l hl
    have : a ∈ as.flatten := List.mem_flatten.mpr ⟨_, hl, by simp⟩
    rw [e] at this
    cases this
  obtain ⟨x, hx, hm⟩ := min_on f _ hne
  exact ⟨fun p => f p - f x, h.shift, fun p hp => by have := hm p hp; show 0 ≤ f p - f x; omega, x, hx, by show f x - f x = 0; omega⟩
theorem fit_row {as bs : List (List Nat)} {f : Nat → Int} (ha : Arrs as) (hb : Two bs) (hs : SameW as bs) (h : Fit as bs f) (h0 : ∀ p ∈ as.flatten, 0 ≤ f p) : ∃ row, Row as row bs ∧ ∀ x ∈ as.flatten, (row.count x : Int) = f x := by
  have h0' : ∀ x ∈ us as.flatten, 0 ≤ f x := fun x hx => h0 x (mem_us.mp hx)
  obtain ⟨row, h1, h2⟩ := Fit.row hb (us as.flatten) ((us_sorted _).imp fun h => Nat.ne_of_lt h) ((us as.flatten).map f).sum.toNat ha.two ha.rk hs h (fun x => mem_us) h0' (by rw [Int.toNat_of_nonneg (sum_nonneg _ h0')])
  exact ⟨row, h1, fun x hx => h2 x (mem_us.mpr hx)⟩
theorem fit_iff {as bs : List (List Nat)} (ha : Arrs as) (hb : Two bs) (hs : SameW as bs) : (∃ f, Fit as bs f) ↔ Reach as bs := by
  constructor
  · rintro ⟨f, h⟩
    obtain ⟨g, h1, h2, _⟩ := h.least ha
    obtain ⟨row, h3, _⟩ := fit_row ha hb hs h1 h2
    exact ⟨row, h3⟩
  · rintro ⟨row, h⟩
    exact ⟨_, (h.facts ha.two ha.rk).2.2.2⟩
def allL : List (List Nat) → List (List (List Nat))
  | [] => [[]]
  | l :: ls => (allL ls).flatMap fun r => [l :: r, l.reverse :: r]
theorem allL_len : ∀ ls, (allL ls).length = 2 ^ ls.length
  | [] => rfl
  | l :: ls => by
    have e : ∀ (rs : List (List (List Nat))), (rs.flatMap fun r => [l :: r, l.reverse :: r]).length = 2 * rs.length := fun rs => by
      induction rs with
      | nil => rfl
      | cons r rs ih => rw [List.flatMap_cons, List.length_append, ih]; simp; omega
    rw [allL, e, allL_len ls, List.length_cons, Nat.pow_succ]
    omega
theorem same_allL : ∀ {as bs : List (List Nat)}, Two as → Two bs → SameW as bs → bs ∈ allL as
  | [], bs, _, _, h => by
    have h : [] = bs.map pr2 := h
    rw [List.map_eq_nil_iff.mp h.symm]
    exact List.mem_singleton.mpr rfl
  | l :: as, [], _, _, h => by
    have h : (l :: as).map pr2 = [] := h
    cases h
  | l :: as, b :: bs, ha, hb, h => by
    have h : (l :: as).map pr2 = (b :: bs).map pr2 := h
    rw [List.map_cons, List.map_cons] at h
    injection h with h1 h2
    have hr := same_allL (fun x hx => ha x (List.mem_cons_of_mem _ hx)) (fun x hx => hb x (List.mem_cons_of_mem _ hx)) h2
    obtain ⟨x, y, rfl⟩ := ha l List.mem_cons_self
    obtain ⟨u, v, rfl⟩ := hb b List.mem_cons_self
    refine List.mem_flatMap.mpr ⟨bs, hr, ?_⟩
    rcases pr2_inv h1 with ⟨rfl, rfl⟩ | ⟨rfl, rfl⟩
    · simp
    · simp
theorem Row.same {as bs : List (List Nat)} {row : List Nat} (ha : Arrs as) (h : Row as row bs) : bs ∈ allL as := by
  obtain ⟨h1, _, h2, _⟩ := h.facts ha.two ha.rk
  exact same_allL ha.two h1 h2
theorem reach_few {as : List (List Nat)} (ha : Arrs as) {l : List (List (List Nat))} (hn : l.Nodup) (h : ∀ b ∈ l, Reach as b) : l.length ≤ 1024 := by
  have h1 := nodup_len hn fun b hb => let ⟨row, hr⟩ := h b hb; hr.same ha
  rw [allL_len] at h1
  exact Nat.le_trans h1 (Nat.pow_le_pow_right (by decide) ha.len)
def heads (as : List (List Nat)) : List Nat := (us as.flatten).filter fun p => !(as.any fun l => decide ([snd2 l] = [p]))
theorem mem_heads {as : List (List Nat)} {p : Nat} (h2 : Two as) : p ∈ heads as ↔ p ∈ as.flatten ∧ Gives as p := by
  unfold heads
  rw [List.mem_filter, mem_us]
  refine and_congr_right fun _ => ?_
  rw [Bool.not_eq_true', List.any_eq_false]
  constructor
  · intro h a hl
    have := h _ hl
    simp [snd2] at this
  · intro h l hl
    obtain ⟨a, b, rfl⟩ := h2 l hl
    simp [snd2]
    rintro rfl
    exact h a hl
theorem heads_sorted (as : List (List Nat)) : (heads as).Pairwise (· < ·) := (us_sorted _).filter _
abbrev LvL := List (List (List Nat) × Nat)
def lvK (fd : LvL) : List (List (List Nat)) := fd.map (·.1)
structure LevOk (as : List (List Nat)) (fd : LvL) : Prop where
  nd : (lvK fd).Nodup
  mem : ∀ b, b ∈ lvK fd ↔ Reach as b
  row : ∀ e ∈ fd, ∃ row, Row as row e.1 ∧ row.length = e.2
  least : ∀ e ∈ fd, ∀ row, Row as row e.1 → e.2 ≤ row.length
structure LevJ (as : List (List Nat)) (fd : LvL) (don : List (List (List Nat))) (k : List (List Nat)) (n : Nat) (fr : List (List (List Nat))) (ps : List Nat) : Prop where
  ks : lvK fd = don ++ k :: fr
  nd : (lvK fd).Nodup
  sat : (as, 0) ∈ fd
  row : ∀ e ∈ fd, ∃ row, Row as row e.1 ∧ row.length = e.2
  mono : (fd.map (·.2)).Pairwise (· ≤ ·)
  kn : (k, n) ∈ fd
  top : ∀ e ∈ fd, e.2 ≤ n + 1
  cl : ∀ e ∈ fd, e.1 ∈ don → ∀ p ∈ e.1.flatten, Gives e.1 p → ∃ m, (exch e.1 p, m) ∈ fd ∧ m ≤ e.2 + 1
  clk : ∀ p ∈ ps, ∃ m, (exch k p, m) ∈ fd ∧ m ≤ n + 1
theorem LevJ.new {as : List (List Nat)} {fd : LvL} {don fr : List (List (List Nat))} {k : List (List Nat)} {n p : Nat} {ps : List Nat} (h : LevJ as fd don k n fr ps) (hp : exch k p ∉ lvK fd) (hk : p ∈ k.flatten) (hg : Gives k p) :
    LevJ as (fd ++ [(exch k p, n + 1)]) don k n (fr ++ [exch k p]) (ps ++ [p]) := by
  have up : ∀ e, e ∈ fd → e ∈ fd ++ [(exch k p, n + 1)] := fun e he => List.mem_append_left _ he
  refine ⟨?_, ?_, up _ h.sat, fun e he => ?_, ?_, up _ h.kn, fun e he => ?_, fun e he hd q hq hgq => ?_, fun q hq => ?_⟩
  · unfold lvK
    rw [List.map_append]
    show lvK fd ++ [exch k p] = _
    rw [h.ks]
    simp
  · unfold lvK
    rw [List.map_append]
    show (lvK fd ++ [exch k p]).Nodup
    rw [List.nodup_append]
    exact ⟨h.nd, by simp, fun a ha b hb => by
      obtain rfl := List.mem_singleton.mp hb
      exact fun e => hp (e ▸ ha)⟩
  · rcases List.mem_append.mp he with he | he
    · exact h.row e he
    · obtain rfl := List.mem_singleton.mp he
      obtain ⟨row, h1, h2⟩ := h.row _ h.kn
      have h2 : row.length = n := h2
      exact ⟨row ++ [p], h1.snoc hk hg, by simp [h2]⟩
  · rw [List.map_append, List.pairwise_append]
    refine ⟨h.mono, by simp, fun a ha b hb => ?_⟩
    obtain ⟨e, he, rfl⟩ := List.mem_map.mp ha
    simp at hb
    subst hb
    exact h.top e he
  · rcases List.mem_append.mp he with he | he
    · exact h.top e he
    · obtain rfl := List.mem_singleton.mp he
      exact Nat.le_refl _
  · rcases List.mem_append.mp he with he | he
    · obtain ⟨m, h1, h2⟩ := h.cl e he hd q hq hgq
      exact ⟨m, up _ h1, h2⟩
    · obtain rfl := List.mem_singleton.mp he
      refine absurd ?_ hp
      rw [h.ks]
      exact List.mem_append_left _ hd
  · rcases List.mem_append.mp hq with hq | hq
    · obtain ⟨m, h1, h2⟩ := h.clk q hq
      exact ⟨m, up _ h1, h2⟩
    · obtain rfl := List.mem_singleton.mp hq
      exact ⟨n + 1, List.mem_append_right _ (by simp), Nat.le_refl _⟩
theorem Fit.symm {as bs : List (List Nat)} {f : Nat → Int} (h2 : Two as) (h2' : Two bs) (hs : SameW as bs) (h : Fit as bs f) : Fit bs as (fun x => - f x) := fun i a b o h3 h4 => by
  obtain ⟨x, y, rfl⟩ := h2 o (List.mem_of_getElem? h4)
  have h5 := h i x y [a, b] h4 h3
  rcases hs.at h2' h4 h3 with e | e
  · injection e with e1 e2
    injection e2 with e2 _
    subst e1 e2
    rw [if_pos rfl] at h5 ⊢
    show - f a - - f b = 0
    omega
  · injection e with e1 e2
    injection e2 with e2 _
    subst e1 e2
    by_cases hab : a = b
    · subst hab
      rw [if_pos rfl] at h5 ⊢
      show - f a - - f a = 0
      omega
    · have e1 : ¬ [b, a] = [a, b] := fun e => by injection e with e1 _; exact hab e1.symm
      have e2 : ¬ [a, b] = [b, a] := fun e => by injection e with e1 _; exact hab e1
      rw [if_neg e1] at h5
      rw [if_neg e2]
      show - f a - - f b = 1
      omega
theorem Reach.symm {as bs : List (List Nat)} (ha : Arrs as) (h : Reach as bs) : Reach bs as := by
  obtain ⟨row, hr⟩ := h
  obtain ⟨h1, h2, h3, h4⟩ := hr.facts ha.two ha.rk
  exact (fit_iff (hr.arrs ha) ha.two h3.symm).mp ⟨_, h4.symm ha.two h1 h3⟩
end Pdl
namespace Pdl
open PySem L2 PyProof.Rows
theorem okL_all : ∀ (ds : List D), okL ds = ds.all okD
  | [] => rfl
  | d :: ds => by rw [okL, okL_all ds]; rfl
theorem shaped_ok {d : D} (h : okD d = true) (hd : dpD d ≤ 64) : SeqAt.shaped (toPy d) = true := by
  obtain ⟨h1, _, _, h2, _⟩ := ok_can d h
  unfold SeqAt.shaped
  rw [h1, h2]
  simpa using hd
end Pdl
namespace Pdl
open PySem L2 PyProof.Rows
end Pdl
namespace Pdl
open PySem L2 PyProof.Rows
def stepQ (F : List (List (List Nat))) (d : List Nat) : List (List (List Nat)) := F.map (fun l => l ++ [d]) ++ F.map (fun l => l ++ [d.reverse])
def lotsQ (ls : List (List Nat)) : List (List (List Nat)) := ls.foldl stepQ [[]]
theorem mem_fold : ∀ (ls : List (List Nat)) (F : List (List (List Nat))) (b : List (List Nat)), b ∈ ls.foldl stepQ F ↔ ∃ f ∈ F, ∃ c ∈ allL ls, b = f ++ c
  | [], F, b => by
    constructor
    · intro h
      exact ⟨b, h, [], List.mem_singleton.mpr rfl, by simp⟩
    · rintro ⟨f, hf, c, hc, rfl⟩
      obtain rfl := List.mem_singleton.mp hc
      simpa using hf
  | d :: ls, F, b => by
    rw [List.foldl_cons, mem_fold ls (stepQ F d) b]
    constructor
    · rintro ⟨f, hf, c, hc, rfl⟩
      rcases List.mem_append.mp hf with hf | hf
      · obtain ⟨g, hg, rfl⟩ := List.mem_map.mp hf
        exact ⟨g, hg, d :: c, List.mem_flatMap.mpr ⟨c, hc, by simp⟩, by simp⟩
      · obtain ⟨g, hg, rfl⟩ := List.mem_map.mp hf
        exact ⟨g, hg, d.reverse :: c, List.mem_flatMap.mpr ⟨c, hc, by simp⟩, by simp⟩
    · rintro ⟨f, hf, c, hc, rfl⟩
      obtain ⟨r, hr, hc⟩ := List.mem_flatMap.mp hc
      rcases List.mem_cons.mp hc with rfl | hc
      · exact ⟨f ++ [d], List.mem_append_left _ (List.mem_map_of_mem hf), r, hr, by simp⟩
      · obtain rfl := List.mem_singleton.mp hc
        exact ⟨f ++ [d.reverse], List.mem_append_right _ (List.mem_map_of_mem hf), r, hr, by simp⟩
theorem mem_lotsQ {ls b : List (List Nat)} : b ∈ lotsQ ls ↔ b ∈ allL ls := by
  unfold lotsQ
  rw [mem_fold]
  simp
theorem fold_len : ∀ (ls : List (List Nat)) (F : List (List (List Nat))), (ls.foldl stepQ F).length = F.length * 2 ^ ls.length
  | [], F => by simp
  | d :: ls, F => by
    rw [List.foldl_cons, fold_len ls]
    unfold stepQ
    simp only [List.length_append, List.length_map, List.length_cons, Nat.pow_succ]
    rw [← Nat.two_mul, Nat.mul_comm 2 F.length, Nat.mul_assoc, Nat.mul_comm 2]
theorem lotsQ_len (ls : List (List Nat)) : (lotsQ ls).length = 2 ^ ls.length := by
  unfold lotsQ
  rw [fold_len]
  simp
theorem allL_two : ∀ {ls b : List (List Nat)}, Two ls → b ∈ allL ls → Two b ∧ SameW ls b
  | [], b, _, h => by
    obtain rfl := List.mem_singleton.mp h
    exact ⟨fun l hl => (by cases hl), rfl⟩
  | d :: ls, b, h2, h => by
    obtain ⟨r, hr, hb⟩ := List.mem_flatMap.mp h
    obtain ⟨t1, t2⟩ := allL_two (fun x hx => h2 x (List.mem_cons_of_mem _ hx)) hr
    obtain ⟨x, y, rfl⟩ := h2 d List.mem_cons_self
    rcases List.mem_cons.mp hb with rfl | hb
    · refine ⟨fun l hl => ?_, ?_⟩
      · rcases List.mem_cons.mp hl with rfl | hl
        · exact ⟨x, y, rfl⟩
        · exact t1 l hl
      · show (_ :: ls.map pr2) = _ :: r.map pr2
        rw [show ls.map pr2 = r.map pr2 from t2]
    · obtain rfl := List.mem_singleton.mp hb
      refine ⟨fun l hl => ?_, ?_⟩
      · rcases List.mem_cons.mp hl with rfl | hl
        · exact ⟨y, x, rfl⟩
        · exact t1 l hl
      · show (pr2 [x, y] :: ls.map pr2) = pr2 [y, x] :: r.map pr2
        rw [show ls.map pr2 = r.map pr2 from t2, pr2_comm]
/-- all ways of ties, ascending -/
def flows (ls : List (List Nat)) : List (List (List Nat)) := srtE tS ((lotsQ ls).filter rkB)
theorem Ties.pr2s {ls : List (List Nat)} (h : Ties ls) : ls.map pr2 = ls := by
  have : ∀ l ∈ ls, pr2 l = l := fun l hl => by
    obtain ⟨a, b, rfl, hlt, _⟩ := h.pr l hl
    unfold pr2
    simp
    omega
  calc ls.map pr2 = ls.map id := List.map_congr_left this
    _ = ls := List.map_id _
theorem mem_flows {ls b : List (List Nat)} (h : Ties ls) : b ∈ flows ls ↔ Arrs b ∧ b.map pr2 = ls := by
  unfold flows
  rw [(srtE_perm _ _).mem_iff, List.mem_filter, mem_lotsQ]
  constructor
  · rintro ⟨h1, h2⟩
    obtain ⟨t1, t2⟩ := allL_two h.two h1
    have e : b.map pr2 = ls := by
      have t2 : ls.map pr2 = b.map pr2 := t2
      rw [← t2, h.pr2s]
    exact ⟨⟨t1, by rw [e]; exact h, (rkB_iff t1).mp h2⟩, e⟩
  · rintro ⟨h1, h2⟩
    refine ⟨same_allL h.two h1.two ?_, rkB_t h1.two h1.rk⟩
    show ls.map pr2 = b.map pr2
    rw [h.pr2s, h2]
theorem flows_ne {ls : List (List Nat)} (h : Ties ls) : flows ls ≠ [] := fun e => by
  have : ls.map (lay (us ls.flatten)) ∈ flows ls := (mem_flows h).mpr ⟨lay_arrs h fun x hx => mem_us.mpr hx, lay_pr2 h⟩
  rw [e] at this
  cases this
theorem flows_len {ls : List (List Nat)} (h : ls.length ≤ 10) : (flows ls).length ≤ 1024 := by
  unfold flows
  rw [(srtE_perm _ _).length_eq]
  refine Nat.le_trans (List.length_filter_le _ _) ?_
  rw [lotsQ_len]
  exact Nat.pow_le_pow_right (by decide) h
theorem alone_eq {as bs : List (List Nat)} {p : Nat} (ha : Arrs as) (h : Reach as bs) (h1 : heads as = [p]) (h2 : heads bs = [p]) : as = bs := by
  obtain ⟨row, hr⟩ := h
  obtain ⟨t1, t2, t3, t4⟩ := hr.facts ha.two ha.rk
  have hb := hr.arrs ha
  have key : ∀ {as bs : List (List Nat)} {f : Nat → Int}, Arrs as → heads as = [p] → SameW as bs → Fit as bs f → ∀ x ∈ as.flatten, f x ≤ f p := fun {as bs f} ha h1 hs hf x hx => by
    refine Int.not_lt.mp fun hlt => ?_
    obtain ⟨q, hq, hq0, hg⟩ := Fit.giver ha.two ha.rk hs (hf.shift (m := f p)) hx (by show 0 < f x - f p; omega)
    have : q ∈ heads as := (mem_heads ha.two).mpr ⟨hq, hg⟩
    rw [h1] at this
    obtain rfl := List.mem_singleton.mp this
    have hq0 : 0 < f q - f q := hq0
    omega
  have k1 := key ha h1 t3 t4
  have k2 := key hb h2 t3.symm (t4.symm ha.two t1 t3)
  have hfl : ∀ x, x ∈ as.flatten → x ∈ bs.flatten := fun x hx => (mem_pr2_flat t1).mp (by rw [← show as.map pr2 = bs.map pr2 from t3]; exact (mem_pr2_flat ha.two).mpr hx)
  refine Fit.zero ha.two t3 (t4.shift (m := (row.count p : Int))) fun x hx => ?_
  have e1 := k1 x hx
  have e2 := k2 x (hfl x hx)
  have e2 : -(row.count x : Int) ≤ -(row.count p : Int) := e2
  show (row.count x : Int) - (row.count p : Int) = 0
  omega
theorem row_in_flat {as bs : List (List Nat)} {row : List Nat} (h : Row as row bs) : ∀ x ∈ row, x ∈ as.flatten := by
  induction h with
  | nil => intro x hx; cases hx
  | cons hp hg h ih =>
    intro x hx
    rcases List.mem_cons.mp hx with rfl | hx
    · exact hp
    · exact mem_exch_flat.mp (ih x hx)
theorem len_of_counts : ∀ (V : List Nat) (row : List Nat), (∀ x ∈ row, x ∈ V) → (∀ x ∈ V, row.count x ≤ 6) → row.length ≤ 6 * V.length
  | [], row, h, _ => by
    cases row with
    | nil => exact Nat.zero_le _
    | cons x r => exact absurd (h x List.mem_cons_self) (by simp)
  | v :: V, row, h, hc => by
    have h1 : row.length = row.count v + (row.filter fun x => !(x == v)).length := by
      rw [List.count_eq_length_filter]
      clear h hc
      induction row with
      | nil => rfl
      | cons x r ih =>
        rw [List.filter_cons, List.filter_cons]
        by_cases hx : (x == v) = true
        · rw [if_pos hx, if_neg (by simp [hx])]
          simp only [List.length_cons]
          omega
        · rw [if_neg hx, if_pos (by simpa using hx)]
          simp only [List.length_cons]
          omega
    have h2 := len_of_counts V (row.filter fun x => !(x == v)) (fun x hx => by
      obtain ⟨hx, hn⟩ := List.mem_filter.mp hx
      rcases List.mem_cons.mp (h x hx) with rfl | hv
      · simp at hn
      · exact hv) (fun x hx => Nat.le_trans (List.Sublist.count_le _ List.filter_sublist) (hc x (List.mem_cons_of_mem _ hx)))
    have h3 := hc v List.mem_cons_self
    rw [List.length_cons]
    omega
theorem alone_bound {as bs : List (List Nat)} {row : List Nat} {p : Nat} (ha : Arrs as) (h : Row as row bs) (hp : p ∈ as.flatten) (hn : p ∉ row) : row.length ≤ 42 := by
  obtain ⟨t1, t2, t3, t4⟩ := h.facts ha.two ha.rk
  have near : ∀ a b, [a, b] ∈ as → row.count a ≤ row.count b + 1 ∧ row.count b ≤ row.count a := fun a b hl => by
    obtain ⟨i, hi⟩ := List.getElem?_of_mem hl
    have hlt : i < bs.length := by rw [← t3.len]; exact (List.getElem?_eq_some_iff.mp hi).1
    have this : (row.count a : Int) - (row.count b : Int) = if [a, b] = bs[i] then 0 else 1 := t4 i a b bs[i] hi (List.getElem?_eq_getElem hlt)
    split at this <;> omega
  have all : ∀ M, (∃ x ∈ as.flatten, row.count x = M) → ∀ v, v ≤ M → ∃ x ∈ as.flatten, row.count x = v := fun M ⟨x, hx, hM⟩ v hv => by
    by_cases h0 : v = 0
    · exact ⟨p, hp, by rw [h0]; exact List.count_eq_zero.mpr hn⟩
    refine Classical.byContradiction fun hno => ?_
    have hno : ∀ y ∈ as.flatten, row.count y ≠ v := fun y hy e => hno ⟨y, hy, e⟩
    have hinv : ∀ a b, [a, b] ∈ as → (row.count a < v ↔ row.count b < v) := fun a b hl => by
      have h1 := near a b hl
      have ha' := hno a (List.mem_flatten.mpr ⟨_, hl, by simp⟩)
      have hb' := hno b (List.mem_flatten.mpr ⟨_, hl, by simp⟩)
      omega
    have hroot := ha.connA (fun y => row.count y < v)
    by_cases hr : row.count (fst2 (as.head?.getD [])) < v
    · have := hroot hr hinv x hx
      have this : row.count x < v := this
      omega
    · have := ha.connA (fun y => ¬ row.count y < v) hr (fun a b hl => not_congr (hinv a b hl)) p hp
      have this : ¬ row.count p < v := this
      rw [List.count_eq_zero.mpr hn] at this
      omega
  have h6 : ∀ x ∈ us as.flatten, row.count x ≤ 6 := fun x hx => by
    have hx := mem_us.mp hx
    have hsub : ∀ v ∈ List.range (row.count x + 1), v ∈ (us as.flatten).map fun y => row.count y := fun v hv => by
      obtain ⟨y, hy, e⟩ := all _ ⟨x, hx, rfl⟩ v (by have := List.mem_range.mp hv; omega)
      exact List.mem_map.mpr ⟨y, mem_us.mpr hy, e⟩
    have := nodup_len List.nodup_range hsub
    rw [List.length_range, List.length_map] at this
    have := ha.few
    omega
  have := len_of_counts (us as.flatten) row (fun x hx => mem_us.mpr (row_in_flat h x hx)) h6
  have := ha.few
  omega
end Pdl
namespace Pdl
open PySem L2 PyProof.Rows
theorem heads_ne {bs : List (List Nat)} (hb : Arrs bs) : heads bs ≠ [] := fun e => by
  obtain ⟨l, hl⟩ := List.exists_mem_of_ne_nil _ hb.ne
  obtain ⟨a, b, rfl⟩ := hb.two l hl
  have ha : a ∈ bs.flatten := List.mem_flatten.mpr ⟨_, hl, by simp⟩
  obtain ⟨q, hq, _, hg⟩ := Fit.giver hb.two hb.rk rfl (Fit.refl.shift (m := -1)) ha (by show (0 : Int) < 0 - -1; omega)
  have : q ∈ heads bs := (mem_heads hb.two).mpr ⟨hq, hg⟩
  rw [e] at this
  cases this
theorem heads_one {bs : List (List Nat)} {p : Nat} (hb : Arrs bs) (h : ∀ x ∈ heads bs, x = p) : heads bs = [p] := by
  have hs := heads_sorted bs
  have hn := heads_ne hb
  generalize heads bs = L at *
  cases L with
  | nil => exact absurd rfl hn
  | cons x L =>
    cases L with
    | nil => rw [h x (by simp)]
    | cons y L =>
      have e1 := h x (by simp)
      have e2 := h y (by simp)
      have := (List.pairwise_cons.mp hs).1 y (by simp)
      omega
theorem SL_snoc (a : List (List Nat)) (d : List Nat) : SL a ++ [.str (S d)] = SL (a ++ [d]) := by simp [SL]
theorem alone_ex {as : List (List Nat)} {p : Nat} (ha : Arrs as) (hp : p ∈ as.flatten) : ∃ b, Reach as b ∧ heads b = [p] := by
  have go : ∀ (n : Nat) (bs : List (List Nat)) (row : List Nat), n + row.length = 43 → Row as row bs → p ∉ row → ∃ b, Reach as b ∧ heads b = [p] := by
    intro n
    induction n with
    | zero =>
      intro bs row hn hr hpn
      have := alone_bound ha hr hp hpn
      omega
    | succ n ih =>
      intro bs row hn hr hpn
      have hb := hr.arrs ha
      by_cases h : ∀ x ∈ heads bs, x = p
      · exact ⟨bs, ⟨row, hr⟩, heads_one hb h⟩
      · obtain ⟨q, hq⟩ := Classical.not_forall.mp h
        obtain ⟨hq1, hqp⟩ := Classical.not_imp.mp hq
        obtain ⟨hq3, hq4⟩ := (mem_heads hb.two).mp hq1
        refine ih (exch bs q) (row ++ [q]) (by simp; omega) (hr.snoc hq3 hq4) fun z => ?_
        rcases List.mem_append.mp z with z | z
        · exact hpn z
        · exact hqp (List.mem_singleton.mp z).symm
  exact go 43 as [] (by simp) .nil (by simp)
section
variable {X : Cx}
theorem eqv_self {d : D} (hok : okD d = true) : PyData.eqv (toPy d) (toPy d) = true := SeqAt.eqv_refl _ (ok_can d hok).1
theorem od_neRefl {d : D} (hu : X.A.units + 64 < cLine) (hok : okD d = true) (hdp : dpD d ≤ 64) : OpD X (compareOp .NotEq) d d (.bl false) := by
  have := od_neD (X := X) hu (ok_py _ hok) (ok_py _ hok) (shaped_ok hok hdp) (shaped_ok hok hdp)
  rw [eqv_self hok] at this
  exact this
end
end Pdl
namespace Pdl
open PySem L2 PyProof.Rows
structure LvsOk (as : List (List Nat)) (Ls : List (List (List (List Nat)))) : Prop where
  nd : Ls.flatten.Nodup
  mem : ∀ b, b ∈ Ls.flatten ↔ Reach as b
  ne : ∀ L ∈ Ls, L ≠ []
  row : ∀ i L, Ls[i]? = some L → ∀ b ∈ L, (∃ row, Row as row b ∧ row.length = i) ∧ ∀ row, Row as row b → i ≤ row.length
/-- Ls: the levels so far; later: those of the next one; ps: what of the last level is done -/
structure LvsI (as : List (List Nat)) (Ls : List (List (List (List Nat)))) : Prop where
  nd : Ls.flatten.Nodup
  st : [as] ∈ Ls.head?
  nz : Ls ≠ []
  ne : ∀ i L, Ls[i]? = some L → i + 1 < Ls.length → L ≠ []
  row : ∀ i L, Ls[i]? = some L → ∀ b ∈ L, ∃ row, Row as row b ∧ row.length = i
  cl : ∀ i L, Ls[i]? = some L → i + 1 < Ls.length → ∀ b ∈ L, ∀ p ∈ b.flatten, Gives b p → ∃ j M, j ≤ i + 1 ∧ Ls[j]? = some M ∧ exch b p ∈ M
theorem flat_ge {α : Type} : ∀ (Ls : List (List α)), (∀ i L, Ls[i]? = some L → i + 1 < Ls.length → L ≠ []) → Ls.length ≤ Ls.flatten.length + 1
  | [], _ => Nat.zero_le _
  | [L], _ => by simp
  | L :: M :: Ls, h => by
    have h1 : L ≠ [] := h 0 L rfl (by simp)
    have h2 := flat_ge (M :: Ls) fun i N hi hl => h (i + 1) N (by simpa using hi) (by simpa using hl)
    have h3 := List.length_pos_iff.mpr h1
    rw [List.flatten_cons, List.length_append]
    simp only [List.length_cons] at h2 ⊢
    omega
theorem LvsI.reach {as : List (List Nat)} {Ls : List (List (List (List Nat)))} (h : LvsI as Ls) : ∀ b ∈ Ls.flatten, Reach as b := fun b hb => by
  obtain ⟨L, hL, hb⟩ := List.mem_flatten.mp hb
  obtain ⟨i, hi⟩ := List.getElem?_of_mem hL
  obtain ⟨row, hr, _⟩ := h.row i L hi b hb
  exact ⟨row, hr⟩
theorem LvsI.few {as : List (List Nat)} {Ls : List (List (List (List Nat)))} (ha : Arrs as) (h : LvsI as Ls) : Ls.flatten.length ≤ 1024 ∧ Ls.length ≤ 1025 := by
  have h1 := reach_few ha h.nd h.reach
  have h2 := flat_ge Ls h.ne
  exact ⟨h1, by omega⟩
/-- while a level is gone through -/
structure LvsJ (as : List (List Nat)) (Ls : List (List (List (List Nat)))) (later don : List (List (List Nat))) : Prop where
  nd : (Ls.flatten ++ later).Nodup
  row : ∀ b ∈ later, ∃ row, Row as row b ∧ row.length = Ls.length
  cl : ∀ b ∈ don, ∀ p ∈ b.flatten, Gives b p → exch b p ∈ Ls.flatten ++ later
theorem LvsJ.step {as : List (List Nat)} {Ls : List (List (List (List Nat)))} {later don : List (List (List Nat))} (h : LvsI as Ls) {L : List (List (List Nat))} (hl : Ls.getLast? = some L) {k : List (List Nat)} {p : Nat} (hk : k ∈ L) (hp : p ∈ k.flatten) (hg : Gives k p)
    (hJ : LvsJ as Ls later don) (hn : exch k p ∉ Ls.flatten ++ later) : LvsJ as Ls (later ++ [exch k p]) don := by
  refine ⟨?_, fun b hb => ?_, fun b hb q hq hgq => ?_⟩
  · rw [← List.append_assoc, List.nodup_append]
    exact ⟨hJ.nd, by simp, fun x hx y hy => by
      obtain rfl := List.mem_singleton.mp hy
      exact fun e => hn (e ▸ hx)⟩
  · rcases List.mem_append.mp hb with hb | hb
    · exact hJ.row b hb
    · obtain rfl := List.mem_singleton.mp hb
      have hz := h.nz
      have hlen := List.length_pos_iff.mpr hz
      obtain ⟨row, h1, h2⟩ := h.row (Ls.length - 1) L (by rw [← List.getLast?_eq_getElem?]; exact hl) k hk
      exact ⟨row ++ [p], h1.snoc hp hg, by simp; omega⟩
  · have := hJ.cl b hb q hq hgq
    rw [← List.append_assoc]
    exact List.mem_append_left _ this
/-- the greatest distance -/
structure FarOk (as : List (List Nat)) (n : Nat) : Prop where
  some : ∃ b, (∃ row, Row as row b ∧ row.length = n) ∧ ∀ row, Row as row b → n ≤ row.length
  all : ∀ b, Reach as b → ∃ row, Row as row b ∧ row.length ≤ n
end Pdl
namespace Pdl
open PySem L2 PyProof.Rows
theorem count_split (v : Nat) (row : List Nat) : row.length = row.count v + (row.filter fun x => !(x == v)).length := by
  rw [List.count_eq_length_filter]
  induction row with
  | nil => rfl
  | cons x r ih =>
    rw [List.filter_cons, List.filter_cons]
    by_cases hx : (x == v) = true
    · rw [if_pos hx, if_neg (by simp [hx])]
      simp only [List.length_cons]
      omega
    · rw [if_neg hx, if_pos (by simpa using hx)]
      simp only [List.length_cons]
      omega
theorem len_counts : ∀ (V row : List Nat), V.Nodup → (∀ x ∈ row, x ∈ V) → (V.map fun x => (row.count x : Int)).sum = (row.length : Int)
  | [], row, _, h => by
    cases row with
    | nil => rfl
    | cons x r => exact absurd (h x List.mem_cons_self) (by simp)
  | v :: V, row, hn, h => by
    obtain ⟨hv, hn⟩ := List.nodup_cons.mp hn
    have h1 := count_split v row
    have h2 := len_counts V (row.filter fun x => !(x == v)) hn (fun x hx => by
      obtain ⟨hx, hne⟩ := List.mem_filter.mp hx
      rcases List.mem_cons.mp (h x hx) with rfl | hV
      · simp at hne
      · exact hV)
    have h3 : (V.map fun x => ((row.filter fun y => !(y == v)).count x : Int)) = V.map fun x => (row.count x : Int) := List.map_congr_left fun x hx => by
      rw [List.count_filter]
      simp
      rintro rfl
      exact hv hx
    rw [h3] at h2
    rw [List.map_cons, List.sum_cons, h2]
    omega
/-- fits of one pair differ by one number -/
theorem Fit.const {as bs : List (List Nat)} {f g : Nat → Int} (ha : Arrs as) (hs : SameW as bs) (hf : Fit as bs f) (hg : Fit as bs g) : ∃ c, ∀ x ∈ as.flatten, g x = f x + c := by
  refine ⟨g (fst2 (as.head?.getD [])) - f (fst2 (as.head?.getD [])), ?_⟩
  have := ha.connA (fun x => g x = f x + (g (fst2 (as.head?.getD [])) - f (fst2 (as.head?.getD [])))) (by show g _ = f _ + (g _ - f _); omega) fun a b hl => by
    obtain ⟨i, hi⟩ := List.getElem?_of_mem hl
    have hlt : i < bs.length := by rw [← hs.len]; exact (List.getElem?_eq_some_iff.mp hi).1
    have e1 := hf i a b bs[i] hi (List.getElem?_eq_getElem hlt)
    have e2 := hg i a b bs[i] hi (List.getElem?_eq_getElem hlt)
    rw [← e2] at e1
    constructor
    · intro h
      have h : g a = f a + _ := h
      show g b = f b + _
      omega
    · intro h
      have h : g b = f b + _ := h
      show g a = f a + _
      omega
  exact this
theorem sum_le {f g : Nat → Int} : ∀ (V : List Nat), (∀ x ∈ V, f x ≤ g x) → (V.map f).sum ≤ (V.map g).sum
  | [], _ => by simp
  | x :: V, h => by
    have h1 := sum_le V fun y hy => h y (List.mem_cons_of_mem _ hy)
    have h2 := h x List.mem_cons_self
    simp
    omega
structure LenOk (as bs : List (List Nat)) (n : Nat) : Prop where
  row : ∃ row, Row as row bs ∧ row.length = n
  least : ∀ row, Row as row bs → n ≤ row.length
theorem fit_len {as bs : List (List Nat)} {f : Nat → Int} (ha : Arrs as) (hb : Two bs) (hs : SameW as bs) (hf : Fit as bs f) (h0 : ∀ p ∈ as.flatten, 0 ≤ f p) (hz : ∃ p ∈ as.flatten, f p = 0) : ∃ n : Nat, ((us as.flatten).map f).sum = (n : Int) ∧ LenOk as bs n := by
  obtain ⟨row, hr, hc⟩ := fit_row ha hb hs hf h0
  have hn : (us as.flatten).Nodup := (us_sorted _).imp fun h => Nat.ne_of_lt h
  have hsum : ((us as.flatten).map f).sum = (row.length : Int) := by
    rw [← len_counts (us as.flatten) row hn fun x hx => mem_us.mpr (row_in_flat hr x hx)]
    congr 1
    exact List.map_congr_left fun x hx => (hc x (mem_us.mp hx)).symm
  refine ⟨row.length, hsum, ⟨row, hr, rfl⟩, fun row' hr' => ?_⟩
  obtain ⟨_, _, _, hg⟩ := hr'.facts ha.two ha.rk
  obtain ⟨c, hcc⟩ := hf.const ha hs hg
  obtain ⟨p, hp, hp0⟩ := hz
  have hc0 := hcc p hp
  have hc0 : (row'.count p : Int) = f p + c := hc0
  have hle := sum_le (f := f) (g := fun x => (row'.count x : Int)) (us as.flatten) fun x hx => by
    have := hcc x (mem_us.mp hx)
    have this : (row'.count x : Int) = f x + c := this
    show f x ≤ (row'.count x : Int)
    omega
  rw [len_counts (us as.flatten) row' hn fun x hx => mem_us.mpr (row_in_flat hr' x hx), hsum] at hle
  omega
def sLength (Cy : Addr) : PSp := fun ds Q => ∃ as bs, ds = [wayD Cy as, wayD Cy bs] ∧ Arrs as ∧ Arrs bs ∧ (¬ Reach as bs → Q .non) ∧ (∀ n : Nat, LenOk as bs n → Q (.int n))
def sBoth (Cy : Addr) : PSp := fun ds Q => ∃ as bs, ds = [wayD Cy as, wayD Cy bs] ∧ Q .non
def sLike (Cy : Addr) : PSp := fun ds Q => ∃ as bs, ds = [wayD Cy as, wayD Cy bs] ∧ Arrs as ∧ Arrs bs ∧ (Reach as bs → Q (.bl true)) ∧ (¬ Reach as bs → Q (.bl false))
end Pdl
namespace Pdl
open PySem L2 PyProof.Rows
theorem FarOk.eq {as : List (List Nat)} {fd : LvL} {e : List (List Nat) × Nat} {n : Nat} (h : LevOk as fd) (he : e ∈ fd) (hm : ∀ e' ∈ fd, e'.2 ≤ e.2) (hf : FarOk as n) : n = e.2 := by
  obtain ⟨b, ⟨row, h1, h2⟩, h3⟩ := hf.some
  have hb := (h.mem b).mpr ⟨row, h1⟩
  obtain ⟨e', he', rfl⟩ := List.mem_map.mp hb
  obtain ⟨row', h4, h5⟩ := h.row e' he'
  have h6 := h.least e' he' row h1
  have h7 := h3 row' h4
  have h8 := hm e' he'
  obtain ⟨r1, h9, h10⟩ := hf.all e.1 ((h.mem e.1).mp (List.mem_map_of_mem he))
  have h11 := h.least e he r1 h9
  omega
theorem LenOk.eq {as : List (List Nat)} {fd : LvL} {e : List (List Nat) × Nat} {n : Nat} (h : LevOk as fd) (he : e ∈ fd) (hf : LenOk as e.1 n) : n = e.2 := by
  obtain ⟨row, h1, h2⟩ := hf.row
  obtain ⟨row', h3, h4⟩ := h.row e he
  have := h.least e he row h1
  have := hf.least row' h3
  omega
end Pdl
namespace Pdl
open PySem L2 PyProof.Rows
theorem Row.nil_eq {as bs : List (List Nat)} (h : Row as [] bs) : as = bs := by
  generalize e : ([] : List Nat) = r at h
  cases h with
  | nil => rfl
  | cons => cases e
theorem turn_ne {as : List (List Nat)} {p : Nat} (ha : Arrs as) (hp : p ∈ as.flatten) (hg : Gives as p) : exch as p ≠ as := fun e => by
  obtain ⟨l, hl, hpl⟩ := List.mem_flatten.mp hp
  obtain ⟨a, b, rfl⟩ := ha.two l hl
  have ht := exch_takes ha.two hg
  rw [e] at ht
  rcases List.mem_cons.mp hpl with rfl | h
  · exact ht b hl
  · rw [List.mem_singleton.mp h] at hg
    exact hg a hl
theorem FarOk.pos {as : List (List Nat)} {n : Nat} (ha : Arrs as) (hf : FarOk as n) : 1 ≤ n := by
  obtain ⟨p, hp⟩ := List.exists_mem_of_ne_nil _ (heads_ne ha)
  obtain ⟨h1, h2⟩ := (mem_heads ha.two).mp hp
  obtain ⟨row, hr, hl⟩ := hf.all (exch as p) ⟨[p], .cons h1 h2 .nil⟩
  rcases Nat.eq_zero_or_pos n with rfl | h
  · obtain rfl := List.length_eq_zero_iff.mp (Nat.le_zero.mp hl)
    exact absurd hr.nil_eq.symm (turn_ne ha h1 h2)
  · exact h
theorem short_row {as bs : List (List Nat)} (ha : Arrs as) (h : Reach as bs) : ∃ row, Row as row bs ∧ row.length ≤ 42 := by
  obtain ⟨r0, hr0⟩ := h
  obtain ⟨hb, _, hs, hf⟩ := hr0.facts ha.two ha.rk
  obtain ⟨g, hg, h0, p, hp, hz⟩ := hf.least ha
  obtain ⟨row, hr, hc⟩ := fit_row ha hb hs hg h0
  refine ⟨row, hr, alone_bound ha hr hp fun hm => ?_⟩
  have := hc p hp
  rw [hz] at this
  have := List.count_pos_iff.mpr hm
  omega
theorem FarOk.few {as : List (List Nat)} {n : Nat} (ha : Arrs as) (hf : FarOk as n) : n ≤ 42 := by
  obtain ⟨b, ⟨row, h1, _⟩, h3⟩ := hf.some
  obtain ⟨r, hr, hl⟩ := short_row ha ⟨row, h1⟩
  have := h3 r hr
  omega
theorem LevOk.few {as : List (List Nat)} {fd : LvL} {e : List (List Nat) × Nat} (ha : Arrs as) (h : LevOk as fd) (he : e ∈ fd) : e.2 ≤ 42 := by
  obtain ⟨r, hr, hl⟩ := short_row ha ((h.mem e.1).mp (List.mem_map_of_mem he))
  have := h.least e he r hr
  omega
theorem Reach.step {as bs : List (List Nat)} {p : Nat} (h : Reach as bs) (hp : p ∈ bs.flatten) (hg : Gives bs p) : Reach as (exch bs p) := let ⟨r, hr⟩ := h; ⟨_, hr.snoc hp hg⟩
theorem Reach.arrs {as bs : List (List Nat)} (ha : Arrs as) (h : Reach as bs) : Arrs bs := let ⟨_, hr⟩ := h; hr.arrs ha
end Pdl
namespace Pdl
open PySem L2 PyProof.Rows
def CmD (T : Wd) (C : Addr) (f : Str) (k : Nat) (S : SpD) : Prop :=
  ∃ (mc : Value) (p g : Addr) (fd : FuncData) (ps : List Str), ClX.CRead T.K C mc ∧ ClX.CMet T.K C mc f p g ∧ FnOk T.P T.w T.K T.mg T.base CX0 k g fd ps (spD T.K S) ∧ Binds T.K fd ps []
/-- the class itself stands ahead -/
abbrev Cm (T : Wd) (C : Addr) (f : Str) (k : Nat) (S : PSp) : Prop := CmD T C f k (pS S)
section
variable {X : Cx} {μ : Md} {Γ Γ' : En} {Q : QE} {a b c e o : Expr} {es : List Expr} {pos apos cpos : Pos} {P P' : Po} {st : Stmt} {sts : List Stmt} {m : Addr → Bool} {H : Hp} {K : PySem.W.Frag} {x y d : D}
theorem xe_cmeth {pl : Sem Bool} {k : Nat} {C : Addr} {f : Str} {S : SpD} (M : CmD (wdX X) C f k S) (hr : Room k X.A) (h : XE X μ o Γ fun z Γ1 => z = .ref C ∧ XA X μ (e :: es) Γ1 fun ds Γ2 => Asks μ S Q (.ref C :: ds) Γ2)
    (hst : starEach (e :: es) X.env = (false, eval e X.env) :: starEach es X.env := by rfl) (hpl : (backTo pos (starEach es X.env)).any (·.1) = false := by rfl)
    (ht : eval (.Call (.Attribute o f apos) (e :: es) [] pos) X.env = (do
      let ov ← eval o X.env
      standAt apos.atName
      let (f, first) ← holding [ov] (getMethod ov f pl)
      callWith pos f first (backTo pos (starEach (e :: es) X.env)) (backToKw pos (keywordEach [] X.env))) := by rfl) : XE X μ (.Call (.Attribute o f apos) (e :: es) [] pos) Γ Q := by
  obtain ⟨mc, p, g, fd, ps, cr, cm, F, bd⟩ := M
  refine PE.imp pe_u fun σ H q ⟨R, k⟩ => ⟨_, ClX.pe_cmeth (E := wD X.K μ σ) h cr cm (F.raw bd .nil) hr pass0' pa_u hst hpl ht, R, fun v H1 z Γ1 s1 f1 R1 r1 ⟨hz, hs⟩ => ?_⟩
  subst hz
  cases r1
  refine ⟨rfl, _, hs, R1, fun vs H2 ds Γ2 s2 f2 R2 r2 ha => ?_⟩
  show spD X.K S ((.ref C :: vs) ++ []) H2 q (wD X.K μ σ)
  rw [List.append_nil]
  exact asks_sp R2 (.cons (.ref C) r2) ha fun v H3 d Γ3 s3 f3 R3 r3 hq => k v H3 d Γ3 ((s3.trans s2).trans s1) ((f1.trans f2).trans f3) R3 r3 hq
theorem xe_cm {pl : Sem Bool} {k n : Nat} {C : Addr} {f : Str} {S : PSp} (M : Cm (wdX X) C f k S) (hr : Room n X.A) (hkn : k ≤ n) (h : XE X μ o Γ fun z Γ1 => z = .ref C ∧ XA X μ (e :: es) Γ1 fun ds Γ2 => ∀ Qc : D → Prop, (∀ d, Q d Γ2 → Qc d) → S (.ref C :: ds) Qc)
    (hst : starEach (e :: es) X.env = (false, eval e X.env) :: starEach es X.env := by rfl) (hpl : (backTo pos (starEach es X.env)).any (·.1) = false := by rfl)
    (ht : eval (.Call (.Attribute o f apos) (e :: es) [] pos) X.env = (do
      let ov ← eval o X.env
      standAt apos.atName
      let (f, first) ← holding [ov] (getMethod ov f pl)
      callWith pos f first (backTo pos (starEach (e :: es) X.env)) (backToKw pos (keywordEach [] X.env))) := by rfl) : XE X μ (.Call (.Attribute o f apos) (e :: es) [] pos) Γ Q := by
  refine xe_cmeth M (hr.mono hkn) (h.imp ?_) hst hpl ht
  rintro z Γ1 ⟨h1, h2⟩
  exact ⟨h1, PA.imp h2 fun σ H q ⟨R, k⟩ => ⟨R, fun vs H' ds Γ' s f R' r z => k vs H' ds Γ' s f R' r (asks_p z)⟩⟩
end
end Pdl
namespace Pdl
open PySem L2 PyProof.Rows
def txt (l : List (List Nat)) : List Nat := TL.joinL [32] l
def texts (L : List (List (List Nat))) : List (List Nat) := srt (L.map txt)
theorem srt_same {l m : List (List Nat)} (h : l.Perm m) : srt l = srt m := srt_eq (srt_sorted m) ((srt_perm m).trans h.symm)
theorem texts_same {L M : List (List (List Nat))} (h1 : L.Nodup) (h2 : M.Nodup) (h : ∀ b, b ∈ L ↔ b ∈ M) : texts L = texts M := srt_same (((List.perm_ext_iff_of_nodup h1 h2).mpr h).map _)
theorem spl_txt {as : List (List Nat)} (ha : Arrs as) : TL.spl [32] 0 [] (txt as) = as := TL.spl_join ha.ne fun p hp h => by
  obtain ⟨a, b, rfl, h1, h2, _⟩ := ha.pr p hp
  simp at h
  omega
theorem txt_inj {as bs : List (List Nat)} (ha : Arrs as) (hb : Arrs bs) (h : txt as = txt bs) : as = bs := by rw [← spl_txt ha, h, spl_txt hb]
theorem two_flat : ∀ {ls : List (List Nat)}, Two ls → ls.flatten.length = 2 * ls.length
  | [], _ => rfl
  | l :: ls, h => by
    obtain ⟨a, b, rfl⟩ := h l List.mem_cons_self
    rw [List.flatten_cons, List.length_append, two_flat fun x hx => h x (List.mem_cons_of_mem _ hx)]
    simp
    omega
theorem Arrs.flat {as : List (List Nat)} (ha : Arrs as) : as.flatten.length ≤ 20 := by rw [two_flat ha.two]; have := ha.len; omega
theorem mem_texts {L : List (List (List Nat))} {t : List Nat} : t ∈ texts L ↔ ∃ l ∈ L, txt l = t := by
  unfold texts
  rw [mem_srt, List.mem_map]
/-- just the ways that are like one -/
structure IsCls (as : List (List Nat)) (L : List (List (List Nat))) : Prop where
  nd : L.Nodup
  mem : ∀ b, b ∈ L ↔ Reach as b
theorem IsCls.eq {as : List (List Nat)} {L M : List (List (List Nat))} (h1 : IsCls as L) (h2 : IsCls as M) : texts L = texts M := texts_same h1.nd h2.nd fun b => (h1.mem b).trans (h2.mem b).symm
theorem IsCls.arrs {as : List (List Nat)} {L : List (List (List Nat))} (ha : Arrs as) (h : IsCls as L) : ∀ l ∈ L, Arrs l := fun l hl => ((h.mem l).mp hl).arrs ha
theorem IsCls.few {as : List (List Nat)} {L : List (List (List Nat))} (ha : Arrs as) (h : IsCls as L) : L.length ≤ 1024 := reach_few ha h.nd fun b hb => (h.mem b).mp hb
theorem IsCls.of {as bs : List (List Nat)} {L : List (List (List Nat))} (ha : Arrs as) (h : IsCls as L) (hr : Reach as bs) : IsCls bs L := ⟨h.nd, fun b => (h.mem b).trans ⟨fun z => (hr.symm ha).trans z, fun z => hr.trans z⟩⟩
theorem LevOk.cls {as : List (List Nat)} {fd : LvL} (h : LevOk as fd) : IsCls as (lvK fd) := ⟨h.nd, h.mem⟩
theorem LvsOk.cls {as : List (List Nat)} {Ls : List (List (List (List Nat)))} (h : LvsOk as Ls) : IsCls as Ls.flatten := ⟨h.nd, h.mem⟩
end Pdl
namespace Pdl
open PySem L2 PyProof.Rows
theorem fm_filter {α : Type} (q : α → Bool) (l : List α) : (l.filterMap fun a => if q a = true then some a else none) = l.filter q := by
  rw [← List.filterMap_eq_filter]
  refine congrArg (fun f => List.filterMap f l) (funext fun l => ?_)
  simp only [Option.guard]
theorem fold_nodup : ∀ (ls : List (List Nat)) (F : List (List (List Nat))), (∀ d ∈ ls, d ≠ d.reverse) → F.Nodup → (ls.foldl stepQ F).Nodup
  | [], _, _, h => h
  | d :: ls, F, hd, h => by
    refine fold_nodup ls _ (fun x hx => hd x (List.mem_cons_of_mem _ hx)) ?_
    have inj : ∀ c : List Nat, (F.map fun l => l ++ [c]).Nodup := fun c => List.Pairwise.map _ (fun a b hne e => hne (List.append_cancel_right e)) h
    refine List.nodup_append.mpr ⟨inj d, inj d.reverse, fun a ha b hb e => ?_⟩
    obtain ⟨x, _, rfl⟩ := List.mem_map.mp ha
    obtain ⟨y, _, rfl⟩ := List.mem_map.mp hb
    have := (List.append_inj' e rfl).2
    simp at this
    exact hd d List.mem_cons_self this
theorem flows_nodup {ls : List (List Nat)} (h : Ties ls) : (flows ls).Nodup := by
  refine (srtE_perm tS _).nodup_iff.mpr ((fold_nodup ls [[]] (fun d hd e => ?_) (by simp)).filter _)
  obtain ⟨a, b, rfl, _, _, hab⟩ := h.pr d hd
  simp at e
  omega
def lone (ls : List (List Nat)) (p : Nat) : List (List (List Nat)) := (flows ls).filter fun l => decide (heads l = [p])
theorem mem_lone {ls b : List (List Nat)} {p : Nat} (h : Ties ls) : b ∈ lone ls p ↔ Arrs b ∧ b.map pr2 = ls ∧ heads b = [p] := by
  unfold lone
  rw [List.mem_filter, mem_flows h, decide_eq_true_iff, and_assoc]
theorem lone_nodup {ls : List (List Nat)} {p : Nat} (h : Ties ls) : (lone ls p).Nodup := (flows_nodup h).filter _
theorem lone_len (ls : List (List Nat)) (h : ls.length ≤ 10) (p : Nat) : (lone ls p).length ≤ 1024 := Nat.le_trans (List.length_filter_le _ _) (flows_len h)
theorem Reach.pr2 {as bs : List (List Nat)} (ha : Arrs as) (h : Reach as bs) : as.map Pdl.pr2 = bs.map Pdl.pr2 := let ⟨_, hr⟩ := h; (hr.facts ha.two ha.rk).2.2.1
theorem mem_flat_of {ls b : List (List Nat)} {p : Nat} (hb : Arrs b) (e : b.map pr2 = ls) : p ∈ b.flatten ↔ p ∈ ls.flatten := by rw [← e, mem_pr2_flat hb.two]
theorem lone_like {ls as bs : List (List Nat)} {p : Nat} (h : Ties ls) (ha : as ∈ lone ls p) (hb : bs ∈ lone ls p) : Reach as bs ↔ as = bs := by
  obtain ⟨h1, h2, h3⟩ := (mem_lone h).mp ha
  obtain ⟨g1, g2, g3⟩ := (mem_lone h).mp hb
  exact ⟨fun r => alone_eq h1 r h3 g3, fun e => e ▸ .refl as⟩
theorem lone_arrs {ls : List (List Nat)} {p : Nat} (h : Ties ls) : ∀ l ∈ lone ls p, Arrs l := fun l hl => ((mem_lone h).mp hl).1
theorem flows_arrs {ls : List (List Nat)} (h : Ties ls) : ∀ l ∈ flows ls, Arrs l := fun l hl => ((mem_flows h).mp hl).1
theorem us_ne {ls : List (List Nat)} (h : Ties ls) : ∃ p r, us ls.flatten = p :: r := by
  cases e : us ls.flatten with
  | cons p r => exact ⟨p, r, rfl⟩
  | nil =>
    obtain ⟨l, hl⟩ := List.exists_mem_of_ne_nil _ h.ne
    obtain ⟨a, b, rfl⟩ := h.two l hl
    have : a ∈ us ls.flatten := mem_us.mpr (List.mem_flatten.mpr ⟨_, hl, by simp⟩)
    rw [e] at this
    cases this
end Pdl
namespace Pdl
open PySem L2 PyProof.Rows
open Classical in
noncomputable def clsF (as : List (List Nat)) : List (List (List Nat)) := (flows (as.map pr2)).filter fun b => decide (Reach as b)
open Classical in
theorem clsF_ok {as : List (List Nat)} (ha : Arrs as) : IsCls as (clsF as) := by
  refine ⟨(flows_nodup ha.ties).filter _, fun b => ?_⟩
  unfold clsF
  rw [List.mem_filter, mem_flows ha.ties, decide_eq_true_iff]
  exact ⟨fun h => h.2, fun h => ⟨⟨h.arrs ha, (h.pr2 ha).symm⟩, h⟩⟩
noncomputable def ct (as : List (List Nat)) : List (List Nat) := texts (clsF as)
theorem IsCls.ct {as : List (List Nat)} {L : List (List (List Nat))} (ha : Arrs as) (h : IsCls as L) : texts L = ct as := h.eq (clsF_ok ha)
theorem mem_ct {as : List (List Nat)} {t : List Nat} (ha : Arrs as) : t ∈ ct as ↔ ∃ b, Reach as b ∧ txt b = t := by
  unfold ct
  rw [mem_texts]
  exact ⟨fun ⟨b, h, e⟩ => ⟨b, ((clsF_ok ha).mem b).mp h, e⟩, fun ⟨b, h, e⟩ => ⟨b, ((clsF_ok ha).mem b).mpr h, e⟩⟩
theorem ct_reach {as bs : List (List Nat)} (ha : Arrs as) (h : Reach as bs) : ct as = ct bs := ((clsF_ok ha).of ha h).ct (h.arrs ha)
theorem ct_eq {as bs : List (List Nat)} (ha : Arrs as) (hb : Arrs bs) : ct as = ct bs ↔ Reach as bs := by
  refine ⟨fun e => ?_, ct_reach ha⟩
  have h1 : txt as ∈ ct bs := e ▸ (mem_ct ha).mpr ⟨as, .refl as, rfl⟩
  obtain ⟨c, hc, e2⟩ := (mem_ct hb).mp h1
  obtain rfl := txt_inj (hc.arrs hb) ha e2
  exact hc.symm hb
theorem ct_nodup {as : List (List Nat)} (ha : Arrs as) : (ct as).Nodup := by
  refine (srt_perm _).nodup_iff.mpr (List.pairwise_map.mpr ((clsF_ok ha).nd.imp_of_mem fun {a b} h1 h2 hne e => hne ?_))
  exact txt_inj ((clsF_ok ha).arrs ha a h1) ((clsF_ok ha).arrs ha b h2) e
/-- all classes of ties, each once -/
structure IsClss (ls : List (List Nat)) (C : List (List (List Nat))) : Prop where
  nd : C.Nodup
  mem : ∀ t, t ∈ C ↔ ∃ as ∈ flows ls, t = ct as
theorem IsClss.perm {ls : List (List Nat)} {C D : List (List (List Nat))} (h1 : IsClss ls C) (h2 : IsClss ls D) : C.Perm D := (List.perm_ext_iff_of_nodup h1.nd h2.nd).mpr fun t => (h1.mem t).trans (h2.mem t).symm
theorem IsClss.eq {ls : List (List Nat)} {C D : List (List (List Nat))} (h1 : IsClss ls C) (h2 : IsClss ls D) : srtE tS C = srtE tS D := srtE_same (kinj_tS _) (h1.perm h2)
theorem lone_clss {ls : List (List Nat)} {p : Nat} (h : Ties ls) (hp : p ∈ ls.flatten) : IsClss ls ((lone ls p).map ct) := by
  refine ⟨List.pairwise_map.mpr ((lone_nodup h).imp_of_mem fun {a b} h1 h2 hne e => hne ((lone_like h h1 h2).mp ((ct_eq (lone_arrs h a h1) (lone_arrs h b h2)).mp e))), fun t => ?_⟩
  rw [List.mem_map]
  constructor
  · rintro ⟨a, ha, rfl⟩
    exact ⟨a, (List.mem_filter.mp ha).1, rfl⟩
  · rintro ⟨a, ha, rfl⟩
    obtain ⟨h1, h2⟩ := (mem_flows h).mp ha
    obtain ⟨b, hb, hh⟩ := alone_ex h1 ((mem_flat_of h1 h2).mpr hp)
    exact ⟨b, (mem_lone h).mpr ⟨hb.arrs h1, by rw [← hb.pr2 h1, h2], hh⟩, (ct_reach h1 hb).symm⟩
theorem IsClss.len {ls : List (List Nat)} {C : List (List (List Nat))} {p : Nat} (h : IsClss ls C) (ht : Ties ls) (hp : p ∈ ls.flatten) : C.length = (lone ls p).length := by
  rw [(h.perm (lone_clss ht hp)).length_eq, List.length_map]
theorem IsClss.few {ls : List (List Nat)} {C : List (List (List Nat))} (h : IsClss ls C) (ht : Ties ls) : C.length ≤ 1024 := by
  obtain ⟨p, r, hu⟩ := us_ne ht
  rw [h.len ht (mem_us.mp (by rw [hu]; simp) : p ∈ ls.flatten)]
  exact lone_len ls ht.len p
theorem IsClss.flat {ls : List (List Nat)} {C : List (List (List Nat))} (h : IsClss ls C) (ht : Ties ls) : C.flatten.Perm ((flows ls).map txt) := by
  have hfa := flows_arrs ht
  refine (List.perm_ext_iff_of_nodup ?_ ?_).mpr fun t => ?_
  · refine List.pairwise_flatten.mpr ⟨fun t htc => ?_, ?_⟩
    · obtain ⟨a, ha, rfl⟩ := (h.mem t).mp htc
      exact ct_nodup (hfa a ha)
    · refine h.nd.imp_of_mem fun {s t} hs ht' hne x hx y hy e => hne ?_
      subst e
      obtain ⟨a, ha, rfl⟩ := (h.mem s).mp hs
      obtain ⟨b, hb, rfl⟩ := (h.mem t).mp ht'
      obtain ⟨c, hc, e1⟩ := (mem_ct (hfa a ha)).mp hx
      obtain ⟨d, hd, e2⟩ := (mem_ct (hfa b hb)).mp hy
      obtain rfl := txt_inj (hc.arrs (hfa a ha)) (hd.arrs (hfa b hb)) (e1.trans e2.symm)
      exact (ct_eq (hfa a ha) (hfa b hb)).mpr (hc.trans (hd.symm (hfa b hb)))
  · exact List.pairwise_map.mpr ((flows_nodup ht).imp_of_mem fun {a b} h1 h2 hne e => hne (txt_inj (hfa a h1) (hfa b h2) e))
  · rw [List.mem_flatten, List.mem_map]
    constructor
    · rintro ⟨s, hs, hts⟩
      obtain ⟨a, ha, rfl⟩ := (h.mem s).mp hs
      obtain ⟨c, hc, e1⟩ := (mem_ct (hfa a ha)).mp hts
      obtain ⟨h1, h2⟩ := (mem_flows ht).mp ha
      exact ⟨c, (mem_flows ht).mpr ⟨hc.arrs h1, by rw [← hc.pr2 h1, h2]⟩, e1⟩
    · rintro ⟨a, ha, rfl⟩
      exact ⟨ct a, (h.mem _).mpr ⟨a, ha, rfl⟩, (mem_ct (hfa a ha)).mpr ⟨a, .refl a, rfl⟩⟩
structure ClsI (fl : List (List (List Nat))) (j : Nat) (K F : List (List (List Nat))) : Prop where
  knd : K.Nodup
  kmem : ∀ b, b ∈ K ↔ ∃ as ∈ fl.take j, Reach as b
  fnd : F.Nodup
  fmem : ∀ t, t ∈ F ↔ ∃ as ∈ fl.take j, t = ct as
theorem ClsI.off {fl : List (List (List Nat))} {j : Nat} {K F L : List (List (List Nat))} {a : List (List Nat)} (hfa : ∀ l ∈ fl, Arrs l) (h : ClsI fl j K F) (ha : Arrs a) (hk : a ∉ K) (hL : IsCls a L) : (K ++ L).Nodup := by
  refine List.nodup_append.mpr ⟨h.knd, hL.nd, fun x hx y hy e => ?_⟩
  subst e
  obtain ⟨c, hc, hr⟩ := (h.kmem x).mp hx
  have h2 := (hL.mem x).mp hy
  exact hk ((h.kmem a).mpr ⟨c, hc, hr.trans (h2.symm ha)⟩)
theorem ClsI.new {fl : List (List (List Nat))} {j : Nat} {K F L : List (List (List Nat))} {a : List (List Nat)} (hfa : ∀ l ∈ fl, Arrs l) (h : ClsI fl j K F) (ha : fl[j]? = some a) (hk : a ∉ K) (hL : IsCls a L) : ClsI fl (j + 1) (K ++ L) (F ++ [ct a]) := by
  have et : fl.take (j + 1) = fl.take j ++ [a] := by rw [List.take_add_one, ha]; rfl
  have haa := hfa a (List.mem_of_getElem? ha)
  refine ⟨h.off hfa haa hk hL, fun b => ?_, ?_, fun t => ?_⟩
  · rw [List.mem_append, h.kmem, et, hL.mem]
    constructor
    · rintro (⟨x, hx, z⟩ | z)
      · exact ⟨x, List.mem_append_left _ hx, z⟩
      · exact ⟨a, by simp, z⟩
    · rintro ⟨x, hx, z⟩
      rcases List.mem_append.mp hx with hx | hx
      · exact .inl ⟨x, hx, z⟩
      · obtain rfl := List.mem_singleton.mp hx
        exact .inr z
  · refine List.nodup_append.mpr ⟨h.fnd, by simp, fun x hx y hy e => ?_⟩
    subst e
    have hy := List.mem_singleton.mp hy
    obtain ⟨c, hc, e⟩ := (h.fmem x).mp hx
    refine hk ((h.kmem a).mpr ⟨c, hc, (ct_eq (hfa c (List.mem_of_mem_take hc)) haa).mp (e.symm.trans hy)⟩)
  · rw [List.mem_append, h.fmem, et, List.mem_singleton]
    constructor
    · rintro (⟨x, hx, z⟩ | z)
      · exact ⟨x, List.mem_append_left _ hx, z⟩
      · exact ⟨a, by simp, z⟩
    · rintro ⟨x, hx, z⟩
      rcases List.mem_append.mp hx with hx | hx
      · exact .inl ⟨x, hx, z⟩
      · obtain rfl := List.mem_singleton.mp hx
        exact .inr z
end Pdl
namespace PySem
end PySem
namespace Pdl
open PySem L2 PyProof.Rows
end Pdl
namespace Pdl
open PySem L2 PyProof.Rows
structure HintsOf (as hs : List (List Nat)) : Prop where
  len : hs.length = as.length
  each : ∀ (i : Nat) (a h : List Nat), as[i]? = some a → hs[i]? = some h → h = a ∨ h = a.reverse ∨ h = [63]
theorem pr2_or {l : List Nat} (h : ∃ a b, l = [a, b]) : pr2 l = l ∨ pr2 l = l.reverse := by
  obtain ⟨a, b, rfl⟩ := h
  by_cases h : b < a
  · exact .inr (show (if b < a then [b, a] else [a, b]) = [b, a] by rw [if_pos h])
  · exact .inl (show (if b < a then [b, a] else [a, b]) = [a, b] by rw [if_neg h])
theorem HintsOf.ties {ls as hs : List (List Nat)} (ha : Arrs as) (e : as.map pr2 = ls) (h : HintsOf as hs) : HintsOf ls hs := by
  subst e
  refine ⟨by rw [h.len, List.length_map], fun i t x h1 h2 => ?_⟩
  rw [List.getElem?_map] at h1
  obtain ⟨a, ha1, rfl⟩ := Option.map_eq_some_iff.mp h1
  have h3 := h.each i a x ha1 h2
  rcases pr2_or (ha.two a (List.mem_of_getElem? ha1)) with e | e
  · rw [e]; exact h3
  · rw [e]
    rcases h3 with h3 | h3 | h3
    · exact .inr (.inl (by rw [h3]; simp))
    · exact .inl h3
    · exact .inr (.inr h3)
theorem HintsOf.refl (as : List (List Nat)) : HintsOf as as := ⟨rfl, fun i a h h1 h2 => .inl (by rw [h1] at h2; exact (Option.some.inj h2).symm)⟩
theorem HintsOf.lw {ls hs : List (List Nat)} (ht : Lw ls) (h : HintsOf ls hs) : Lw hs := fun x hx c hc => by
  obtain ⟨i, hi⟩ := List.getElem?_of_mem hx
  have hlt : i < ls.length := by rw [← h.len]; exact (List.getElem?_eq_some_iff.mp hi).1
  rcases h.each i ls[i] x (List.getElem?_eq_getElem hlt) hi with e | e | e
  · exact ht ls[i] (List.getElem_mem hlt) c (e ▸ hc)
  · exact ht ls[i] (List.getElem_mem hlt) c (by rw [e] at hc; simpa using hc)
  · rw [e] at hc
    simp at hc
    omega
end Pdl
namespace Pdl
open PySem L2 PyProof.Rows
theorem Ties.arrs {ls : List (List Nat)} (h : Ties ls) : Arrs ls := ⟨h.two, by rw [h.pr2s]; exact h, fun x => x, fun a b hl => by
  obtain ⟨a', b', e, _, hab, _⟩ := h.pr _ hl
  cases e
  exact hab⟩
end Pdl
namespace Pdl
open PySem L2 PyProof.Rows
end Pdl
namespace Pdl
open PySem L2 PyProof.Rows
end Pdl
namespace Pdl
open PySem L2 PyProof.Rows
theorem lay_of {row : List Nat} {a b : Nat} (h : idx row a < idx row b) : lay row (pr2 [a, b]) = [a, b] := by
  by_cases hb : b < a
  · have e : pr2 [a, b] = [b, a] := (show (if b < a then [b, a] else [a, b]) = [b, a] from if_pos hb)
    rw [e]
    show (if idx row b < idx row a then [b, a] else [a, b]) = [a, b]
    rw [if_neg (by omega)]
  · have e : pr2 [a, b] = [a, b] := (show (if b < a then [b, a] else [a, b]) = [a, b] from if_neg hb)
    rw [e]
    show (if idx row a < idx row b then [a, b] else [b, a]) = [a, b]
    rw [if_pos h]
theorem lay_idx {ls : List (List Nat)} {row : List Nat} {a b : Nat} (h : Ties ls) (ho : ∀ x ∈ ls.flatten, x ∈ row) (hm : [a, b] ∈ ls.map (lay row)) : idx row a < idx row b := by
  obtain ⟨t, ht, e⟩ := List.mem_map.mp hm
  obtain ⟨x, y, rfl, _, hxy, _⟩ := h.pr t ht
  have hx : x ∈ row := ho x (List.mem_flatten.mpr ⟨_, ht, by simp⟩)
  have hy : y ∈ row := ho y (List.mem_flatten.mpr ⟨_, ht, by simp⟩)
  have hne := idx_ne hx hy (by omega)
  have e : (if idx row x < idx row y then [x, y] else [y, x]) = [a, b] := e
  split at e
  · cases e; assumption
  · cases e; omega
end Pdl
namespace Pdl
open PySem L2 PyProof.Rows
end Pdl
namespace Pdl
open PySem L2 PyProof.Rows
def sGives' : PSp := fun ds Q => ∃ as p, ds = [.tup (SL as), .str (S [p])] ∧ Two as ∧ as.length ≤ 500 ∧ Lw as ∧ Q (.bl (givesB as p))
def sJties : PSp := fun ds Q => ∃ n : Nat, ds = [.int (n : Int)] ∧ 2 ≤ n ∧ n ≤ 7 ∧ ∀ l ls, NetOk n l ls → Q (.tup [.tup (SL ls), .str (S l)])
def sJlaid : PSp := fun ds Q => ∃ ls l, ds = [.tup (SL ls), .str (S l)] ∧ Ties ls ∧ us ls.flatten = l ∧ ∀ o : List Nat, o.Perm l → Q (.tup (SL (ls.map (lay o))))
def sWalk : PSp := fun ds Q => ∃ as n, ds = [.tup (SL as), .int ((n : Nat) : Int)] ∧ Arrs as ∧ n ≤ 100 ∧ ∀ row bs, Row as row bs → row.length ≤ n → Q (.tup [.str (S row), .tup (SL bs)])
end Pdl
namespace Pdl
open PySem L2 PyProof.Rows
def Adj (ls : List (List Nat)) (a b : Nat) : Prop := pr2 [a, b] ∈ ls
instance (ls : List (List Nat)) (a b : Nat) : Decidable (Adj ls a b) := inferInstanceAs (Decidable (_ ∈ _))
theorem Adj.symm {ls : List (List Nat)} {a b : Nat} (h : Adj ls a b) : Adj ls b a := by
  unfold Adj at *
  rw [pr2_comm]
  exact h
def hd (r : List Nat) : Nat := r.head?.getD 0
def lst (r : List Nat) : Nat := r.getLast?.getD 0
theorem hd_cons {a : Nat} {t : List Nat} : hd (a :: t) = a := rfl
theorem lst_cons {a b : Nat} {t : List Nat} : lst (a :: b :: t) = lst (b :: t) := by
  unfold lst
  rw [List.getLast?_cons_cons]
theorem lst_snoc {a : Nat} {t : List Nat} : lst (t ++ [a]) = a := by
  unfold lst
  rw [List.getLast?_concat]
  rfl
theorem lst_app {t s : List Nat} (h : s ≠ []) : lst (t ++ s) = lst s := by
  unfold lst
  rw [List.getLast?_append, List.getLast?_eq_some_getLast h]
  rfl
theorem hd_app {t s : List Nat} (h : t ≠ []) : hd (t ++ s) = hd t := by
  cases t with
  | nil => exact absurd rfl h
  | cons a t => rfl
theorem lst_mem {r : List Nat} (h : r ≠ []) : lst r ∈ r := by
  unfold lst
  rw [List.getLast?_eq_some_getLast h]
  exact List.getLast_mem h
theorem hd_mem {r : List Nat} (h : r ≠ []) : hd r ∈ r := by
  cases r with
  | nil => exact absurd rfl h
  | cons a t => exact List.mem_cons_self
/-- neighbours stand side by side -/
def Chn (ls : List (List Nat)) : List Nat → Prop
  | a :: b :: t => Adj ls a b ∧ Chn ls (b :: t)
  | _ => True
theorem Chn.tail {ls : List (List Nat)} {a : Nat} {t : List Nat} (h : Chn ls (a :: t)) : Chn ls t := by
  cases t with
  | nil => trivial
  | cons b t => exact h.2
theorem chn_app {ls : List (List Nat)} : ∀ {s t : List Nat}, s ≠ [] → t ≠ [] → (Chn ls (s ++ t) ↔ Chn ls s ∧ Adj ls (lst s) (hd t) ∧ Chn ls t)
  | [], _, h, _ => absurd rfl h
  | [a], b :: t, _, _ => by
    show (Adj ls a b ∧ Chn ls (b :: t)) ↔ (True ∧ Adj ls a b ∧ Chn ls (b :: t))
    simp
  | a :: b :: s, t, _, ht => by
    have ih := chn_app (ls := ls) (s := b :: s) (t := t) (by simp) ht
    show (Adj ls a b ∧ Chn ls (b :: s ++ t)) ↔ ((Adj ls a b ∧ Chn ls (b :: s)) ∧ Adj ls (lst (a :: b :: s)) (hd t) ∧ Chn ls t)
    rw [lst_cons, ih]
    constructor
    · rintro ⟨h1, h2, h3, h4⟩
      exact ⟨⟨h1, h2⟩, h3, h4⟩
    · rintro ⟨⟨h1, h2⟩, h3, h4⟩
      exact ⟨h1, h2, h3, h4⟩
theorem Chn.mono {ls ms : List (List Nat)} (h : ∀ l ∈ ls, l ∈ ms) : ∀ {p : List Nat}, Chn ls p → Chn ms p
  | [], _ => trivial
  | [_], _ => trivial
  | a :: b :: t, c => ⟨h _ c.1, Chn.mono h (p := b :: t) c.2⟩
/-- a sum along a walk -/
def pth (g : Nat → Nat → Int) : List Nat → Int
  | a :: b :: t => g a b + pth g (b :: t)
  | _ => 0
theorem pth_app (g : Nat → Nat → Int) : ∀ {s t : List Nat}, s ≠ [] → t ≠ [] → pth g (s ++ t) = pth g s + g (lst s) (hd t) + pth g t
  | [], _, h, _ => absurd rfl h
  | [a], b :: t, _, _ => by
    show g a b + pth g (b :: t) = 0 + g a b + pth g (b :: t)
    omega
  | a :: b :: s, t, _, ht => by
    have ih := pth_app g (s := b :: s) (t := t) (by simp) ht
    show g a b + pth g (b :: s ++ t) = g a b + pth g (b :: s) + g (lst (a :: b :: s)) (hd t) + pth g t
    rw [lst_cons, ih]
    omega
/-- a sum round a ring -/
def rnd (g : Nat → Nat → Int) (r : List Nat) : Int := g (lst r) (hd r) + pth g r
theorem rnd_rot (g : Nat → Nat → Int) {s t : List Nat} (hs : s ≠ []) (ht : t ≠ []) : rnd g (s ++ t) = rnd g (t ++ s) := by
  unfold rnd
  rw [pth_app g hs ht, pth_app g ht hs, lst_app ht, lst_app hs, hd_app hs, hd_app ht]
  omega
theorem pth_rev {g : Nat → Nat → Int} {ls : List (List Nat)} (ha : ∀ a b, Adj ls a b → g b a = - g a b) : ∀ {p : List Nat}, Chn ls p → pth g p.reverse = - pth g p
  | [], _ => rfl
  | [_], _ => rfl
  | a :: b :: t, c => by
    have ih := pth_rev ha (p := b :: t) c.2
    have e : (a :: b :: t).reverse = (b :: t).reverse ++ [a] := by simp
    rw [e, pth_app g (by simp) (by simp), ih]
    have e2 : lst (b :: t).reverse = b := by
      rw [List.reverse_cons]
      exact lst_snoc
    rw [e2, hd_cons, ha a b c.1]
    show - pth g (b :: t) + - g a b + 0 = - (g a b + pth g (b :: t))
    omega
theorem lst_rev {p : List Nat} : lst p.reverse = hd p := by
  cases p with
  | nil => rfl
  | cons a t => rw [List.reverse_cons, lst_snoc]; rfl
theorem hd_rev {p : List Nat} : hd p.reverse = lst p := by
  have := lst_rev (p := p.reverse)
  rw [List.reverse_reverse] at this
  exact this.symm
theorem chn_rev {ls : List (List Nat)} : ∀ {p : List Nat}, Chn ls p → Chn ls p.reverse
  | [], _ => trivial
  | [_], _ => trivial
  | a :: b :: t, c => by
    have ih := chn_rev (p := b :: t) c.2
    have e : (a :: b :: t).reverse = (b :: t).reverse ++ [a] := by simp
    rw [e]
    refine (chn_app (by simp) (by simp)).mpr ⟨ih, ?_, trivial⟩
    rw [lst_rev]
    exact c.1.symm
structure Cyc (ls : List (List Nat)) (r : List Nat) : Prop where
  len : 3 ≤ r.length
  nd : r.Nodup
  chn : Chn ls r
  cl : Adj ls (lst r) (hd r)
structure Ring (ls : List (List Nat)) (r : List Nat) : Prop extends Cyc ls r where
  least : ∀ x ∈ r, hd r ≤ x
  turn : ∀ x, r[1]? = some x → x < lst r
theorem Cyc.rot {ls : List (List Nat)} {s t : List Nat} (hs : s ≠ []) (ht : t ≠ []) (h : Cyc ls (s ++ t)) : Cyc ls (t ++ s) where
  len := by have := h.len; simp at *; omega
  nd := (List.perm_append_comm (l₁ := s) (l₂ := t)).nodup_iff.mp h.nd
  chn := by
    obtain ⟨h1, h2, h3⟩ := (chn_app hs ht).mp h.chn
    have := h.cl
    rw [lst_app ht, hd_app hs] at this
    exact (chn_app ht hs).mpr ⟨h3, this, h1⟩
  cl := by
    obtain ⟨h1, h2, h3⟩ := (chn_app hs ht).mp h.chn
    rw [lst_app hs, hd_app ht]
    exact h2
theorem Cyc.rev {ls : List (List Nat)} {r : List Nat} (h : Cyc ls r) : Cyc ls r.reverse where
  len := by rw [List.length_reverse]; exact h.len
  nd := (List.reverse_perm r).nodup_iff.mpr h.nd
  chn := chn_rev h.chn
  cl := by rw [lst_rev, hd_rev]; exact h.cl.symm
theorem rnd_rev {g : Nat → Nat → Int} {ls : List (List Nat)} {r : List Nat} (ha : ∀ a b, Adj ls a b → g b a = - g a b) (h : Cyc ls r) : rnd g r.reverse = - rnd g r := by
  unfold rnd
  rw [pth_rev ha h.chn, lst_rev, hd_rev, ha _ _ h.cl]
  omega
theorem least_at : ∀ (r : List Nat), r ≠ [] → ∃ s m t, r = s ++ m :: t ∧ ∀ x ∈ r, m ≤ x
  | [], h => absurd rfl h
  | [a], _ => ⟨[], a, [], rfl, by simp⟩
  | a :: b :: r, _ => by
    obtain ⟨s, m, t, e, hm⟩ := least_at (b :: r) (by simp)
    by_cases h : a ≤ m
    · exact ⟨[], a, b :: r, rfl, fun x hx => by
        rcases List.mem_cons.mp hx with z | z
        · omega
        · exact Nat.le_trans h (hm x z)⟩
    · exact ⟨a :: s, m, t, by rw [e]; rfl, fun x hx => by
        rcases List.mem_cons.mp hx with z | z
        · omega
        · exact hm x z⟩
/-- each ring has its right form -/
theorem Cyc.form {ls : List (List Nat)} {r : List Nat} (h : Cyc ls r) : ∃ q, Ring ls q ∧ q.Perm r ∧ ∀ g : Nat → Nat → Int, (∀ a b, Adj ls a b → g b a = - g a b) → rnd g q = rnd g r ∨ rnd g q = - rnd g r := by
  have hne : r ≠ [] := fun z => by have := h.len; rw [z] at this; simp at this
  obtain ⟨s, m, t, e, hm⟩ := least_at r hne
  have h1 : Cyc ls (m :: t ++ s) ∧ (∀ g : Nat → Nat → Int, rnd g (m :: t ++ s) = rnd g r) ∧ (m :: t ++ s).Perm r := by
    cases s with
    | nil =>
      rw [List.append_nil]
      rw [List.nil_append] at e
      rw [← e]
      exact ⟨h, fun _ => rfl, .refl _⟩
    | cons a s =>
      rw [e] at h ⊢
      exact ⟨h.rot (by simp) (by simp), fun g => (rnd_rot g (by simp) (by simp)).symm, List.perm_append_comm⟩
  obtain ⟨c1, g1, p1⟩ := h1
  obtain ⟨u, hu⟩ : ∃ u, u = t ++ s := ⟨_, rfl⟩
  rw [List.cons_append, ← hu] at c1 g1 p1
  clear hu
  have hmin : ∀ x ∈ m :: u, m ≤ x := fun x hx => hm x (p1.mem_iff.mp hx)
  have hul : 2 ≤ u.length := by have := c1.len; simp at this; omega
  obtain ⟨b, u', rfl⟩ : ∃ b u', u = b :: u' := by
    cases u with
    | nil => simp at hul
    | cons b u' => exact ⟨b, u', rfl⟩
  have hbl : b ≠ lst (m :: b :: u') := fun z => by
    rw [lst_cons] at z
    have hu' : u' ≠ [] := fun y => by rw [y] at hul; simp at hul
    obtain ⟨c, u2, rfl⟩ : ∃ c u2, u' = c :: u2 := by
      cases u' with
      | nil => exact absurd rfl hu'
      | cons c u2 => exact ⟨c, u2, rfl⟩
    rw [lst_cons] at z
    have := c1.nd
    rw [List.nodup_cons, List.nodup_cons] at this
    exact this.2.1 (by rw [z]; exact lst_mem (by simp))
  by_cases hb : b < lst (m :: b :: u')
  · refine ⟨m :: b :: u', ⟨c1, hmin, fun x hx => ?_⟩, p1, fun g _ => .inl (g1 g)⟩
    have : b = x := by simpa using hx
    rw [← this]
    exact hb
  · -- turned round, behind its first place
    have c2 := c1.rev
    have e2 : (m :: b :: u').reverse = (b :: u').reverse ++ [m] := by rw [List.reverse_cons]
    rw [e2] at c2
    have c3 := c2.rot (by simp) (by simp)
    have p3 : ([m] ++ (b :: u').reverse).Perm (m :: b :: u') := (List.reverse_perm (b :: u')).cons m
    refine ⟨[m] ++ (b :: u').reverse, ⟨c3, fun x hx => hmin x (p3.mem_iff.mp hx), fun x hx => ?_⟩, p3.trans p1, fun g hg => .inr ?_⟩
    · have e3 : lst ([m] ++ (b :: u').reverse) = b := by
        rw [lst_app (by simp), lst_rev]
        rfl
      rw [e3]
      have e4 : ([m] ++ (b :: u').reverse)[1]? = (b :: u').reverse.head? := by
        rw [List.singleton_append, List.getElem?_cons_succ, List.head?_eq_getElem?]
      rw [e4, List.head?_reverse] at hx
      have : lst (m :: b :: u') = x := by
        rw [lst_cons]
        unfold lst
        rw [hx]
        rfl
      omega
    · rw [rnd_rot g (by simp) (by simp), ← e2, rnd_rev hg c1, g1]
inductive RU (E : List (List Nat)) (u : Nat) : Nat → Prop
  | refl : RU E u u
  | step {x y : Nat} : RU E u x → Adj E x y → RU E u y
theorem RU.path {E : List (List Nat)} {u x : Nat} (h : RU E u x) : ∃ p : List Nat, p ≠ [] ∧ p.Nodup ∧ Chn E p ∧ hd p = x ∧ lst p = u := by
  induction h with
  | refl => exact ⟨[u], by simp, by simp, trivial, rfl, rfl⟩
  | @step x y _ hxy ih =>
    obtain ⟨p, h1, h2, h3, h4, h5⟩ := ih
    by_cases hy : y ∈ p
    · obtain ⟨s, t, rfl⟩ := List.append_of_mem hy
      refine ⟨y :: t, by simp, ?_, ?_, rfl, ?_⟩
      · exact (List.nodup_append.mp h2).2.1
      · cases s with
        | nil => exact h3
        | cons a s => exact ((chn_app (by simp) (by simp)).mp h3).2.2
      · rw [lst_app (by simp)] at h5
        exact h5
    · obtain ⟨a, t, rfl⟩ : ∃ a t, p = a :: t := by
        cases p with
        | nil => exact absurd rfl h1
        | cons a t => exact ⟨a, t, rfl⟩
      have h4 : a = x := h4
      subst h4
      exact ⟨y :: a :: t, by simp, List.nodup_cons.mpr ⟨hy, h2⟩, ⟨hxy.symm, h3⟩, rfl, by rw [lst_cons]; exact h5⟩
def Pot (E : List (List Nat)) (g : Nat → Nat → Int) (f : Nat → Int) : Prop := ∀ a b, [a, b] ∈ E → f a - f b = g a b
theorem Pot.adj {E : List (List Nat)} {g : Nat → Nat → Int} {f : Nat → Int} (h : Pot E g f) (hg : ∀ a b, Adj E a b → g b a = - g a b) {a b : Nat} (hab : Adj E a b) : f a - f b = g a b := by
  have hab' := hab
  unfold Adj pr2 at hab
  dsimp only at hab
  split at hab
  · have := h _ _ hab
    rw [hg _ _ hab'] at this
    omega
  · exact h _ _ hab
theorem Pot.pth {E : List (List Nat)} {g : Nat → Nat → Int} {f : Nat → Int} (h : Pot E g f) (hg : ∀ a b, Adj E a b → g b a = - g a b) : ∀ {p : List Nat}, p ≠ [] → Chn E p → Pdl.pth g p = f (hd p) - f (lst p)
  | [], z, _ => absurd rfl z
  | [a], _, _ => by show (0 : Int) = f a - f a; omega
  | a :: b :: t, _, c => by
    have ih := Pot.pth h hg (p := b :: t) (by simp) c.2
    show g a b + Pdl.pth g (b :: t) = f a - f (lst (a :: b :: t))
    rw [ih, lst_cons, hd_cons, ← h.adj hg c.1]
    omega
theorem Pot.rnd {E : List (List Nat)} {g : Nat → Nat → Int} {f : Nat → Int} (h : Pot E g f) (hg : ∀ a b, Adj E a b → g b a = - g a b) {r : List Nat} (c : Cyc E r) : Pdl.rnd g r = 0 := by
  have hne : r ≠ [] := fun z => by have := c.len; rw [z] at this; simp at this
  unfold Pdl.rnd
  rw [h.pth hg hne c.chn, ← h.adj hg c.cl]
  omega
theorem adj_asc {E : List (List Nat)} (hE : ∀ l ∈ E, ∃ a b, l = [a, b] ∧ a < b) {a b : Nat} (h : [a, b] ∈ E) : Adj E a b := by
  obtain ⟨x, y, e, hxy⟩ := hE _ h
  cases e
  unfold Adj pr2
  dsimp only
  rw [if_neg (by omega)]
  exact h
/-- sums that are 0 round all rings come from numbers of places -/
theorem pot_ex {g : Nat → Nat → Int} : ∀ (E : List (List Nat)), (∀ l ∈ E, ∃ a b, l = [a, b] ∧ a < b) → E.Nodup → (∀ a b, Adj E a b → g b a = - g a b) → (∀ r, Cyc E r → rnd g r = 0) → ∃ f, Pot E g f
  | [], _, _, _, _ => ⟨fun _ => 0, fun a b h => by cases h⟩
  | e :: E, hE, hn, hg, hr => by
    have hsub : ∀ l ∈ E, l ∈ e :: E := fun l hl => List.mem_cons_of_mem _ hl
    obtain ⟨f, hf⟩ := pot_ex E (fun l hl => hE l (hsub l hl)) (List.nodup_cons.mp hn).2 (fun a b h => hg a b (hsub _ h)) fun r c => hr r ⟨c.len, c.nd, c.chn.mono hsub, hsub _ c.cl⟩
    obtain ⟨u, v, rfl, huv⟩ := hE e List.mem_cons_self
    have hguv : g v u = - g u v := hg u v (adj_asc hE List.mem_cons_self)
    have hE' : ∀ l ∈ E, ∃ a b, l = [a, b] ∧ a < b := fun l hl => hE l (hsub l hl)
    by_cases hc : RU E u v
    · -- the new tie closes a ring
      obtain ⟨p, h1, h2, h3, h4, h5⟩ := hc.path
      have hlen : 3 ≤ p.length := by
        match p, h1, h3, h4, h5 with
        | [a], _, _, h4, h5 =>
          have h4 : a = v := h4
          have h5 : a = u := h5
          omega
        | [a, b], _, h3, h4, h5 =>
          have h4 : a = v := h4
          have h5 : b = u := h5
          subst h4 h5
          have h3 : pr2 [a, b] ∈ E := h3.1
          unfold pr2 at h3
          dsimp only at h3
          rw [if_pos huv] at h3
          exact absurd h3 (List.nodup_cons.mp hn).1
        | a :: b :: c :: t, _, _, _, _ => simp
      have cy : Cyc ([u, v] :: E) p := ⟨hlen, h2, h3.mono hsub, by rw [h4, h5]; exact adj_asc hE List.mem_cons_self⟩
      have hz := hr p cy
      unfold rnd at hz
      rw [hf.pth (fun a b h => hg a b (hsub _ h)) h1 h3, h4, h5] at hz
      refine ⟨f, fun a b h => ?_⟩
      rcases List.mem_cons.mp h with z | z
      · cases z
        omega
      · exact hf a b z
    · refine ⟨fun x => open Classical in if RU E u x then f x + (g u v - (f u - f v)) else f x, fun a b h => ?_⟩
      dsimp only
      rcases List.mem_cons.mp h with z | z
      · cases z
        rw [if_pos .refl, if_neg hc]
        omega
      · have hab := adj_asc hE' z
        have hf' := hf a b z
        by_cases ha : RU E u a
        · rw [if_pos ha, if_pos (ha.step hab)]
          omega
        · rw [if_neg ha, if_neg (fun z => ha (z.step hab.symm))]
          exact hf'
end Pdl
namespace Pdl
open PySem PySem.Spec L2 PyProof.Rows
def nearL (ls : List (List Nat)) (p : Nat) : List Nat := (us ls.flatten).filter fun q => decide (Adj ls p q)
def extW (ls : List (List Nat)) (w : List Nat) : List (List Nat) := ((nearL ls (lst w)).filter fun p => decide ([hd w] < [p]) && !decide (p ∈ w)).map fun p => w ++ [p]
def lvW (ls : List (List Nat)) : Nat → List (List Nat)
  | 0 => ch (us ls.flatten)
  | t + 1 => (lvW ls t).flatMap (extW ls)
noncomputable def ringB (ls : List (List Nat)) (r : List Nat) : Bool := @decide (Ring ls r) (Classical.propDecidable _)
theorem ringB_iff {ls : List (List Nat)} {r : List Nat} : ringB ls r = true ↔ Ring ls r := by unfold ringB; exact @decide_eq_true_iff _ (Classical.propDecidable _)
noncomputable def fdW (ls : List (List Nat)) : Nat → List (List Nat)
  | 0 => []
  | t + 1 => fdW ls t ++ (lvW ls t).filter (ringB ls)
noncomputable def rgs (ls : List (List Nat)) : List (List Nat) := srt (fdW ls 8)
theorem Ties.adj_mem {ls : List (List Nat)} (h : Ties ls) {a b : Nat} (hab : Adj ls a b) : a ∈ ls.flatten ∧ b ∈ ls.flatten ∧ a ≠ b := by
  unfold Adj at hab
  obtain ⟨x, y, e, h1, h2, h3⟩ := h.pr _ hab
  unfold pr2 at e
  dsimp only at e
  have hm : ∀ c, c ∈ pr2 [a, b] → c ∈ ls.flatten := fun c hc => List.mem_flatten.mpr ⟨_, hab, hc⟩
  have ha : a ∈ pr2 [a, b] := by unfold pr2; dsimp only; split <;> simp
  have hb : b ∈ pr2 [a, b] := by unfold pr2; dsimp only; split <;> simp
  refine ⟨hm a ha, hm b hb, ?_⟩
  split at e <;> (cases e; omega)
structure IsW (ls : List (List Nat)) (t : Nat) (w : List Nat) : Prop where
  len : w.length = t + 1
  nd : w.Nodup
  sub : ∀ x ∈ w, x ∈ ls.flatten
  chn : Chn ls w
  low : ∀ x ∈ w.tail, hd w < x
theorem mem_nearL {ls : List (List Nat)} (h : Ties ls) {p q : Nat} : q ∈ nearL ls p ↔ Adj ls p q := by
  unfold nearL
  rw [List.mem_filter, mem_us, decide_eq_true_iff]
  exact ⟨fun z => z.2, fun z => ⟨(h.adj_mem z).2.1, z⟩⟩
theorem mem_extW {ls : List (List Nat)} (h : Ties ls) {w v : List Nat} : v ∈ extW ls w ↔ ∃ p, v = w ++ [p] ∧ Adj ls (lst w) p ∧ hd w < p ∧ p ∉ w := by
  unfold extW
  rw [List.mem_map]
  constructor
  · rintro ⟨p, hp, rfl⟩
    obtain ⟨h1, h2⟩ := List.mem_filter.mp hp
    rw [Bool.and_eq_true, decide_eq_true_iff, lt1] at h2
    exact ⟨p, rfl, (mem_nearL h).mp h1, h2.1, by simpa using h2.2⟩
  · rintro ⟨p, rfl, h1, h2, h3⟩
    refine ⟨p, List.mem_filter.mpr ⟨(mem_nearL h).mpr h1, ?_⟩, rfl⟩
    rw [Bool.and_eq_true, decide_eq_true_iff, lt1]
    exact ⟨h2, by simp [h3]⟩
theorem tail_app {a : List Nat} {p : Nat} (h : a ≠ []) : (a ++ [p]).tail = a.tail ++ [p] := by
  cases a with
  | nil => exact absurd rfl h
  | cons x t => rfl
theorem mem_lvW {ls : List (List Nat)} (h : Ties ls) : ∀ (t : Nat) (w : List Nat), w ∈ lvW ls t ↔ IsW ls t w
  | 0, w => by
    show w ∈ ch (us ls.flatten) ↔ _
    unfold ch
    rw [List.mem_map]
    constructor
    · rintro ⟨c, hc, rfl⟩
      exact ⟨rfl, by simp, fun x hx => by rw [List.mem_singleton.mp hx]; exact mem_us.mp hc, trivial, fun x hx => by cases hx⟩
    · intro hw
      obtain ⟨c, rfl⟩ := List.length_eq_one_iff.mp hw.len
      exact ⟨c, mem_us.mpr (hw.sub c (by simp)), rfl⟩
  | t + 1, w => by
    show w ∈ (lvW ls t).flatMap (extW ls) ↔ _
    rw [List.mem_flatMap]
    constructor
    · rintro ⟨v, hv, hw⟩
      obtain ⟨p, rfl, h1, h2, h3⟩ := (mem_extW h).mp hw
      have iv := (mem_lvW h t v).mp hv
      have hne : v ≠ [] := fun z => by have := iv.len; rw [z] at this; simp at this
      refine ⟨by simp [iv.len], ?_, ?_, ?_, ?_⟩
      · rw [List.nodup_append]
        exact ⟨iv.nd, by simp, fun a ha b hb e => h3 (by rw [← List.mem_singleton.mp hb, ← e]; exact ha)⟩
      · intro x hx
        rcases List.mem_append.mp hx with z | z
        · exact iv.sub x z
        · rw [List.mem_singleton.mp z]
          exact (h.adj_mem h1).2.1
      · exact (chn_app hne (by simp)).mpr ⟨iv.chn, h1, trivial⟩
      · rw [tail_app hne, hd_app hne]
        intro x hx
        rcases List.mem_append.mp hx with z | z
        · exact iv.low x z
        · rw [List.mem_singleton.mp z]
          exact h2
    · intro hw
      have hwl := hw.len
      obtain ⟨v, p, rfl⟩ : ∃ v p, w = v ++ [p] := by
        have hne : w ≠ [] := fun z => by rw [z] at hwl; simp at hwl
        exact ⟨w.dropLast, w.getLast hne, (List.dropLast_concat_getLast hne).symm⟩
      have hvl : v.length = t + 1 := by simpa using hwl
      have hne : v ≠ [] := fun z => by rw [z] at hvl; simp at hvl
      obtain ⟨c1, c2, c3⟩ := (chn_app hne (by simp)).mp hw.chn
      have hnd := List.nodup_append.mp hw.nd
      have hlow := hw.low
      rw [tail_app hne, hd_app hne] at hlow
      refine ⟨v, (mem_lvW h t v).mpr ⟨hvl, hnd.1, fun x hx => hw.sub x (List.mem_append_left _ hx), c1, fun x hx => hlow x (List.mem_append_left _ hx)⟩, (mem_extW h).mpr ⟨p, rfl, c2, hlow p (by simp), fun z => hnd.2.2 p z p (by simp) rfl⟩⟩
theorem IsW.few {ls : List (List Nat)} {t : Nat} {w : List Nat} (h : Ties ls) (hw : IsW ls t w) : t + 1 ≤ 7 := by
  have := nodup_len hw.nd (m := us ls.flatten) fun x hx => mem_us.mpr (hw.sub x hx)
  have h2 := h.few
  have h3 := hw.len
  omega
theorem mem_fdW {ls : List (List Nat)} {r : List Nat} : ∀ {n : Nat}, r ∈ fdW ls n ↔ ∃ t, t < n ∧ r ∈ lvW ls t ∧ Ring ls r
  | 0 => by simp [fdW]
  | n + 1 => by
    show r ∈ fdW ls n ++ (lvW ls n).filter (ringB ls) ↔ _
    rw [List.mem_append, mem_fdW, List.mem_filter, ringB_iff]
    constructor
    · rintro (⟨t, h1, h2, h3⟩ | ⟨h1, h2⟩)
      · exact ⟨t, by omega, h2, h3⟩
      · exact ⟨n, by omega, h1, h2⟩
    · rintro ⟨t, h1, h2, h3⟩
      by_cases e : t = n
      · subst e
        exact .inr ⟨h2, h3⟩
      · exact .inl ⟨t, by omega, h2, h3⟩
theorem Ring.isW {ls : List (List Nat)} {r : List Nat} (h : Ties ls) (hr : Ring ls r) : IsW ls (r.length - 1) r where
  len := by have := hr.len; omega
  nd := hr.nd
  sub := fun x hx => by
    -- each place of a ring has one beside it
    obtain ⟨s, t, e⟩ := List.append_of_mem hx
    have hc := hr.chn
    have hl := hr.len
    cases t with
    | nil =>
      cases s with
      | nil => rw [e] at hl; simp at hl
      | cons a s =>
        rw [e] at hc
        exact (h.adj_mem ((chn_app (by simp) (by simp)).mp hc).2.1).2.1
    | cons b t =>
      cases s with
      | nil =>
        rw [e] at hc
        exact (h.adj_mem hc.1).1
      | cons a s =>
        rw [e] at hc
        exact (h.adj_mem ((chn_app (by simp) (by simp)).mp hc).2.1).2.1
  chn := hr.chn
  low := fun x hx => by
    cases r with
    | nil => cases hx
    | cons a t =>
      have h1 := hr.least x (List.mem_cons_of_mem _ hx)
      have h2 := (List.nodup_cons.mp hr.nd).1
      have h3 : x ≠ a := fun e => h2 (by rw [← e]; exact hx)
      rw [hd_cons] at h1 ⊢
      omega
theorem mem_rgs {ls : List (List Nat)} (h : Ties ls) {r : List Nat} : r ∈ rgs ls ↔ Ring ls r := by
  unfold rgs
  rw [mem_srt, mem_fdW]
  constructor
  · rintro ⟨_, _, _, h3⟩
    exact h3
  · intro hr
    have hw := hr.isW h
    have := hw.few h
    exact ⟨r.length - 1, by omega, (mem_lvW h _ _).mpr hw, hr⟩
def xof (as : List (List Nat)) (a b : Nat) : Int := if [a, b] ∈ as then 1 else -1
def tal (as : List (List Nat)) (r : List Nat) : Int := rnd (xof as) r
def pvs (r : List Nat) (k : Nat) : Nat := if k = 0 then lst r else r.getD (k - 1) 0
theorem chn_iff {ls : List (List Nat)} : ∀ (p : List Nat), Chn ls p ↔ ∀ k, k + 1 < p.length → Adj ls (p.getD k 0) (p.getD (k + 1) 0)
  | [] => ⟨fun _ k h => by simp at h, fun _ => trivial⟩
  | [a] => ⟨fun _ k h => by simp at h, fun _ => trivial⟩
  | a :: b :: t => by
    have ih := chn_iff (ls := ls) (b :: t)
    show (Adj ls a b ∧ Chn ls (b :: t)) ↔ _
    rw [ih]
    constructor
    · rintro ⟨h1, h2⟩ k hk
      cases k with
      | zero => exact h1
      | succ k => exact h2 k (by simpa using hk)
    · intro h
      exact ⟨h 0 (by simp), fun k hk => h (k + 1) (by simpa using hk)⟩
theorem IsW.lw {ls : List (List Nat)} {t : Nat} (h : Ties ls) : Lw (lvW ls t) := fun w hw c hc => by
  have := ((mem_lvW h t w).mp hw).sub c hc
  obtain ⟨l, hl, hcl⟩ := List.mem_flatten.mp this
  exact h.lw l hl c hcl
end Pdl
namespace Pdl
open PySem L2 PyProof.Rows
theorem Ring.few {ls : List (List Nat)} {r : List Nat} (h : Ties ls) (hr : Ring ls r) : r.length ≤ 7 := by
  have h1 := (hr.isW h).few h
  have h2 := hr.len
  omega
theorem adj_arrow {as : List (List Nat)} (h2 : Two as) {a b : Nat} (h : Adj (as.map pr2) a b) : [a, b] ∈ as ∨ [b, a] ∈ as := by
  obtain ⟨l, hl, e⟩ := List.mem_map.mp h
  obtain ⟨x, y, rfl⟩ := h2 l hl
  rcases pr2_inv e with ⟨rfl, rfl⟩ | ⟨rfl, rfl⟩
  · exact .inl hl
  · exact .inr hl
theorem pth_hi {as : List (List Nat)} {ρ : Nat → Nat} (hρ : ∀ a b, [a, b] ∈ as → ρ a < ρ b) : ∀ (p : List Nat), p ≠ [] → pth (xof as) p + 1 ≤ p.length ∧ (pth (xof as) p + 1 = p.length → ρ (hd p) ≤ ρ (lst p))
  | [], z => absurd rfl z
  | [a], _ => ⟨by show (0 : Int) + 1 ≤ 1; omega, fun _ => Nat.le_refl _⟩
  | a :: b :: t, _ => by
    obtain ⟨h1, h2⟩ := pth_hi hρ (b :: t) (by simp)
    have e : pth (xof as) (a :: b :: t) = xof as a b + pth (xof as) (b :: t) := rfl
    have hx : xof as a b ≤ 1 := by unfold xof; split <;> omega
    have hl : ((a :: b :: t).length : Int) = (b :: t).length + 1 := by simp
    refine ⟨by rw [e, hl]; omega, fun z => ?_⟩
    rw [e, hl] at z
    have hx1 : xof as a b = 1 := by omega
    have hab : [a, b] ∈ as := by
      unfold xof at hx1
      split at hx1
      · assumption
      · omega
    have h3 := h2 (by omega)
    have h4 := hρ a b hab
    rw [lst_cons, hd_cons]
    rw [hd_cons] at h3
    omega
theorem pth_lo {as : List (List Nat)} (h2 : Two as) {ρ : Nat → Nat} (hρ : ∀ a b, [a, b] ∈ as → ρ a < ρ b) : ∀ (p : List Nat), p ≠ [] → Chn (as.map pr2) p → -(p.length : Int) + 1 ≤ pth (xof as) p ∧ (pth (xof as) p = -(p.length : Int) + 1 → ρ (lst p) ≤ ρ (hd p))
  | [], z, _ => absurd rfl z
  | [a], _, _ => ⟨by show -(1 : Int) + 1 ≤ 0; omega, fun _ => Nat.le_refl _⟩
  | a :: b :: t, _, c => by
    obtain ⟨h1, h3⟩ := pth_lo h2 hρ (b :: t) (by simp) c.2
    have e : pth (xof as) (a :: b :: t) = xof as a b + pth (xof as) (b :: t) := rfl
    have hx : -1 ≤ xof as a b := by unfold xof; split <;> omega
    have hl : ((a :: b :: t).length : Int) = (b :: t).length + 1 := by simp
    refine ⟨by rw [e, hl]; omega, fun z => ?_⟩
    rw [e, hl] at z
    have hx1 : xof as a b = -1 := by omega
    have hab : [a, b] ∉ as := by
      unfold xof at hx1
      split at hx1
      · omega
      · assumption
    have h4 := (adj_arrow h2 c.1).resolve_left hab
    have h5 := hρ b a h4
    have h6 := h3 (by omega)
    rw [lst_cons, hd_cons]
    rw [hd_cons] at h6
    omega
theorem tal_lt {as : List (List Nat)} {r : List Nat} (h2 : Two as) (hr : Ranked as) (hc : Cyc (as.map pr2) r) : -(r.length : Int) < tal as r ∧ tal as r < r.length := by
  obtain ⟨ρ, hρ⟩ := hr
  have hne : r ≠ [] := fun z => by have := hc.len; rw [z] at this; simp at this
  obtain ⟨h1, h3⟩ := pth_hi hρ r hne
  obtain ⟨h4, h5⟩ := pth_lo h2 hρ r hne hc.chn
  unfold tal rnd
  by_cases hx : [lst r, hd r] ∈ as
  · have e : xof as (lst r) (hd r) = 1 := if_pos hx
    have h6 := hρ _ _ hx
    refine ⟨by omega, ?_⟩
    have : pth (xof as) r + 1 ≠ r.length := fun z => by have := h3 z; omega
    omega
  · have e : xof as (lst r) (hd r) = -1 := if_neg hx
    have h6 := hρ _ _ ((adj_arrow h2 hc.cl).resolve_left hx)
    refine ⟨?_, by omega⟩
    have : pth (xof as) r ≠ -(r.length : Int) + 1 := fun z => by have := h5 z; omega
    omega
theorem arrow_one {as : List (List Nat)} (hr : Ranked as) {a b : Nat} (h : [a, b] ∈ as) : [b, a] ∉ as := fun z => by
  obtain ⟨ρ, hρ⟩ := hr
  have h1 := hρ _ _ h
  have h2 := hρ _ _ z
  omega
theorem xof_anti {as : List (List Nat)} (h2 : Two as) (hr : Ranked as) {a b : Nat} (h : Adj (as.map pr2) a b) : xof as b a = - xof as a b := by
  unfold xof
  rcases adj_arrow h2 h with z | z
  · rw [if_pos z, if_neg (arrow_one hr z)]
  · rw [if_pos z, if_neg (arrow_one hr z)]
    omega
theorem arrs_at {as : List (List Nat)} (ha : Arrs as) {i : Nat} {o : List Nat} {a b : Nat} (hi : as[i]? = some o) (he : pr2 o = pr2 [a, b]) : [a, b] ∈ as ↔ o = [a, b] := by
  constructor
  · intro h
    obtain ⟨j, hj⟩ := List.mem_iff_getElem?.mp h
    have h1 : (as.map pr2)[i]? = some (pr2 [a, b]) := by rw [List.getElem?_map, hi, ← he]; rfl
    have h2 : (as.map pr2)[j]? = some (pr2 [a, b]) := by rw [List.getElem?_map, hj]; rfl
    have hn : (as.map pr2).Nodup := ha.ties.asc.imp fun {x y} h e => by rw [e] at h; exact List.lt_irrefl y h
    have hij := (List.getElem?_inj (List.getElem?_eq_some_iff.mp h1).1 hn).mp (h1.trans h2.symm)
    subst hij
    exact Option.some.inj (hi.symm.trans hj)
  · intro h
    rw [← h]
    exact List.mem_of_getElem? hi
/-- how much more often one place is turned, by the arrows of two ways -/
def gOf (as bs : List (List Nat)) (a b : Nat) : Int := (xof as a b - xof bs a b) / 2
theorem gOf_two (as bs : List (List Nat)) (a b : Nat) : 2 * gOf as bs a b = xof as a b - xof bs a b := by
  unfold gOf xof
  split <;> split <;> omega
theorem fit_g {as bs : List (List Nat)} (ha : Arrs as) (hb : Arrs bs) (hs : SameW as bs) {f : Nat → Int} : Fit as bs f ↔ Pot (as.map pr2) (gOf as bs) f := by
  have hs' : as.map pr2 = bs.map pr2 := hs
  -- of an arrow of the first way
  have key : ∀ (i a b : Nat) (o : List Nat), as[i]? = some [a, b] → bs[i]? = some o → gOf as bs a b = (if [a, b] = o then 0 else 1) ∧ Adj (as.map pr2) a b := fun i a b o h1 h2 => by
    have hm := List.mem_of_getElem? h1
    have hadj : Adj (as.map pr2) a b := List.mem_map_of_mem hm
    have he : pr2 o = pr2 [a, b] := by
      have e1 : (as.map pr2)[i]? = some (pr2 [a, b]) := by rw [List.getElem?_map, h1]; rfl
      rw [hs', List.getElem?_map, h2] at e1
      exact Option.some.inj e1
    have hx := arrs_at hb h2 he
    refine ⟨?_, hadj⟩
    have h3 := gOf_two as bs a b
    unfold xof at h3
    rw [if_pos hm] at h3
    by_cases z : o = [a, b]
    · rw [if_pos (hx.mpr z)] at h3
      rw [if_pos z.symm]
      omega
    · rw [if_neg (fun y => z (hx.mp y))] at h3
      rw [if_neg (fun y => z y.symm)]
      omega
  have hg : ∀ a b, Adj (as.map pr2) a b → gOf as bs b a = - gOf as bs a b := fun a b h => by
    have h1 := gOf_two as bs a b
    have h2 := gOf_two as bs b a
    rw [xof_anti ha.two ha.rk h, xof_anti hb.two hb.rk (by rw [← hs']; exact h)] at h2
    omega
  constructor
  · intro h a b hab
    obtain ⟨l, hl, e⟩ := List.mem_map.mp hab
    obtain ⟨x, y, rfl⟩ := ha.two l hl
    obtain ⟨i, hi⟩ := List.mem_iff_getElem?.mp hl
    have hil : i < bs.length := by
      have := (List.getElem?_eq_some_iff.mp hi).1
      have := hs.len
      omega
    obtain ⟨k1, k2⟩ := key i x y _ hi (List.getElem?_eq_getElem hil)
    have h1 := h i x y _ hi (List.getElem?_eq_getElem hil)
    rw [← k1] at h1
    unfold pr2 at e
    dsimp only at e
    split at e
    · cases e
      have := hg _ _ k2
      omega
    · cases e
      exact h1
  · intro h i a b o h1 h2
    obtain ⟨k1, k2⟩ := key i a b o h1 h2
    rw [← k1]
    exact h.adj hg k2
theorem g_anti {as bs : List (List Nat)} (ha : Arrs as) (hb : Arrs bs) (hs : SameW as bs) : ∀ a b, Adj (as.map pr2) a b → gOf as bs b a = - gOf as bs a b := fun a b h => by
  have hs' : as.map pr2 = bs.map pr2 := hs
  have h1 := gOf_two as bs a b
  have h2 := gOf_two as bs b a
  rw [xof_anti ha.two ha.rk h, xof_anti hb.two hb.rk (by rw [← hs']; exact h)] at h2
  omega
theorem pth_g (as bs : List (List Nat)) : ∀ p : List Nat, 2 * pth (gOf as bs) p = pth (xof as) p - pth (xof bs) p
  | [] => rfl
  | [_] => rfl
  | a :: b :: t => by
    have ih := pth_g as bs (b :: t)
    have := gOf_two as bs a b
    show 2 * (gOf as bs a b + pth (gOf as bs) (b :: t)) = (xof as a b + pth (xof as) (b :: t)) - (xof bs a b + pth (xof bs) (b :: t))
    omega
theorem rnd_g (as bs : List (List Nat)) (r : List Nat) : 2 * rnd (gOf as bs) r = tal as r - tal bs r := by
  unfold tal rnd
  have := pth_g as bs r
  have := gOf_two as bs (lst r) (hd r)
  omega
theorem asc_pairs {ls : List (List Nat)} (h : Ties ls) : ∀ l ∈ ls, ∃ a b, l = [a, b] ∧ a < b := fun l hl => by
  obtain ⟨a, b, e, _, h2, _⟩ := h.pr l hl
  exact ⟨a, b, e, h2⟩
theorem ties_nodup {ls : List (List Nat)} (h : Ties ls) : ls.Nodup := h.asc.imp fun {x y} h e => by rw [e] at h; exact List.lt_irrefl y h
/-- like ways have the same tallies, and only they -/
theorem tal_iff {as bs : List (List Nat)} (ha : Arrs as) (hb : Arrs bs) (hs : as.map pr2 = bs.map pr2) : Reach as bs ↔ ∀ r, Ring (as.map pr2) r → tal as r = tal bs r := by
  have hs' : SameW as bs := hs
  rw [← fit_iff ha hb.two hs']
  constructor
  · rintro ⟨f, hf⟩ r hr
    have h1 := ((fit_g ha hb hs').mp hf).rnd (g_anti ha hb hs') hr.toCyc
    have h2 := rnd_g as bs r
    omega
  · intro h
    obtain ⟨f, hf⟩ := pot_ex (as.map pr2) (asc_pairs ha.ties) (ties_nodup ha.ties) (g_anti ha hb hs') fun r hc => by
      obtain ⟨q, hq, _, hg⟩ := hc.form
      have h1 := h q hq
      have h2 := rnd_g as bs q
      rcases hg _ (g_anti ha hb hs') with z | z <;> omega
    exact ⟨f, (fit_g ha hb hs').mpr hf⟩
end Pdl
namespace Pdl
open PySem L2 PyProof.Rows
def kT (R : List (List Nat)) (as : List (List Nat)) : List Key := R.map fun r => Sum.inl (tal as r)
structure GrI (R : List (List Nat)) (L K : List (List (List Nat))) : Prop where
  nd : (K.map (kT R)).Nodup
  mem : ∀ x, x ∈ K.map (kT R) ↔ ∃ b ∈ L, kT R b = x
  sub : ∀ k ∈ K, k ∈ L
theorem GrI.len {R : List (List Nat)} {L K : List (List (List Nat))} (h : GrI R L K) : K.length ≤ L.length := by
  have hn : K.Nodup := List.Pairwise.of_map (kT R) (fun _ _ hne e => hne (congrArg _ e)) h.nd
  exact nodup_len hn h.sub
/-- a web without rings has one class -/
theorem GrI.one {ls : List (List Nat)} {K : List (List (List Nat))} (ht : Ties ls) (h : GrI (rgs ls) (flows ls) K) (hr : rgs ls = []) : K.length = 1 := by
  have hk : ∀ x y : List (List Nat), kT (rgs ls) x = kT (rgs ls) y := fun x y => by rw [hr]; rfl
  match K, h with
  | [], h =>
    obtain ⟨a, ha⟩ := List.exists_mem_of_ne_nil _ (flows_ne ht)
    have := (h.mem (kT (rgs ls) a)).mpr ⟨a, ha, rfl⟩
    cases this
  | [k], _ => rfl
  | k :: k2 :: K, h =>
    have := h.nd
    rw [List.map_cons, List.map_cons, List.nodup_cons] at this
    exact absurd (List.mem_cons.mpr (.inl (hk k k2))) this.1
end Pdl
namespace Pdl
open PySem L2 PyProof.Rows
def DCh (L : List (List Nat)) : List Nat → Prop
  | a :: b :: t => [a, b] ∈ L ∧ DCh L (b :: t)
  | _ => True
theorem DCh.mono {L M : List (List Nat)} (h : ∀ l ∈ L, l ∈ M) : ∀ {p : List Nat}, DCh L p → DCh M p
  | [], _ => trivial
  | [_], _ => trivial
  | _ :: b :: t, c => ⟨h _ c.1, DCh.mono h (p := b :: t) c.2⟩
theorem DCh.sub {L : List (List Nat)} : ∀ {p : List Nat}, 2 ≤ p.length → DCh L p → ∀ x ∈ p, x ∈ L.flatten
  | [a, b], _, c, x, hx => List.mem_flatten.mpr ⟨_, c.1, hx⟩
  | a :: b :: d :: t, _, c, x, hx => by
    rcases List.mem_cons.mp hx with z | z
    · rw [z]; exact List.mem_flatten.mpr ⟨_, c.1, by simp⟩
    · exact DCh.sub (p := b :: d :: t) (by simp) c.2 x z
end Pdl
namespace Pdl
open PySem L2 PyProof.Rows
/-- places that stand for their lot: the least ones -/
def IsRep (E : List (List Nat)) (V : List Nat) (v : Nat) : Prop := ∀ w ∈ V, RU E v w → v ≤ w
theorem RU.trans {E : List (List Nat)} {a b c : Nat} (h1 : RU E a b) (h2 : RU E b c) : RU E a c := by
  induction h2 with
  | refl => exact h1
  | step _ hxy ih => exact ih.step hxy
theorem RU.symm {E : List (List Nat)} {a b : Nat} (h : RU E a b) : RU E b a := by
  induction h with
  | refl => exact .refl
  | step _ hxy ih => exact (RU.refl.step hxy.symm).trans ih
theorem RU.mono {E F : List (List Nat)} (h : ∀ l ∈ E, l ∈ F) {a b : Nat} (r : RU E a b) : RU F a b := by
  induction r with
  | refl => exact .refl
  | step _ hxy ih => exact ih.step (h _ hxy)
noncomputable def repB (E : List (List Nat)) (V : List Nat) (v : Nat) : Bool := @decide (IsRep E V v) (Classical.propDecidable _)
theorem repB_iff {E : List (List Nat)} {V : List Nat} {v : Nat} : repB E V v = true ↔ IsRep E V v := by unfold repB; exact @decide_eq_true_iff _ (Classical.propDecidable _)
noncomputable def repsL (E : List (List Nat)) (V : List Nat) : List Nat := V.filter (repB E V)
theorem mem_reps {E : List (List Nat)} {V : List Nat} {v : Nat} : v ∈ repsL E V ↔ v ∈ V ∧ IsRep E V v := by
  unfold repsL
  rw [List.mem_filter, repB_iff]
theorem rep_ex {E : List (List Nat)} {V : List Nat} {a : Nat} (ha : a ∈ V) : ∃ r ∈ V, IsRep E V r ∧ RU E r a := by
  classical
  have hne : V.filter (fun w => decide (RU E a w)) ≠ [] := fun z => by
    have := List.mem_filter (p := fun w => decide (RU E a w)) |>.mpr ⟨ha, decide_eq_true (RU.refl (E := E) (u := a))⟩
    rw [z] at this
    cases this
  obtain ⟨s, m, t, e, hm⟩ := least_at _ hne
  have hmm : m ∈ V.filter fun w => decide (RU E a w) := by rw [e]; simp
  obtain ⟨h1, h2⟩ := List.mem_filter.mp hmm
  have h2 := of_decide_eq_true h2
  refine ⟨m, h1, fun w hw hr => hm w (List.mem_filter.mpr ⟨hw, decide_eq_true (h2.trans hr)⟩), h2.symm⟩
/-- a tie more: who is joined -/
theorem ru_cons {E : List (List Nat)} {u v a b : Nat} (huv : u < v) (h : RU ([u, v] :: E) a b) : RU E a b ∨ (RU E a u ∧ RU E v b) ∨ (RU E a v ∧ RU E u b) := by
  induction h with
  | refl => exact .inl .refl
  | @step x y _ hxy ih =>
    have hadj : Adj E x y ∨ (x = u ∧ y = v) ∨ (x = v ∧ y = u) := by
      unfold Adj at hxy
      rcases List.mem_cons.mp hxy with z | z
      · unfold pr2 at z
        dsimp only at z
        split at z
        · cases z; exact .inr (.inr ⟨rfl, rfl⟩)
        · cases z; exact .inr (.inl ⟨rfl, rfl⟩)
      · exact .inl z
    rcases hadj with z | ⟨rfl, rfl⟩ | ⟨rfl, rfl⟩
    · rcases ih with i | ⟨i, j⟩ | ⟨i, j⟩
      · exact .inl (i.step z)
      · exact .inr (.inl ⟨i, j.step z⟩)
      · exact .inr (.inr ⟨i, j.step z⟩)
    · rcases ih with i | ⟨i, j⟩ | ⟨i, j⟩
      · exact .inr (.inl ⟨i, .refl⟩)
      · exact .inr (.inl ⟨i, .refl⟩)
      · exact .inl i
    · rcases ih with i | ⟨i, j⟩ | ⟨i, j⟩
      · exact .inr (.inr ⟨i, .refl⟩)
      · exact .inl i
      · exact .inr (.inr ⟨i, .refl⟩)
theorem rep_same {E : List (List Nat)} {V : List Nat} {a b : Nat} (ha : a ∈ V) (hb : b ∈ V) (h1 : IsRep E V a) (h2 : IsRep E V b) (h : RU E a b) : a = b := Nat.le_antisymm (h1 b hb h) (h2 a ha h.symm)
/-- a tie that joins makes one lot fewer, another one none -/
theorem reps_cons {E : List (List Nat)} {V : List Nat} {u v : Nat} (hV : V.Nodup) (huv : u < v) (hu : u ∈ V) (hv : v ∈ V) : (RU E u v → (repsL ([u, v] :: E) V).length = (repsL E V).length) ∧ (¬ RU E u v → (repsL ([u, v] :: E) V).length + 1 = (repsL E V).length) := by
  have hsub : ∀ l ∈ E, l ∈ [u, v] :: E := fun l hl => List.mem_cons_of_mem _ hl
  have hadj : Adj ([u, v] :: E) u v := by
    unfold Adj pr2
    dsimp only
    rw [if_neg (by omega)]
    exact List.mem_cons_self
  have hn1 : (repsL ([u, v] :: E) V).Nodup := hV.filter _
  have hn2 : (repsL E V).Nodup := hV.filter _
  constructor
  · intro huv'
    have hsame : ∀ a b, RU ([u, v] :: E) a b ↔ RU E a b := fun a b => ⟨fun h => by
      rcases ru_cons huv h with z | ⟨z1, z2⟩ | ⟨z1, z2⟩
      · exact z
      · exact z1.trans (huv'.trans z2)
      · exact z1.trans (huv'.symm.trans z2), fun h => h.mono hsub⟩
    refine ((List.perm_ext_iff_of_nodup hn1 hn2).mpr fun x => ?_).length_eq
    rw [mem_reps, mem_reps]
    unfold IsRep
    constructor
    · rintro ⟨h1, h2⟩
      exact ⟨h1, fun w hw hr => h2 w hw ((hsame x w).mpr hr)⟩
    · rintro ⟨h1, h2⟩
      exact ⟨h1, fun w hw hr => h2 w hw ((hsame x w).mp hr)⟩
  · intro hno
    obtain ⟨ru, hru, hrr, hra⟩ := rep_ex (E := E) hu
    obtain ⟨rv, hrv, hvr, hva⟩ := rep_ex (E := E) hv
    have hne : ru ≠ rv := fun e => hno (hra.symm.trans (by rw [e]; exact hva))
    -- the greater one of both stands for itself no more
    obtain ⟨lo, hi, hlo, hhi, hlh, hloV, hhiV, hloR, hhiR, hj⟩ : ∃ lo hi, (lo = ru ∨ lo = rv) ∧ (hi = ru ∨ hi = rv) ∧ lo < hi ∧ lo ∈ V ∧ hi ∈ V ∧ IsRep E V lo ∧ IsRep E V hi ∧ RU ([u, v] :: E) hi lo := by
      have hj : RU ([u, v] :: E) ru rv := ((hra.mono hsub).step hadj).trans (hva.symm.mono hsub)
      rcases Nat.lt_or_gt_of_ne hne with z | z
      · exact ⟨ru, rv, .inl rfl, .inr rfl, z, hru, hrv, hrr, hvr, hj.symm⟩
      · exact ⟨rv, ru, .inr rfl, .inl rfl, z, hrv, hru, hvr, hrr, hj⟩
    have key : ∀ x, x ∈ repsL E V ↔ x ∈ hi :: repsL ([u, v] :: E) V := fun x => by
      rw [List.mem_cons, mem_reps, mem_reps]
      constructor
      · rintro ⟨h1, h2⟩
        by_cases hx : x = hi
        · exact .inl hx
        · refine .inr ⟨h1, fun w hw hr => ?_⟩
          -- whoever is joined to x now was so, or x is the lower one
          have hxw : RU E x w ∨ x = lo := by
            rcases ru_cons huv hr with z | ⟨z1, z2⟩ | ⟨z1, z2⟩
            · exact .inl z
            · have : x = ru := rep_same h1 hru h2 hrr (z1.trans hra.symm)
              rcases hlo with e | e
              · exact .inr (this.trans e.symm)
              · rcases hhi with e' | e'
                · exact absurd (this.trans e'.symm) hx
                · rw [e, e'] at hlh; omega
            · have : x = rv := rep_same h1 hrv h2 hvr (z1.trans hva.symm)
              rcases hlo with e | e
              · rcases hhi with e' | e'
                · rw [e, e'] at hlh; omega
                · exact absurd (this.trans e'.symm) hx
              · exact .inr (this.trans e.symm)
          rcases hxw with z | rfl
          · exact h2 w hw z
          · -- w is joined to the lower one or to the higher one
            rcases ru_cons huv hr with z | ⟨z1, z2⟩ | ⟨z1, z2⟩
            · exact h2 w hw z
            · have h3 : rv ≤ w := hvr w hw (hva.trans z2)
              rcases hhi with e' | e'
              · rcases hlo with e | e
                · rw [e, e'] at hlh; omega
                · omega
              · omega
            · have h3 : ru ≤ w := hrr w hw (hra.trans z2)
              rcases hhi with e' | e'
              · omega
              · rcases hlo with e | e
                · omega
                · rw [e, e'] at hlh; omega
      · rintro (rfl | ⟨h1, h2⟩)
        · exact ⟨hhiV, hhiR⟩
        · exact ⟨h1, fun w hw hr => h2 w hw (hr.mono hsub)⟩
    have hhn : hi ∉ repsL ([u, v] :: E) V := fun z => by
      have := (mem_reps.mp z).2 lo hloV hj
      omega
    have := ((List.perm_ext_iff_of_nodup hn2 (List.nodup_cons.mpr ⟨hhn, hn1⟩)).mpr key).length_eq
    rw [List.length_cons] at this
    omega
/-- ties, lots and rings -/
theorem reps_count {V : List Nat} (hV : V.Nodup) : ∀ (E : List (List Nat)), (∀ l ∈ E, ∃ a b, l = [a, b] ∧ a < b ∧ a ∈ V ∧ b ∈ V) → E.Nodup → V.length ≤ E.length + (repsL E V).length ∧ ((∀ r, ¬ Cyc E r) ↔ E.length + (repsL E V).length = V.length)
  | [], _, _ => by
    have : repsL [] V = V := by
      unfold repsL
      refine List.filter_eq_self.mpr fun v hv => repB_iff.mpr fun w hw hr => ?_
      cases hr with
      | refl => exact Nat.le_refl _
      | step _ h => cases h
    rw [this]
    refine ⟨by simp, fun _ => by simp, fun _ r hc => ?_⟩
    have := hc.cl
    cases this
  | e :: E, hE, hn => by
    obtain ⟨ih1, ih2⟩ := reps_count hV E (fun l hl => hE l (List.mem_cons_of_mem _ hl)) (List.nodup_cons.mp hn).2
    obtain ⟨u, v, rfl, huv, hu, hv⟩ := hE e List.mem_cons_self
    have hsub : ∀ l ∈ E, l ∈ [u, v] :: E := fun l hl => List.mem_cons_of_mem _ hl
    have hasc : ∀ l ∈ [u, v] :: E, ∃ a b, l = [a, b] ∧ a < b := fun l hl => let ⟨a, b, e, h, _⟩ := hE l hl; ⟨a, b, e, h⟩
    obtain ⟨k1, k2⟩ := reps_cons (E := E) hV huv hu hv
    by_cases hc : RU E u v
    · have hk := k1 hc
      rw [hk, List.length_cons]
      refine ⟨by omega, fun z => ?_, fun z => by omega⟩
      exfalso
      obtain ⟨p, h1, h2, h3, h4, h5⟩ := hc.path
      refine z p ⟨?_, h2, h3.mono hsub, by rw [h4, h5]; exact adj_asc hasc List.mem_cons_self⟩
      match p, h1, h3, h4, h5 with
      | [a], _, _, h4, h5 =>
        have h4 : a = v := h4
        have h5 : a = u := h5
        omega
      | [a, b], _, h3, h4, h5 =>
        have h4 : a = v := h4
        have h5 : b = u := h5
        subst h4 h5
        have h3 : pr2 [a, b] ∈ E := h3.1
        unfold pr2 at h3
        dsimp only at h3
        rw [if_pos huv] at h3
        exact absurd h3 (List.nodup_cons.mp hn).1
      | a :: b :: c :: t, _, _, _, _ => simp
    · have hk := k2 hc
      rw [List.length_cons]
      refine ⟨by omega, ?_⟩
      rw [show E.length + 1 + (repsL ([u, v] :: E) V).length = V.length ↔ E.length + (repsL E V).length = V.length by omega, ← ih2]
      constructor
      · intro z r hr
        exact z r ⟨hr.len, hr.nd, hr.chn.mono hsub, hsub _ hr.cl⟩
      · intro z r hr
        -- a ring over the new tie would join its ends without it: by the sum of what it goes over it
        have hpot : ∃ f, Pot E (fun a b => if (a = u ∧ b = v) ∨ (a = v ∧ b = u) then 0 else 0) f := ⟨fun _ => 0, fun a b _ => by simp⟩
        classical
        let f : Nat → Int := fun x => if RU E u x then 1 else 0
        have hf : Pot E (fun _ _ => 0) f := fun a b hab => by
          have hadj := adj_asc (fun l hl => hasc l (hsub l hl)) hab
          show (if RU E u a then (1 : Int) else 0) - (if RU E u b then 1 else 0) = 0
          by_cases ha : RU E u a
          · rw [if_pos ha, if_pos (ha.step hadj)]; omega
          · rw [if_neg ha, if_neg (fun y => ha (y.step hadj.symm))]; omega
        -- no ring leaves the lot of u and comes back but over the new tie twice
        have hno : ∀ a b, Adj ([u, v] :: E) a b → (Adj E a b ∨ (a = u ∧ b = v) ∨ (a = v ∧ b = u)) := fun a b hab => by
          unfold Adj at hab
          rcases List.mem_cons.mp hab with y | y
          · unfold pr2 at y
            dsimp only at y
            split at y
            · cases y; exact .inr (.inr ⟨rfl, rfl⟩)
            · cases y; exact .inr (.inl ⟨rfl, rfl⟩)
          · exact .inl y
        obtain ⟨r', hr', hedge⟩ : ∃ r', Cyc ([u, v] :: E) r' ∧ ¬ Adj E (lst r') (hd r') := by
          -- some step of the ring is the new tie: turn the ring so that it closes there
          refine Classical.byContradiction fun hall => ?_
          have hcl : ∀ r', Cyc ([u, v] :: E) r' → Adj E (lst r') (hd r') := fun r' h' => Classical.byContradiction fun y => hall ⟨r', h', y⟩
          have hchn : ∀ s t : List Nat, r = s ++ t → s ≠ [] → t ≠ [] → Adj E (lst s) (hd t) := fun s t e hs htt => by
            have := hcl _ ((show Cyc ([u, v] :: E) (s ++ t) from e ▸ hr).rot hs htt)
            rw [lst_app hs, hd_app htt] at this
            exact this
          refine z r ⟨hr.len, hr.nd, (chn_iff r).mpr fun k hk => ?_, hcl r hr⟩
          have e : r = r.take (k + 1) ++ r.drop (k + 1) := (List.take_append_drop ..).symm
          have h1 : r.take (k + 1) ≠ [] := fun y => by
            have := congrArg List.length y
            rw [List.length_take, List.length_nil] at this
            omega
          have h2 : r.drop (k + 1) ≠ [] := fun y => by
            have := congrArg List.length y
            rw [List.length_drop, List.length_nil] at this
            omega
          have h3 := hchn _ _ e h1 h2
          have e1 : lst (r.take (k + 1)) = r.getD k 0 := by
            unfold lst
            rw [List.getLast?_eq_getElem?, List.length_take, List.getElem?_take, List.getD_eq_getElem?_getD]
            rw [if_pos (by omega), show min (k + 1) r.length - 1 = k by omega]
          have e2 : hd (r.drop (k + 1)) = r.getD (k + 1) 0 := by
            unfold hd
            rw [List.head?_drop, List.getD_eq_getElem?_getD]
          rw [e1, e2] at h3
          exact h3
        -- the rest of it is a walk without the new tie
        have hends := (hno _ _ hr'.cl).resolve_left hedge
        have hwalk : Chn E r' := (chn_iff r').mpr fun k hk => by
          refine (hno _ _ ((chn_iff r').mp hr'.chn k hk)).resolve_right fun y => ?_
          -- the same two places stand at the ends
          have hl := hr'.len
          have i1 : r'[0]? = some (hd r') := by
            unfold hd
            rw [← List.head?_eq_getElem?]
            cases r' with
            | nil => simp at hl
            | cons a t => rfl
          have i2 : r'[r'.length - 1]? = some (lst r') := by
            unfold lst
            rw [List.getLast?_eq_getElem?, List.getElem?_eq_getElem (by omega)]
            rfl
          have j1 : r'[k]? = some (r'.getD k 0) := by rw [List.getD_eq_getElem?_getD, List.getElem?_eq_getElem (by omega)]; rfl
          have j2 : r'[k + 1]? = some (r'.getD (k + 1) 0) := by rw [List.getD_eq_getElem?_getD, List.getElem?_eq_getElem hk]; rfl
          have inj : ∀ i j : Nat, i < r'.length → r'[i]? = r'[j]? → i = j := fun i j hi e => (List.getElem?_inj hi hr'.nd).mp e
          rcases hends with ⟨a1, a2⟩ | ⟨a1, a2⟩ <;> rcases y with ⟨b1, b2⟩ | ⟨b1, b2⟩
          · have q1 := inj k (r'.length - 1) (by omega) (by rw [j1, i2, b1, a1])
            omega
          · have q1 := inj k 0 (by omega) (by rw [j1, i1, b1, a2])
            have q2 := inj (k + 1) (r'.length - 1) hk (by rw [j2, i2, b2, a1])
            omega
          · have q1 := inj k 0 (by omega) (by rw [j1, i1, b1, a2])
            have q2 := inj (k + 1) (r'.length - 1) hk (by rw [j2, i2, b2, a1])
            omega
          · have q1 := inj k (r'.length - 1) (by omega) (by rw [j1, i2, b1, a1])
            omega
        have hne : r' ≠ [] := fun y => by have := hr'.len; rw [y] at this; simp at this
        have hp := hf.pth (fun _ _ _ => by omega) hne hwalk
        have h0 : ∀ p : List Nat, pth (fun _ _ => 0) p = 0 := fun p => by
          induction p with
          | nil => rfl
          | cons a t ih =>
            cases t with
            | nil => rfl
            | cons b t =>
              show 0 + pth (fun _ _ => 0) (b :: t) = 0
              rw [ih]
              rfl
        rw [h0] at hp
        have hu1 : f u = 1 := if_pos .refl
        have hv1 : f v = 0 := if_neg hc
        rcases hends with ⟨a1, a2⟩ | ⟨a1, a2⟩
        · rw [a1, a2, hu1, hv1] at hp; omega
        · rw [a1, a2, hu1, hv1] at hp; omega
theorem Ties.one {ls : List (List Nat)} (h : Ties ls) : (repsL ls (us ls.flatten)).length = 1 := by
  -- all places hang together
  have hall : ∀ a ∈ ls.flatten, ∀ b ∈ ls.flatten, RU ls a b := by
    obtain ⟨l0, L, e⟩ : ∃ l0 L, ls = l0 :: L := by
      cases ls with
      | nil => exact absurd rfl h.ne
      | cons l0 L => exact ⟨l0, L, rfl⟩
    have hh : ls.head? = some l0 := by rw [e]; rfl
    obtain ⟨u, v, e0, _, huv, _⟩ := h.pr l0 (by rw [e]; simp)
    have hreach : ∀ x ∈ ls.flatten, RU ls u x := by
      refine h.conn (fun x => RU ls u x) (fun l1 hl1 x hx => ?_) (fun a b hab => ?_)
      · rw [hh] at hl1
        cases hl1
        rw [e0] at hx
        have hadj : Adj ls u v := adj_asc (asc_pairs h) (by rw [e, e0]; simp)
        rcases List.mem_cons.mp hx with z | z
        · rw [z]; exact .refl
        · rw [List.mem_singleton.mp z]; exact RU.refl.step hadj
      · have hadj := adj_asc (asc_pairs h) hab
        rintro (z | z)
        · exact ⟨z, z.step hadj⟩
        · exact ⟨z.step hadj.symm, z⟩
    exact fun a ha b hb => (hreach a ha).symm.trans (hreach b hb)
  obtain ⟨p, r, e⟩ := us_ne h
  have hpm : p ∈ us ls.flatten := by rw [e]; simp
  obtain ⟨m, hm, hr, _⟩ := rep_ex (E := ls) hpm
  have hkey : ∀ x, x ∈ repsL ls (us ls.flatten) ↔ x ∈ [m] := fun x => by
    rw [mem_reps, List.mem_singleton]
    constructor
    · rintro ⟨h1, h2⟩
      exact rep_same h1 hm h2 hr (hall x (mem_us.mp h1) m (mem_us.mp hm))
    · rintro rfl
      exact ⟨hm, hr⟩
  exact ((List.perm_ext_iff_of_nodup ((us_nodup _).filter _) (by simp)).mpr hkey).length_eq
/-- a web has no rings just if it has one place more than ties -/
theorem tree_iff {ls : List (List Nat)} (h : Ties ls) : rgs ls = [] ↔ ls.length + 1 = (us ls.flatten).length := by
  have hE : ∀ l ∈ ls, ∃ a b, l = [a, b] ∧ a < b ∧ a ∈ us ls.flatten ∧ b ∈ us ls.flatten := fun l hl => by
    obtain ⟨a, b, e, _, h2, _⟩ := h.pr l hl
    exact ⟨a, b, e, h2, mem_us.mpr (List.mem_flatten.mpr ⟨l, hl, by rw [e]; simp⟩), mem_us.mpr (List.mem_flatten.mpr ⟨l, hl, by rw [e]; simp⟩)⟩
  obtain ⟨_, h2⟩ := reps_count (us_nodup ls.flatten) ls hE (ties_nodup h)
  rw [h.one] at h2
  rw [← h2]
  constructor
  · intro z r hr
    obtain ⟨q, hq, _⟩ := hr.form
    have := (mem_rgs h).mpr hq
    rw [z] at this
    cases this
  · intro z
    refine List.eq_nil_iff_forall_not_mem.mpr fun r hr => ?_
    exact z r ((mem_rgs h).mp hr).toCyc
end Pdl
namespace Pdl
open PySem L2 PyProof.Rows
end Pdl
namespace Pdl
open PySem L2 PyProof.Rows
/-- the pairs that stand side by side, the last and the first one ahead -/
def zp (r : List Nat) : List (Nat × Nat) := r.zip r.tail
def cp (r : List Nat) : List (Nat × Nat) := (lst r, hd r) :: zp r
def p2 (p : Nat × Nat) : List Nat := pr2 [p.1, p.2]
theorem zp_cons {a b : Nat} {t : List Nat} : zp (a :: b :: t) = (a, b) :: zp (b :: t) := rfl
theorem zp_mem : ∀ {r : List Nat} {p : Nat × Nat}, p ∈ zp r → p.1 ∈ r ∧ p.2 ∈ r
  | [], p, h => by cases h
  | [a], p, h => by cases h
  | a :: b :: t, p, h => by
    rw [zp_cons] at h
    rcases List.mem_cons.mp h with rfl | h
    · simp
    · have := zp_mem h
      exact ⟨List.mem_cons_of_mem _ this.1, List.mem_cons_of_mem _ this.2⟩
theorem zp_pot (g : Nat → Nat → Int) : ∀ r : List Nat, r.Nodup → ∃ f : Nat → Int, ∀ p ∈ zp r, f p.1 - f p.2 = g p.1 p.2
  | [], _ => ⟨fun _ => 0, fun p h => by cases h⟩
  | [a], _ => ⟨fun _ => 0, fun p h => by cases h⟩
  | a :: b :: t, h => by
    obtain ⟨h1, h2⟩ := List.nodup_cons.mp h
    obtain ⟨f, hf⟩ := zp_pot g (b :: t) h2
    refine ⟨fun x => if x = a then f b + g a b else f x, fun p hp => ?_⟩
    rw [zp_cons] at hp
    have hb : b ≠ a := fun z => h1 (by rw [z]; simp)
    rcases List.mem_cons.mp hp with rfl | hp
    · dsimp only
      rw [if_pos rfl, if_neg hb]
      omega
    · have hm := zp_mem hp
      dsimp only
      rw [if_neg (fun z => h1 (by rw [← z]; exact hm.1)), if_neg (fun z => h1 (by rw [← z]; exact hm.2))]
      exact hf p hp
theorem zp_tele {g : Nat → Nat → Int} {f : Nat → Int} : ∀ {r : List Nat}, r ≠ [] → (∀ p ∈ zp r, f p.1 - f p.2 = g p.1 p.2) → pth g r = f (hd r) - f (lst r)
  | [], z, _ => absurd rfl z
  | [a], _, _ => by show (0 : Int) = f a - f a; omega
  | a :: b :: t, _, h => by
    have ih := zp_tele (r := b :: t) (by simp) fun p hp => h p (by rw [zp_cons]; exact List.mem_cons_of_mem _ hp)
    have h1 := h (a, b) (by rw [zp_cons]; simp)
    show g a b + pth g (b :: t) = f a - f (lst (a :: b :: t))
    rw [ih, lst_cons, hd_cons]
    dsimp only at h1
    omega
theorem pth_sum (g : Nat → Nat → Int) : ∀ r : List Nat, pth g r = ((zp r).map fun p => g p.1 p.2).sum
  | [] => rfl
  | [_] => rfl
  | a :: b :: t => by
    rw [zp_cons, List.map_cons, List.sum_cons, ← pth_sum g (b :: t)]
    rfl
theorem rnd_sum (g : Nat → Nat → Int) (r : List Nat) : rnd g r = ((cp r).map fun p => g p.1 p.2).sum := by
  unfold rnd cp
  rw [pth_sum, List.map_cons, List.sum_cons]
theorem chn_zp {ls : List (List Nat)} : ∀ {r : List Nat}, (∀ p ∈ zp r, Adj ls p.1 p.2) → Chn ls r
  | [], _ => trivial
  | [_], _ => trivial
  | a :: b :: t, h => ⟨h (a, b) (by rw [zp_cons]; simp), chn_zp (r := b :: t) fun p hp => h p (by rw [zp_cons]; exact List.mem_cons_of_mem _ hp)⟩
theorem zp_len : ∀ {r : List Nat}, r ≠ [] → (zp r).length + 1 = r.length
  | [], z => absurd rfl z
  | [_], _ => rfl
  | a :: b :: t, _ => by
    have := zp_len (r := b :: t) (by simp)
    rw [zp_cons]
    simp only [List.length_cons] at *
    omega
theorem cp_len {r : List Nat} (h : r ≠ []) : (cp r).length = r.length := by
  have := zp_len h
  unfold cp
  rw [List.length_cons]
  exact this
/-- ties that are one ring -/
structure RingT (ls : List (List Nat)) (r : List Nat) : Prop where
  ties : Ties ls
  nd : r.Nodup
  len : 3 ≤ r.length
  perm : ls.Perm ((cp r).map p2)
theorem RingT.ne {ls : List (List Nat)} {r : List Nat} (h : RingT ls r) : r ≠ [] := fun z => by
  have := h.len
  rw [z] at this
  simp at this
theorem RingT.adj {ls : List (List Nat)} {r : List Nat} (h : RingT ls r) {p : Nat × Nat} (hp : p ∈ cp r) : Adj ls p.1 p.2 := h.perm.mem_iff.mpr (List.mem_map_of_mem hp)
theorem RingT.cyc {ls : List (List Nat)} {r : List Nat} (h : RingT ls r) : Cyc ls r :=
  ⟨h.len, h.nd, chn_zp fun p hp => h.adj (List.mem_cons_of_mem _ hp), h.adj (p := (lst r, hd r)) List.mem_cons_self⟩
theorem RingT.llen {ls : List (List Nat)} {r : List Nat} (h : RingT ls r) : ls.length = r.length := by
  rw [h.perm.length_eq, List.length_map, cp_len h.ne]
theorem RingT.of {ls : List (List Nat)} {r : List Nat} (h : RingT ls r) {a b : Nat} (hab : Adj ls a b) : (a, b) ∈ cp r ∨ (b, a) ∈ cp r := by
  obtain ⟨⟨x, y⟩, hp, e⟩ := List.mem_map.mp (h.perm.mem_iff.mp hab)
  unfold p2 pr2 at e
  dsimp only at e
  split at e <;> split at e <;> cases e
  · exact .inl hp
  · exact .inr hp
  · exact .inr hp
  · exact .inl hp
theorem Ties.adj_ne {ls : List (List Nat)} (h : Ties ls) {a : Nat} : ¬ Adj ls a a := fun hab => by
  obtain ⟨x, y, e, _, h2, _⟩ := h.pr _ hab
  unfold pr2 at e
  dsimp only at e
  split at e <;> cases e <;> omega
theorem RingT.anti {ls : List (List Nat)} {r : List Nat} (h : RingT ls r) {a b : Nat} (hab : (a, b) ∈ cp r) : (b, a) ∉ cp r := fun hba => by
  have hn : ((cp r).map p2).Nodup := h.perm.nodup_iff.mp (ties_nodup h.ties)
  have hne : (a, b) ≠ (b, a) := fun z => by
    cases z
    exact h.ties.adj_ne (h.adj hab)
  have h1 := (List.pairwise_map.mp hn)
  obtain ⟨i, hi⟩ := List.mem_iff_getElem?.mp hab
  obtain ⟨j, hj⟩ := List.mem_iff_getElem?.mp hba
  have e1 : ((cp r).map p2)[i]? = some (p2 (a, b)) := by rw [List.getElem?_map, hi]; rfl
  have e2 : ((cp r).map p2)[j]? = some (p2 (a, b)) := by rw [List.getElem?_map, hj]; exact congrArg some pr2_comm
  have hij := (List.getElem?_inj (List.getElem?_eq_some_iff.mp e1).1 hn).mp (e1.trans e2.symm)
  subst hij
  exact hne (Option.some.inj (hi.symm.trans hj))
theorem RingT.pot {ls : List (List Nat)} {r : List Nat} (h : RingT ls r) {g : Nat → Nat → Int} (hg : ∀ a b, Adj ls a b → g b a = - g a b) (h0 : rnd g r = 0) : ∃ f, Pot ls g f := by
  obtain ⟨f, hf⟩ := zp_pot g r h.nd
  have ht := zp_tele h.ne hf
  have hc : ∀ p ∈ cp r, f p.1 - f p.2 = g p.1 p.2 := fun p hp => by
    rcases List.mem_cons.mp hp with rfl | hp
    · unfold rnd at h0
      dsimp only
      omega
    · exact hf p hp
  refine ⟨f, fun a b hab => ?_⟩
  have hA := adj_asc (asc_pairs h.ties) hab
  rcases h.of hA with z | z
  · exact hc _ z
  · have h1 := hc _ z
    have h2 := hg a b hA
    dsimp only at h1
    omega
def sgB (r : List Nat) (l : List Nat) : Bool := decide ((fst2 l, snd2 l) ∈ cp r)
def fth (r : List Nat) (as : List (List Nat)) : Nat := as.countP (sgB r)
theorem sgB_rev {ls : List (List Nat)} {r : List Nat} (h : RingT ls r) {l : List Nat} (hl : l ∈ ls) : sgB r l.reverse = !sgB r l := by
  obtain ⟨a, b, rfl, _⟩ := h.ties.pr l hl
  have hA := adj_asc (asc_pairs h.ties) hl
  show decide ((b, a) ∈ cp r) = !decide ((a, b) ∈ cp r)
  rcases h.of hA with z | z
  · simp [z, h.anti z]
  · simp [z, h.anti z]
/-- of a way to lay arrows on ties: which of the two -/
theorem one_way {ls as : List (List Nat)} (ht : Ties ls) (h2 : Two as) (hs : as.map pr2 = ls) {a b : Nat} (hab : Adj ls a b) : [b, a] ∈ as ↔ [a, b] ∉ as := by
  have hne : a ≠ b := fun z => by
    subst z
    exact ht.adj_ne hab
  have hn : (as.map pr2).Nodup := by rw [hs]; exact ties_nodup ht
  constructor
  · intro h1 h3
    obtain ⟨i, hi⟩ := List.mem_iff_getElem?.mp h1
    obtain ⟨j, hj⟩ := List.mem_iff_getElem?.mp h3
    have e1 : (as.map pr2)[i]? = some (pr2 [a, b]) := by rw [List.getElem?_map, hi]; exact congrArg some pr2_comm
    have e2 : (as.map pr2)[j]? = some (pr2 [a, b]) := by rw [List.getElem?_map, hj]; rfl
    have hij := (List.getElem?_inj (List.getElem?_eq_some_iff.mp e1).1 hn).mp (e1.trans e2.symm)
    subst hij
    have := Option.some.inj (hi.symm.trans hj)
    cases this
    exact hne rfl
  · intro h1
    have hab' : pr2 [a, b] ∈ as.map pr2 := by rw [hs]; exact hab
    obtain ⟨l, hl, e⟩ := List.mem_map.mp hab'
    obtain ⟨x, y, rfl⟩ := h2 l hl
    unfold pr2 at e
    dsimp only at e
    split at e <;> split at e <;> cases e
    · exact absurd hl h1
    · exact hl
    · exact hl
    · exact absurd hl h1
theorem xof_ant {ls as : List (List Nat)} (ht : Ties ls) (h2 : Two as) (hs : as.map pr2 = ls) {a b : Nat} (hab : Adj ls a b) : xof as b a = - xof as a b := by
  have := one_way ht h2 hs hab
  unfold xof
  by_cases h : [a, b] ∈ as
  · rw [if_pos h, if_neg (fun z => this.mp z h)]
  · rw [if_neg h, if_pos (this.mpr h)]
    rfl
def sgI (r : List Nat) (l : List Nat) : Int := if sgB r l then 1 else -1
theorem sum_sg (r : List Nat) : ∀ as : List (List Nat), (as.map (sgI r)).sum = 2 * (fth r as : Int) - as.length
  | [] => rfl
  | l :: as => by
    have ih := sum_sg r as
    unfold fth at *
    rw [List.map_cons, List.sum_cons, ih, List.countP_cons]
    unfold sgI
    by_cases h : sgB r l
    · rw [if_pos h, if_pos h]
      simp only [List.length_cons]
      omega
    · rw [if_neg h, if_neg h]
      simp only [List.length_cons]
      omega
theorem perm_sum {L M : List Int} (h : L.Perm M) : L.sum = M.sum := by
  induction h with
  | nil => rfl
  | cons x _ ih => rw [List.sum_cons, List.sum_cons, ih]
  | swap x y l => rw [List.sum_cons, List.sum_cons, List.sum_cons, List.sum_cons]; omega
  | trans _ _ h1 h2 => exact h1.trans h2
theorem tal_fth {ls as : List (List Nat)} {r : List Nat} (h : RingT ls r) (h2 : Two as) (hs : as.map pr2 = ls) : tal as r = 2 * (fth r as : Int) - r.length := by
  have hl : as.length = r.length := by rw [← h.llen, ← hs, List.length_map]
  rw [← hl, ← sum_sg]
  -- the sign at a tie
  let F : List Nat → Int := fun t => if t ∈ as then sgI r t else sgI r t.reverse
  have e1 : as.map (sgI r) = ls.map F := by
    rw [← hs, List.map_map]
    refine List.map_congr_left fun l hm => ?_
    obtain ⟨a, b, rfl⟩ := h2 l hm
    have hA : Adj ls a b := by rw [← hs]; exact List.mem_map_of_mem hm
    show sgI r [a, b] = F (pr2 [a, b])
    unfold pr2
    dsimp only
    split
    · show _ = if [b, a] ∈ as then sgI r [b, a] else sgI r [a, b]
      rw [if_neg (fun z => (one_way h.ties h2 hs hA).mp z hm)]
    · show _ = if [a, b] ∈ as then sgI r [a, b] else sgI r [b, a]
      rw [if_pos hm]
  have e2 : (ls.map F).sum = (((cp r).map p2).map F).sum := perm_sum (h.perm.map F)
  unfold tal
  rw [e1, e2, rnd_sum, List.map_map]
  congr 1
  refine List.map_congr_left fun p hp => ?_
  obtain ⟨a, b⟩ := p
  have hA : Adj ls a b := h.adj hp
  have ho := one_way h.ties h2 hs hA
  have hq : sgI r [a, b] = 1 := if_pos (decide_eq_true hp)
  have hq' : sgI r [b, a] = -1 := if_neg (by show ¬ (decide ((b, a) ∈ cp r) = true); rw [decide_eq_true_iff]; exact h.anti hp)
  show xof as a b = F (pr2 [a, b])
  unfold xof
  show _ = F (if b < a then [b, a] else [a, b])
  by_cases hba : b < a
  · rw [if_pos hba]
    show _ = if [b, a] ∈ as then sgI r [b, a] else sgI r [a, b]
    by_cases z : [a, b] ∈ as
    · rw [if_pos z, if_neg (fun y => ho.mp y z), hq]
    · rw [if_neg z, if_pos (ho.mpr z), hq']
  · rw [if_neg hba]
    show _ = if [a, b] ∈ as then sgI r [a, b] else sgI r [b, a]
    by_cases z : [a, b] ∈ as
    · rw [if_pos z, if_pos z, hq]
    · rw [if_neg z, if_neg z, hq']
theorem RingT.rk {ls as : List (List Nat)} {r : List Nat} (h : RingT ls r) (h2 : Two as) (hs : as.map pr2 = ls) : Ranked as ↔ 0 < fth r as ∧ fth r as < r.length := by
  have ht := tal_fth h h2 hs
  constructor
  · intro hr
    have := tal_lt h2 hr (r := r) (by rw [hs]; exact h.cyc)
    omega
  · intro hk
    let g : Nat → Nat → Int := fun a b => (if (a, b) ∈ cp r then tal as r else - tal as r) - r.length * xof as a b
    have hg : ∀ a b, Adj ls a b → g b a = - g a b := fun a b hab => by
      have hx := xof_ant h.ties h2 hs hab
      show (if (b, a) ∈ cp r then tal as r else - tal as r) - r.length * xof as b a = - ((if (a, b) ∈ cp r then tal as r else - tal as r) - r.length * xof as a b)
      rw [hx, Int.mul_neg]
      rcases h.of hab with z | z
      · rw [if_pos z, if_neg (h.anti z)]
        omega
      · rw [if_pos z, if_neg (h.anti z)]
        omega
    have h0 : rnd g r = 0 := by
      have e : ∀ (L : List (Nat × Nat)), (∀ p ∈ L, p ∈ cp r) → (L.map fun p => g p.1 p.2).sum = L.length * tal as r - r.length * (L.map fun p => xof as p.1 p.2).sum := by
        intro L
        induction L with
        | nil => intro _; simp
        | cons p L ih =>
          intro hL
          have ih := ih fun q hq => hL q (List.mem_cons_of_mem _ hq)
          have hp : g p.1 p.2 = tal as r - r.length * xof as p.1 p.2 := by
            show (if (p.1, p.2) ∈ cp r then tal as r else - tal as r) - _ = _
            rw [if_pos (hL p List.mem_cons_self)]
          rw [List.map_cons, List.sum_cons, List.map_cons, List.sum_cons, ih, hp, List.length_cons, Int.mul_add, Int.natCast_add, Int.add_mul]
          omega
      rw [rnd_sum, e _ fun p hp => hp, ← rnd_sum, cp_len h.ne]
      show _ - _ * tal as r = 0
      omega
    obtain ⟨f, hf⟩ := h.pot hg h0
    -- along each arrow the number grows
    have hup : ∀ a b, [a, b] ∈ as → f a < f b := fun a b hab => by
      have hA : Adj ls a b := by rw [← hs]; exact List.mem_map_of_mem hab
      have h1 := hf.adj hg hA
      have h3 : g a b = (if (a, b) ∈ cp r then tal as r else - tal as r) - r.length * xof as a b := rfl
      have hx : xof as a b = 1 := if_pos hab
      rw [hx] at h3
      split at h3 <;> omega
    obtain ⟨m, hm⟩ : ∃ m : Int, ∀ a ∈ as.flatten, m ≤ f a := by
      generalize as.flatten = L
      induction L with
      | nil => exact ⟨0, fun a ha => by cases ha⟩
      | cons x L ih =>
        obtain ⟨m, hm⟩ := ih
        refine ⟨min m (f x), fun a ha => ?_⟩
        rcases List.mem_cons.mp ha with rfl | ha
        · omega
        · have := hm a ha
          omega
    refine ⟨fun a => (f a - m).toNat, fun a b hab => ?_⟩
    have h1 := hup a b hab
    have h3 := hm a (List.mem_flatten.mpr ⟨_, hab, by simp⟩)
    show (f a - m).toNat < (f b - m).toNat
    omega
theorem RingT.like {ls as bs : List (List Nat)} {r : List Nat} (h : RingT ls r) (ha : as ∈ flows ls) (hb : bs ∈ flows ls) : Reach as bs ↔ fth r as = fth r bs := by
  obtain ⟨a1, a2⟩ := (mem_flows h.ties).mp ha
  obtain ⟨b1, b2⟩ := (mem_flows h.ties).mp hb
  have hs : SameW as bs := a2.trans b2.symm
  have t1 := tal_fth h a1.two a2
  have t2 := tal_fth h b1.two b2
  have hr := rnd_g as bs r
  rw [← fit_iff a1 b1.two hs]
  have hg := g_anti a1 b1 hs
  have hiff : (∃ f, Fit as bs f) ↔ ∃ f, Pot ls (gOf as bs) f := by
    constructor <;> rintro ⟨f, hf⟩ <;> refine ⟨f, ?_⟩
    · have := (fit_g a1 b1 hs).mp hf
      rwa [a2] at this
    · refine (fit_g a1 b1 hs).mpr ?_
      rwa [a2]
  rw [a2] at hg
  rw [hiff]
  constructor
  · rintro ⟨f, hf⟩
    have := hf.rnd hg h.cyc
    omega
  · intro e
    exact h.pot hg (by rw [e] at t1; omega)
def chs : Nat → Nat → Nat
  | _, 0 => 1
  | 0, _ + 1 => 0
  | n + 1, k + 1 => chs n k + chs n (k + 1)
theorem lotsQ_snoc (ls : List (List Nat)) (d : List Nat) : lotsQ (ls ++ [d]) = stepQ (lotsQ ls) d := by
  unfold lotsQ
  rw [List.foldl_append]
  rfl
theorem lots_cnt (φ : List Nat → Bool) : ∀ (m : List (List Nat)), (∀ l ∈ m, φ l.reverse = !φ l) → ∀ k, ((lotsQ m.reverse).countP fun w => w.countP φ == k) = chs m.length k
  | [], _, k => by
    cases k <;> rfl
  | d :: m, h, k => by
    have ih := lots_cnt φ m fun l hl => h l (List.mem_cons_of_mem _ hl)
    have hd := h d List.mem_cons_self
    rw [List.reverse_cons, lotsQ_snoc]
    unfold stepQ
    rw [List.countP_append, List.countP_map, List.countP_map]
    have e : ∀ (x : List Nat), ((fun w => List.countP φ w == k) ∘ fun l : List (List Nat) => l ++ [x]) = fun w => (w.countP φ + if φ x then 1 else 0) == k := fun x => by
      funext w
      show (List.countP φ (w ++ [x]) == k) = _
      rw [List.countP_append, List.countP_cons, List.countP_nil, Nat.zero_add]
    rw [e, e, hd]
    have e0 : (fun w : List (List Nat) => (w.countP φ + 0) == k) = fun w => w.countP φ == k := rfl
    have e1 : ∀ j, k = j + 1 → (fun w : List (List Nat) => (w.countP φ + 1) == k) = fun w => w.countP φ == j := fun j hj => by
      subst hj
      funext w
      show decide _ = decide _
      congr 1
      simp
    have e2 : k = 0 → (lotsQ m.reverse).countP (fun w : List (List Nat) => (w.countP φ + 1) == k) = 0 := fun hk => by
      subst hk
      rw [List.countP_eq_zero]
      intro w _ z
      have := of_decide_eq_true z
      omega
    cases k with
    | zero =>
      cases hφ : φ d
      · show List.countP (fun w : List (List Nat) => (w.countP φ + 0) == 0) _ + List.countP (fun w : List (List Nat) => (w.countP φ + 1) == 0) _ = _
        rw [e2 rfl, e0, ih 0, List.length_cons]
        unfold chs
        rfl
      · show List.countP (fun w : List (List Nat) => (w.countP φ + 1) == 0) _ + List.countP (fun w : List (List Nat) => (w.countP φ + 0) == 0) _ = _
        rw [e2 rfl, e0, ih 0, List.length_cons]
        unfold chs
        rfl
    | succ k =>
      cases hφ : φ d
      · show List.countP (fun w : List (List Nat) => (w.countP φ + 0) == k + 1) _ + List.countP (fun w : List (List Nat) => (w.countP φ + 1) == k + 1) _ = _
        rw [e1 k rfl, e0, ih k, ih (k + 1), List.length_cons]
        rw [show chs (m.length + 1) (k + 1) = chs m.length k + chs m.length (k + 1) by rw [chs]]
        omega
      · show List.countP (fun w : List (List Nat) => (w.countP φ + 1) == k + 1) _ + List.countP (fun w : List (List Nat) => (w.countP φ + 0) == k + 1) _ = _
        rw [e1 k rfl, e0, ih k, ih (k + 1), List.length_cons]
        rw [show chs (m.length + 1) (k + 1) = chs m.length k + chs m.length (k + 1) by rw [chs]]
end Pdl
namespace Pdl
open PySem L2 PyProof.Rows
theorem flows_cnt (ls : List (List Nat)) (P : List (List Nat) → Bool) : (flows ls).countP P = (lotsQ ls).countP fun w => P w && rkB w := by
  unfold flows
  rw [(srtE_perm _ _).countP_eq, List.countP_filter]
theorem lots_facts {ls w : List (List Nat)} (h : Ties ls) (hw : w ∈ lotsQ ls) : Two w ∧ w.map pr2 = ls := by
  obtain ⟨t1, t2⟩ := allL_two h.two (mem_lotsQ.mp hw)
  have t2 : ls.map pr2 = w.map pr2 := t2
  exact ⟨t1, by rw [← t2, h.pr2s]⟩
theorem RingT.cnt {ls : List (List Nat)} {r : List Nat} (h : RingT ls r) {k : Nat} (h0 : 0 < k) (hk : k < r.length) : (flows ls).countP (fun w => fth r w == k) = chs r.length k := by
  rw [flows_cnt]
  have e : (lotsQ ls).countP (fun w => (fth r w == k) && rkB w) = (lotsQ ls).countP fun w => w.countP (sgB r) == k := by
    refine List.countP_congr fun w hw => ?_
    obtain ⟨h2, hs⟩ := lots_facts h.ties hw
    rw [Bool.and_eq_true]
    constructor
    · exact fun z => z.1
    · intro z
      refine ⟨z, rkB_t h2 ((h.rk h2 hs).mpr ?_)⟩
      have : fth r w = k := eq_of_beq z
      omega
  rw [e]
  have := lots_cnt (sgB r) ls.reverse (fun l hl => sgB_rev h (List.mem_reverse.mp hl)) k
  rw [List.reverse_reverse, List.length_reverse, h.llen] at this
  exact this
theorem RingT.mem {ls w : List (List Nat)} {r : List Nat} (h : RingT ls r) (hw : w ∈ flows ls) : 0 < fth r w ∧ fth r w < r.length := by
  obtain ⟨a1, a2⟩ := (mem_flows h.ties).mp hw
  exact (h.rk a1.two a2).mp a1.rk
theorem Ties.some {ls : List (List Nat)} (h : Ties ls) : ∃ p, p ∈ ls.flatten := by
  obtain ⟨p, r, e⟩ := us_ne h
  exact ⟨p, mem_us.mp (by rw [e]; simp)⟩
structure TreeT (ls : List (List Nat)) : Prop where
  ties : Ties ls
  cnt : ls.length + 1 = (us ls.flatten).length
theorem TreeT.no {ls : List (List Nat)} (h : TreeT ls) {r : List Nat} : ¬ Cyc ls r := fun hc => by
  obtain ⟨q, hq, _⟩ := hc.form
  have := (mem_rgs h.ties).mpr hq
  rw [(tree_iff h.ties).mpr h.cnt] at this
  cases this
theorem TreeT.like {ls as bs : List (List Nat)} (h : TreeT ls) (ha : as ∈ flows ls) (hb : bs ∈ flows ls) : Reach as bs := by
  obtain ⟨a1, a2⟩ := (mem_flows h.ties).mp ha
  obtain ⟨b1, b2⟩ := (mem_flows h.ties).mp hb
  refine (tal_iff a1 b1 (a2.trans b2.symm)).mpr fun r hr => ?_
  rw [a2] at hr
  exact absurd hr.toCyc h.no
theorem pot_rank {as : List (List Nat)} {f : Nat → Int} (hup : ∀ a b, [a, b] ∈ as → f a < f b) : Ranked as := by
  obtain ⟨m, hm⟩ : ∃ m : Int, ∀ a ∈ as.flatten, m ≤ f a := by
    generalize as.flatten = L
    induction L with
    | nil => exact ⟨0, fun a ha => by cases ha⟩
    | cons x L ih =>
      obtain ⟨m, hm⟩ := ih
      refine ⟨min m (f x), fun a ha => ?_⟩
      rcases List.mem_cons.mp ha with rfl | ha
      · omega
      · have := hm a ha
        omega
  refine ⟨fun a => (f a - m).toNat, fun a b hab => ?_⟩
  have h1 := hup a b hab
  have h3 := hm a (List.mem_flatten.mpr ⟨_, hab, by simp⟩)
  show (f a - m).toNat < (f b - m).toNat
  omega
theorem TreeT.rk {ls as : List (List Nat)} (h : TreeT ls) (h2 : Two as) (hs : as.map pr2 = ls) : Ranked as := by
  have hg : ∀ a b, Adj ls a b → (fun a b => - xof as a b) b a = - (fun a b => - xof as a b) a b := fun a b hab => by
    have := xof_ant h.ties h2 hs hab
    dsimp only
    omega
  obtain ⟨f, hf⟩ := pot_ex ls (asc_pairs h.ties) (ties_nodup h.ties) hg fun r hc => absurd hc h.no
  refine pot_rank (f := f) fun a b hab => ?_
  have hA : Adj ls a b := by rw [← hs]; exact List.mem_map_of_mem hab
  have h1 := hf.adj hg hA
  have hx : xof as a b = 1 := if_pos hab
  rw [hx] at h1
  omega
theorem lt2 {a b c d : Nat} (h : a < c ∨ a = c ∧ b < d) : [a, b] < [c, d] := by
  rcases h with h | ⟨rfl, h⟩
  · exact List.Lex.rel h
  · exact List.Lex.cons (List.Lex.rel h)
end Pdl
namespace Pdl
open PySem L2 PyProof.Rows
end Pdl
namespace Pdl
open PySem L2 PyProof.Rows
end Pdl
namespace Pdl
open PySem L2 PyProof.Rows PySem.W
theorem zp_all {C : Nat → Prop} : ∀ {l : List Nat}, (∀ p ∈ zp l, C p.1 ∨ C p.2 → C p.1 ∧ C p.2) → (∃ x ∈ l, C x) → ∀ x ∈ l, C x
  | [], _, _, x, h => by cases h
  | [a], _, ⟨y, hy, hc⟩, x, h => by
    obtain rfl := List.mem_singleton.mp hy
    obtain rfl := List.mem_singleton.mp h
    exact hc
  | a :: b :: l, hc, ⟨y, hy, hC⟩, x, h => by
    have h1 := hc (a, b) (by rw [zp_cons]; simp)
    have ih := zp_all (C := C) (l := b :: l) fun p hp => hc p (by rw [zp_cons]; exact List.mem_cons_of_mem _ hp)
    have hall : ∀ x ∈ b :: l, C x := by
      rcases List.mem_cons.mp hy with rfl | hy
      · exact ih ⟨b, by simp, (h1 (.inl hC)).2⟩
      · exact ih ⟨y, hy, hC⟩
    rcases List.mem_cons.mp h with rfl | h
    · exact (h1 (.inr (hall b (by simp)))).1
    · exact hall x h
theorem zp_in : ∀ {l : List Nat} {x : Nat}, x ∈ l.tail → ∃ p ∈ zp l, p.2 = x
  | [], _, h => by cases h
  | [a], _, h => by cases h
  | a :: b :: l, x, h => by
    rw [zp_cons]
    rcases List.mem_cons.mp (show x ∈ b :: l from h) with rfl | h
    · exact ⟨(a, x), by simp, rfl⟩
    · obtain ⟨p, hp, e⟩ := zp_in (l := b :: l) (x := x) h
      exact ⟨p, List.mem_cons_of_mem _ hp, e⟩
/-- the pairs as the law reads them -/
theorem cp_eq : ∀ {o : List Nat}, o ≠ [] → cp o = (List.range o.length).map fun k => (pvs o k, o.getD k 0)
  | [], z => absurd rfl z
  | a :: t, _ => by
    rw [List.length_cons, List.range_succ_eq_map, List.map_cons, List.map_map]
    unfold cp
    congr 1
    have : ∀ (a : Nat) (t : List Nat), zp (a :: t) = (List.range t.length).map fun k => ((a :: t).getD k 0, (a :: t).getD (k + 1) 0) := by
      intro a t
      induction t generalizing a with
      | nil => rfl
      | cons b t ih =>
        rw [zp_cons, ih b, List.length_cons, List.range_succ_eq_map, List.map_cons, List.map_map]
        rfl
    rw [this]
    refine List.map_congr_left fun k _ => ?_
    show _ = (pvs (a :: t) (k + 1), (a :: t).getD (k + 1) 0)
    unfold pvs
    rw [if_neg (by omega)]
    rfl
theorem FarOk.le {as : List (List Nat)} {n m : Nat} (h : FarOk as n) (k : FarOk as m) : n ≤ m := by
  obtain ⟨b, ⟨row, h1, h2⟩, h3⟩ := h.some
  obtain ⟨r, h4, h5⟩ := k.all b ⟨row, h1⟩
  have := h3 r h4
  omega
theorem FarOk.uniq {as : List (List Nat)} {n m : Nat} (h : FarOk as n) (k : FarOk as m) : n = m := Nat.le_antisymm (h.le k) (k.le h)
end Pdl
namespace Pdl
open PySem L2 PyProof.Rows
/-- the exceptions that the mode wants are taken here -/
def TkD (X : Cx) (μ : Md) : Prop := L2.Takes X fun cls d σ H => wD X.K μ σ cls d H
/-- the context of a body that may raise -/
abbrev bXx (P : Program) (w : World) (K : PySem.W.Frag) (mg : Str → Option Value) (base : Heap) (N : List Str) (qual : Str) (st : Stmt) (f : Addr) (cdv : Value) (A : Around) (outer : List Env) (s : Shared) (H : Hp) (E : XK) : Cx :=
  cxOf (L2.CX P w) P w K mg base N qual (defScope st) f cdv A outer s H E
section
variable {P : Program} {w : World} {K : PySem.W.Frag} {mg : Str → Option Value} {base : Heap}
/-- THE RULE for a def that may raise -/
theorem fn_DX {x qual : Str} {st : Stmt} {f : Addr} {fd : FuncData} {N ps : List Str} {k : Nat} {S : SpD} (F : Fun K x qual st f fd) (sc : FnScope N ps (defScope st)) (len : ∀ ds c Q E, S ds c Q E → ds.length = ps.length)
    (hbody : ∀ (cdv : Value) (A : Around) (outer : List Env) (s : Shared) (H : Hp) (E0 : XK), Room k (bXx P w K mg base N qual st f cdv A outer s H E0).A →
      ∀ m ds c Q E, TkD (bXx P w K mg base N qual st f cdv A outer s H E0) (mdOf m c H E) → S ds c Q E → XB (bXx P w K mg base N qual st f cdv A outer s H E0) (mdOf m c H E) (defBody st) ⟨startD N ds, c⟩ (poOf Q)) : FnOk P w K mg base (L2.CX P w) (k + 1) f fd ps (spD K S) := by
  refine F.okX sc (fun vs H Q E h => ?_) (fun cdv A outer s H vs Q E hr h => ?_)
  · obtain ⟨m, ds, c, _, r, hs⟩ := h
    rw [r.length]
    exact len _ _ _ _ hs
  · obtain ⟨m, ds, c, co, r, hs⟩ := h
    have tk : TkD (bXx P w K mg base N qual st f cdv A outer s H E) (mdOf m c H fun x c' => ∀ cls dx H', Fw c c' H H' → COk K m H' c' → ExRp K (hid (tot m c') H') cls dx x → E cls dx H') :=
      (L2.takes_of (E := E) rfl rfl rfl rfl).imp fun cls d σ H' ⟨x, Γ, R, rx, hE⟩ => hE cls d H' R.fw R.co rx
    exact ⟨_, hbody cdv A outer s H E hr m ds c _ _ tk hs, ⟨co, slots_start r, Fw.refl _ _⟩, fun σ' H' Γ' f R q => q _ H' f R.co .non, fun v σ' H' d Γ' f R rd q => q v H' f R.co rd, fun _ _ _ _ _ q => q.elim, fun _ _ _ _ _ q => q.elim⟩
end
end Pdl
namespace Pdl
open PySem L2 PyProof.Rows
end Pdl
namespace Pdl
open PySem L2 PyProof.Rows PySem.HandSPX
end Pdl
namespace Pdl
open PySem L2 PyProof.Rows
end Pdl
namespace Pdl
open PySem L2 PyProof.Rows
end Pdl
namespace Pdl
open PySem L2 PyProof.Rows
/-- the context of a body that may raise -/
abbrev cXx (T : Wd) (N : List Str) (x : Str) (st : Stmt) (f : Addr) (cdv : Value) (A : Around) (outer : List Env) (s : Shared) (H : Hp) (E : XK) : Cx := bXx T.P T.w T.K T.mg T.base N x st f cdv A outer s H E
end Pdl
namespace Pdl
open PySem L2 PyProof.Rows
end Pdl
namespace Pdl
open PySem L2 PyProof.Rows
end Pdl
namespace Pdl
open PySem L2 PyProof.Rows
end Pdl
namespace Pdl
open PySem L2 PyProof.Rows
def PurI (N : Nat) (xs : List D) : Prop := ∃ a b c : Int, xs = [.int a, .int b, .int c] ∧ 0 ≤ a ∧ 0 ≤ b ∧ b < 4294967296 ∧ 0 ≤ c ∧ c + N ≤ 1152921504606846976
theorem PurI.le {N N' : Nat} {xs : List D} (h : PurI N xs) (hn : N' ≤ N) : PurI N' xs := by
  obtain ⟨a, b, c, e, h1, h2, h3, h4, h5⟩ := h
  exact ⟨a, b, c, e, h1, h2, h3, h4, by omega⟩
/-- promises with a purse: at most so many draws -/
def purS (n : Nat) (S : PSp) : SpD := fun ds cs Q _ => ∃ J xs N ds', ds = .ref J :: ds' ∧ cs = [(J, .lst xs)] ∧ PurI (N + n) xs ∧ S ds' fun d => ∀ xs', PurI N xs' → Q d [(J, .lst xs')]
abbrev Cu (T : Wd) (x : Str) (k n : Nat) (S : PSp) : Prop := Ca T x k (purS n S)
section
variable {X : Cx} {μ : Md} {Γ : En} {Q : QE} {k n c : Nat} {x : Str} {p pos apos : Pos} {e o : Expr} {es : List Expr}
theorem asks_u {S : PSp} {J : Addr} {xs : List D} {N : Nat} {cs : Cs} {ds : List D} (hc : Γ.c = (J, .lst xs) :: cs) (hp : PurI (N + c) xs) (h : ∀ Qc : D → Prop, (∀ d, (∀ xs', PurI N xs' → Q d ⟨Γ.s, (J, .lst xs') :: cs⟩) → Qc d) → S ds Qc) : Asks μ (purS c S) Q (.ref J :: ds) Γ :=
  ⟨[(J, .lst xs)], cs, hc, fun Qc Ec kq _ => ⟨J, xs, N, ds, rfl, rfl, hp, h _ fun d hq xs' hp' => kq d [(J, .lst xs')] (hq xs' hp')⟩⟩
/-- what a call with a purse asks -/
def AsksU (c : Nat) (S : PSp) (Q : QE) : List D → En → Prop := fun ds Γ1 => ∃ J xs N cs ds', ds = .ref J :: ds' ∧ Γ1.c = (J, .lst xs) :: cs ∧ PurI (N + c) xs ∧ ∀ Qc : D → Prop, (∀ d, (∀ xs', PurI N xs' → Q d ⟨Γ1.s, (J, .lst xs') :: cs⟩) → Qc d) → S ds' Qc
/-- f(purse, e, ..) -/
theorem xe_cu {S : PSp} (C : Cu (wdX X) x k c S) (hr : Room n X.A) (hkn : k ≤ n) (hg : Gl X x) (h : XA X μ (e :: es) Γ (AsksU c S Q)) (hdb : (x == ("__debug__" : Str)) = false := by decide)
    (he : starEach (e :: es) X.env = (false, eval e X.env) :: starEach es X.env := by rfl) (hpl : (backTo pos (starEach es X.env)).any (·.1) = false := by rfl) : XE X μ (.Call (.Name x p) (e :: es) [] pos) Γ Q := by
  obtain ⟨ps, C⟩ := C
  refine xe_call C (hr.mono hkn) hg (PA.imp h fun σ H q ⟨R, k⟩ => ⟨R, fun vs H' ds Γ' s' f' R' r' hq => k vs H' ds Γ' s' f' R' r' ?_⟩) hdb he hpl
  obtain ⟨J, xs, N, cs, ds', rfl, hc, hp, hq⟩ := hq
  exact asks_u hc hp hq
theorem xe_dct0 (h : Q (.dct []) Γ) : XE X μ (.Dict [] [] pos) Γ Q :=
  PE.imp pe_dnewK fun σ H q ⟨R, k⟩ => fun p hp => by
    have hf := R.fresh hp
    have e := sub_upd (o := .dK []) hp
    exact k _ _ _ Γ rfl (Fw.of_sub e) (R.more e) (.dct (hid_upd hf) .nil) h
theorem cr_tuple_str (hc : X.calm = true) : CallR X (.type "tuple") (fun xs H Q => ∃ l : List Nat, xs = [.str (S l)] ∧ l.length ≤ sizeLine ∧ ∀ p, H p = none → Q (.ref p) (upd H p (.tup (((ch l).map S).map V.str)))) := by
  intro pins s σ H xs us Q I r h
  obtain ⟨l, rfl, hz, q⟩ := h
  obtain ⟨u, rfl, ru⟩ := vals1 r
  obtain ⟨t, rfl⟩ := ru
  refine call_tuple_str (I.ok.hd hc) (S l) t (fun h' tk acc hk hi => ?_) (by show l.toArray.size ≤ _; simpa using hz)
  have I2 : Inv X pins σ H { s with heap := h', toks := tk } := I.kept hk
  refine ⟨.ref h'.objs.size, upd H h'.objs.size (.tup (((ch l).map S).map V.str)), I2.laid (t' := tk) (fun c o e => Heap.get?_push_of_some _ e) (Nat.le_refl _) (show ObjOk X.prog X.w _ _ _ (.tup (((ch l).map S).map V.str)) from ⟨by simp [ch]; exact hz, acc.toList, ?_, ?_⟩), rfl, q _ (I2.hok.fresh (Nat.le_refl _))⟩
  · refine vals_of_idx _ _ (by simp [ch]; have := hi.1; simpa [S] using this) fun j u hj => ?_
    obtain ⟨c, t', hc, rfl⟩ := hi.2 j u (by rw [← Array.getElem?_toList]; exact hj)
    refine ⟨.str (S [c]), ?_, ⟨_, rfl⟩⟩
    have hc : l[j]? = some c := by
      have : l.toArray[j]? = some c := hc
      simpa using this
    simp [ch, hc]
  · rw [Array.toArray_toList]; exact IsTup.new _ _
theorem cd_tuple_str {l : List Nat} (hl : l.length ≤ 100000) (hc : X.calm = true := by rfl) : CallD X (.type "tuple") [.str (S l)] (.tup (SL (ch l))) := .of (cr_tuple_str hc) fun vs H q m hm h1 k => by
  obtain ⟨v, rfl, r⟩ := h1.one
  cases r
  refine ⟨l, rfl, Nat.le_trans hl (by decide), fun p hp => ?_⟩
  refine k _ _ (sub_upd hp) (.tup (.of (hid_upd (fresh_m hm hp))) ?_)
  rw [SL_strs]
  exact RpA.strs _
theorem cd_list_str {l : List Nat} (hl : l.length ≤ 100000) (hc : X.calm = true := by rfl) : CallD X (.type "list") [.str (S l)] (.lst (SL (ch l))) := .of (cr_list_str hc) fun vs H q m hm h1 k => by
  obtain ⟨v, rfl, r⟩ := h1.one
  cases r
  refine ⟨l, rfl, Nat.le_trans hl (by decide), fun p hp => ?_⟩
  refine k _ _ (sub_upd hp) (.lst (.of (hid_upd (fresh_m hm hp))) ?_)
  rw [SL_strs]
  exact RpA.strs _
/-- data that is no text -/
inductive NoStr : D → Prop
  | non : NoStr .non
  | bl {b : Bool} : NoStr (.bl b)
  | int {i : Int} : NoStr (.int i)
  | lst {xs : List D} : NoStr (.lst xs)
  | tup {xs : List D} : NoStr (.tup xs)
  | dct {xs : List (Key × D)} : NoStr (.dct xs)
theorem isi_nostr {d : D} (h : NoStr d) : CallD X (.builtin "isinstance") [d, .ty "str"] (.bl false) := by
  cases h with
  | non => exact cd_isi .non .ty (kit_ty (by decide +kernel))
  | bl => exact cd_isi .bl .ty (kit_ty (by decide +kernel))
  | int => exact cd_isi .int .ty (kit_ty (by decide +kernel))
  | lst => exact cd_isi .lst .ty (kit_ty (by decide +kernel))
  | tup => exact cd_isi .tup .ty (kit_ty (by decide +kernel))
  | dct => exact cd_isi .dct .ty (kit_ty (by decide +kernel))
end
end Pdl
namespace Pdl
open PySem L2 PyProof.Rows
/-- a paper: a text of some length, or no text -/
def CertOk (n : Nat) (d : D) : Prop := (∃ row, d = .str (S row) ∧ row.length ≤ n) ∨ NoStr d
theorem CertOk.le {n n' : Nat} {d : D} (h : CertOk n d) (hn : n ≤ n') : CertOk n' d := by
  rcases h with ⟨row, e, hl⟩ | h
  · exact .inl ⟨row, e, by omega⟩
  · exact .inr h
structure RndI (as cur : List (List Nat)) (f : List Nat) : Prop where
  row : Row as f cur
  nd : f.Nodup
  fit : Fit cur as fun x => if x ∈ f then 0 else 1
theorem RndI.start {as : List (List Nat)} : RndI as as [] := ⟨.nil, List.nodup_nil, fun i a b o h1 h2 => by
  rw [h1] at h2
  cases h2
  simp⟩
theorem RndI.sub {as cur : List (List Nat)} {f : List Nat} (ha : Arrs as) (h : RndI as cur f) : ∀ x ∈ f, x ∈ us as.flatten := fun x hx => mem_us.mpr (by
  have : ∀ {as cur : List (List Nat)} {f : List Nat}, Row as f cur → ∀ x ∈ f, x ∈ as.flatten := fun hr => by
    induction hr with
    | nil => intro x hx; cases hx
    | cons hp hg h ih =>
      intro x hx
      rcases List.mem_cons.mp hx with e | e
      · subst e; exact hp
      · exact mem_exch_flat.mp (ih x e)
  exact this h.row x hx)
theorem RndI.same {as cur : List (List Nat)} {f : List Nat} (ha : Arrs as) (h : RndI as cur f) : Arrs cur ∧ SameW cur as ∧ us cur.flatten = us as.flatten := by
  have hc := h.row.arrs ha
  obtain ⟨t1, t2, t3, t4⟩ := h.row.facts ha.two ha.rk
  refine ⟨hc, t3.symm, ?_⟩
  rw [← us_pr2 t1, ← us_pr2 ha.two, show as.map pr2 = cur.map pr2 from t3]
theorem RndI.ex {as cur : List (List Nat)} {f : List Nat} (ha : Arrs as) (h : RndI as cur f) (hl : f.length < (us as.flatten).length) : ∃ p ∈ us as.flatten, givesB cur p = true ∧ p ∉ f := by
  obtain ⟨hc, hs, hu⟩ := h.same ha
  have : ¬ ∀ x ∈ us as.flatten, x ∈ f := fun z => by
    have := nodup_len (us_nodup as.flatten) z
    omega
  obtain ⟨p, hp, hpf⟩ : ∃ p ∈ us as.flatten, p ∉ f := by
    refine Decidable.byContradiction fun hn => this fun x hx => Decidable.byContradiction fun hf => hn ⟨x, hx, hf⟩
  obtain ⟨q, hq1, hq2, hq3⟩ := h.fit.giver hc.two hc.rk hs (p := p) (by rw [← hu] at hp; exact mem_us.mp hp) (by rw [if_neg hpf]; decide)
  refine ⟨q, by rw [← hu]; exact mem_us.mpr hq1, (givesB_iff hc.two).mpr hq3, fun z => ?_⟩
  rw [if_pos z] at hq2
  omega
theorem RndI.next {as cur : List (List Nat)} {f : List Nat} {p : Nat} (ha : Arrs as) (h : RndI as cur f) (hp : p ∈ us as.flatten) (hg : givesB cur p = true) (hf : p ∉ f) : RndI as (exch cur p) (f ++ [p]) := by
  obtain ⟨hc, hs, hu⟩ := h.same ha
  have hg := (givesB_iff hc.two).mp hg
  refine ⟨h.row.snoc (by rw [← hu] at hp; exact mem_us.mp hp) hg, ?_, ?_⟩
  · rw [List.nodup_append]
    exact ⟨h.nd, by simp, fun a ha b hb e => hf (by rw [List.mem_singleton.mp hb] at e; rw [← e]; exact ha)⟩
  · have := h.fit.turn hc.two ha.two hs hc.rk.noLoop hg
    refine fun i a b o h1 h2 => ?_
    have e := this i a b o h1 h2
    rw [← e]
    have key : ∀ x, (if x ∈ f ++ [p] then (0 : Int) else 1) = if x = p then (if x ∈ f then (0 : Int) else 1) - 1 else if x ∈ f then 0 else 1 := fun x => by
      by_cases hx : x = p
      · subst hx
        rw [if_pos (by simp), if_pos rfl, if_neg hf]
        rfl
      · rw [if_neg hx]
        simp [hx]
    show (if a ∈ f ++ [p] then (0 : Int) else 1) - (if b ∈ f ++ [p] then (0 : Int) else 1) = _
    rw [key, key]
theorem RndI.done {as cur : List (List Nat)} {f : List Nat} (ha : Arrs as) (h : RndI as cur f) (hl : (us as.flatten).length ≤ f.length) : cur = as := by
  obtain ⟨hc, hs, hu⟩ := h.same ha
  have hall : ∀ x ∈ us as.flatten, x ∈ f := fun x hx => Decidable.byContradiction fun hn => by
    have h1 : (x :: f).Nodup := List.nodup_cons.mpr ⟨hn, h.nd⟩
    have h2 := nodup_len h1 (m := us as.flatten) fun y hy => by
      rcases List.mem_cons.mp hy with e | e
      · rw [e]; exact hx
      · exact h.sub ha y e
    simp at h2
    omega
  refine h.fit.zero hc.two hs fun x hx => ?_
  rw [if_pos (hall x (by rw [← hu]; exact mem_us.mpr hx))]
end Pdl
namespace Pdl
open PySem L2 PyProof.Rows PySem.Spec
abbrev TabL := List (List Nat × Int)
def entI (e : DictEntry) : Option (Str × Int) := match e.key, e.val with
  | .str x _, .int i _ => some (x, i)
  | _, _ => none
def tabE (kvs : TabL) : List (Option (Str × Int)) := kvs.map fun p => some (S p.1, p.2)
structure TabI (K : PySem.W.Frag) (w : World) (a : Addr) (kvs : TabL) : Prop where
  ex : ∃ es n, KDict K w a es n ∧ es.toList.map entI = tabE kvs
def tabV (kvs : TabL) (k : List Nat) (d : D) : D := match kvs.lookup k with
  | some i => .int i
  | none => d
theorem tab_find {z : List Nat} : ∀ {l : List DictEntry} {kvs : TabL}, l.map entI = tabE kvs → (∀ i, kvs.lookup z = some i → ∃ e t, l.find? (fun d => Value.isStrOf (S z) d.key) = some e ∧ e.val = .int i t) ∧ (kvs.lookup z = none → l.find? (fun d => Value.isStrOf (S z) d.key) = none)
  | [], [], _ => ⟨fun i h => (by cases h), fun _ => rfl⟩
  | [], _ :: _, h => by cases h
  | _ :: _, [], h => by cases h
  | e :: l, (k, i) :: kvs, h => by
    have h1 : entI e :: l.map entI = some (S k, i) :: tabE kvs := h
    injection h1 with h2 h3
    obtain ⟨i1, i2⟩ := tab_find (z := z) h3
    obtain ⟨x, t, i', u, ek, ev, ex, ei⟩ : ∃ x t i' u, e.key = .str x t ∧ e.val = .int i' u ∧ x = S k ∧ i' = i := by
      unfold entI at h2
      split at h2
      · rename_i x t i' u q1 q2
        cases h2
        exact ⟨_, _, _, _, q1, q2, rfl, rfl⟩
      · cases h2
    subst ex; subst ei
    rw [List.lookup_cons, List.find?_cons]
    have hb : Value.isStrOf (S z) e.key = (z == k) := by
      rw [ek]
      show (S k == S z) = (z == k)
      by_cases hzk : z = k
      · subst hzk; simp
      · have : ¬ S k = S z := fun q => hzk (S_inj q).symm
        rw [beq_eq_false_iff_ne.mpr this, beq_eq_false_iff_ne.mpr hzk]
    rw [hb]
    cases hzk : (z == k) with
    | true => exact ⟨fun j hj => (by cases hj; exact ⟨e, u, rfl, ev⟩), fun hj => by cases hj⟩
    | false => exact ⟨i1, i2⟩
section
variable {X : Cx} {μ : Md} {Γ : En} {Q : QE} {x : Str} {a : Addr} {kvs : TabL} {p apos cpos : Pos} {e f : Expr} {te tf : TE}
def tGetI (kvs : TabL) (te tf : TE) : TE := fun σ H Q => te σ H fun y H1 => tf σ H1 fun z H2 => ∃ k : List Nat, y = .str (S k) ∧ Q (match kvs.lookup k with | some i => .int i | none => z) H2
theorem pe_getI (T : TabI X.K X.w a kvs) (hm : X.mg x = some (.ref a)) (hg : Gl X x) (he : PE X e te) (hf : PE X f tf) (m : M2 X (.Name x p) "get" apos e f cpos) (hdb : (x == ("__debug__" : Str)) = false) :
    PE X (.Call (.Attribute (.Name x p) "get" apos) [e, f] [] cpos) (tGetI kvs te tf) := by
  obtain ⟨es, n, D, hent⟩ := T.ex
  refine ⟨fun pins s σ H Q I h => ?_⟩
  have mp : ∀ {s' : Shared}, X.K.In s'.heap → s'.heap.MapOf (strKind X.prog X.w) a (fun k => findBy Value.isStrOf es k) := fun kin => PySem.W.mapOf_K (prog := X.prog) (w := X.w) kin D.at_ D.lit
  refine wpAny_Call_method m.base m.few m.line PySem.F.plainAttrs_dict PySem.F.slot_dict_get PySem.F.type_dict_get (ld_glob I hg hm ?_ hdb)
  refine ⟨(mp I.kIn).typeIs, fun b hb => ?_, ?_⟩
  · cases hb
    exact ⟨_, I.kIn _ _ D.at_, rfl⟩
  rw [m.trees]
  refine Calls.callWith_builtin rfl (Calls.evalArgs_plain (Calls.spliced_cons (thn (he.run pins s σ H _ I h) fun iv s2 ⟨y, H2, I2, ry, q2⟩ =>
    Calls.spliced_cons (thn (hf.run pins s2 σ H2 _ I2 q2) fun fv s3 ⟨z, H3, I3, rz, k, ey, q3⟩ => Calls.spliced_nil ?_))))
  subst ey
  obtain ⟨t, rfl⟩ := ry
  refine call_meetsIn PySem.F.slot_dict_get (mp I3.kIn).typeIs PySem.F.entry_dict_get (PySem.F.args_dict_get_3 _ _ _) (meets_dict_get_default (strKind X.prog X.w) a (strKind_is X.prog X.w (S k) t) D.low fv) ⟨_, mp I3.kIn, ?_⟩
  obtain ⟨f1, f2⟩ := tab_find (z := k) hent
  have ef : findBy Value.isStrOf es (S k) = (es.toList.find? fun d => Value.isStrOf (S k) d.key).map (·.val) := by
    obtain ⟨l⟩ := es
    simp [findBy]
  cases hl : kvs.lookup k with
  | some i =>
    rw [hl] at q3
    obtain ⟨e', t', h1, h2⟩ := f1 i hl
    refine ⟨.int i, H3, I3.tok _, ?_, q3⟩
    rw [ef, h1]
    exact ⟨t', h2⟩
  | none =>
    rw [hl] at q3
    refine ⟨z, H3, I3.tok _, ?_, q3⟩
    rw [ef, f2 hl]
    exact rz
/-- the module's table under x -/
def GT (T : Wd) (x : Str) (kvs : TabL) : Prop := ∃ a, T.mg x = some (.ref a) ∧ TabI T.K T.w a kvs
/-- TABLE.get(e, f) -/
theorem xe_getI (T : GT (wdX X) x kvs) (hg : Gl X x) (h : XE X μ e Γ fun y Γ1 => XE X μ f Γ1 fun z Γ2 => ∃ k : List Nat, y = .str (S k) ∧ Q (tabV kvs k z) Γ2) (hdb : (x == ("__debug__" : Str)) = false := by decide)
    (m : M2 X (.Name x p) "get" apos e f cpos := by exact ⟨rfl, rfl, rfl, rfl⟩) : XE X μ (.Call (.Attribute (.Name x p) "get" apos) [e, f] [] cpos) Γ Q := by
  obtain ⟨a, hm, T⟩ := T
  refine PE.imp (pe_getI T hm hg h pe_u m hdb) fun σ H q ⟨R, k⟩ => ?_
  refine ⟨R, fun y H2 dy Γ2 s2 f2 R2 r2 hf => ⟨_, hf, R2, fun z H3 dz Γ3 s3 f3 R3 r3 ⟨kk, hy, hq⟩ => ?_⟩⟩
  subst hy
  cases r2
  refine ⟨kk, rfl, ?_⟩
  unfold tabV at hq
  cases hl : kvs.lookup kk with
  | some i =>
    rw [hl] at hq
    exact k _ H3 _ _ (s3.trans s2) (f2.trans f3) R3 (.int i) hq
  | none =>
    rw [hl] at hq
    exact k _ H3 _ _ (s3.trans s2) (f2.trans f3) R3 r3 hq
end
theorem od_isB {X : Cx} {a b : Bool} : OpD X (compareOp .Is) (.bl a) (.bl b) (.bl (decide (a = b))) := .of op_isBl fun x y H q m _ h1 h2 k => by
  cases h1; cases h2
  exact ⟨a, b, rfl, rfl, k _ H (Sub.refl H) (.bl _)⟩
end Pdl
namespace Pdl
open PySem L2 PyProof.Rows
end Pdl
namespace Pdl
open PySem L2 PyProof.Rows
/-- kinds of things that are no own ones -/
inductive OthV (K : PySem.W.Frag) (H : Hp) : V → String → Prop
  | non : OthV K H .non "NoneType"
  | int (i : Int) : OthV K H (.int i) "int"
  | str (x : Str) : OthV K H (.str x) "str"
  | lst {a : Addr} {xs : List V} : SqL K H a xs → OthV K H (.ref a) "list"
  | tup {a : Addr} {xs : List V} : H a = some (.tup xs) → OthV K H (.ref a) "tuple"
  | dct {a : Addr} {kvs : List (Key × V)} : H a = some (.dK kvs) → OthV K H (.ref a) "dict"
def kinds : List String := ["NoneType", "int", "str", "list", "tuple", "dict"]
theorem OthV.mem {K : PySem.W.Frag} {H : Hp} {v : V} {T : String} (h : OthV K H v T) : T ∈ kinds := by cases h <;> simp [kinds]
/-- data of another kind -/
inductive OthD : D → String → Prop
  | non : OthD .non "NoneType"
  | int (i : Int) : OthD (.int i) "int"
  | str (x : Str) : OthD (.str x) "str"
  | lst (xs : List D) : OthD (.lst xs) "list"
  | tup (xs : List D) : OthD (.tup xs) "tuple"
  | dct (kvs : List (Key × D)) : OthD (.dct kvs) "dict"
theorem OthV.sub {K : PySem.W.Frag} {G G' : Hp} {v : V} {T : String} (e : Sub G G') (h : OthV K G v T) : OthV K G' v T := by
  cases h with
  | non => exact .non
  | int i => exact .int i
  | str x => exact .str x
  | lst s => exact .lst (e.sqL s)
  | tup s => exact .tup (e _ _ s)
  | dct s => exact .dct (e _ _ s)
end Pdl
namespace Pdl
open PySem L2 PyProof.Rows
def gU {α : Type} (ix : List Nat) (us ws : List α) : List α := us ++ ix.filterMap (ws[·]?)
def MkK (T : Wd) (x : Str) (C : Addr) (k : Nat) (ks : List Str) (ix : List Nat) (S : ISp) : Prop :=
  ∃ (f : Addr) (fd : FuncData) (ps : List Str), T.mg x = some (.ref C) ∧ Mk T.K C f ∧ FnOk T.P T.w T.K T.mg T.base CX0 k f fd ps (spD T.K (iS C S)) ∧ KBn T.K fd ps 1 ks (gU ix) (gU ix)
def MeK (T : Wd) (C : Addr) (f : Str) (k : Nat) (ks : List Str) (ix : List Nat) (S : PSp) : Prop :=
  ∃ (g : Addr) (fd : FuncData) (ps : List Str), Cls T.K C ∧ Meth T.K C f g ∧ FnOk T.P T.w T.K T.mg T.base CX0 k g fd ps (spD T.K (pS S)) ∧ KBn T.K fd ps 1 ks (gU ix) (gU ix)
def CmK (T : Wd) (C : Addr) (f : Str) (k : Nat) (ks : List Str) (ix : List Nat) (S : PSp) : Prop :=
  ∃ (mc : Value) (p g : Addr) (fd : FuncData) (ps : List Str), ClX.CRead T.K C mc ∧ ClX.CMet T.K C mc f p g ∧ FnOk T.P T.w T.K T.mg T.base CX0 k g fd ps (spD T.K (pS S)) ∧ KBn T.K fd ps 1 ks (gU ix) (gU ix)
section
variable {X : Cx} {μ : Md} {Γ Γ' : En} {Q : QE} {a b c e o : Expr} {es : List Expr} {kws : List Keyword} {pos apos cpos p : Pos} {k n : Nat} {xn f : Str} {C : Addr} {ks : List Str} {ix : List Nat}
theorem xe_mkw {S : ISp} (M : MkK (wdX X) xn C k ks ix S) (hr : Room n X.A) (hkn : k + 1 ≤ n) (hg : Gl X xn)
    (h : XKw X μ kws Γ fun ds Γ1 => ds.length = ks.length ∧ ∀ Qc : List (Str × D) → Prop, (∀ fs, Q (.ins C fs) Γ1 → Qc fs) → S (ix.filterMap (ds[·]?)) Qc)
    (hks : (backToKw pos (keywordEach kws X.env)).filterMap (·.1) = ks := by rfl) (hall : (backToKw pos (keywordEach kws X.env)).all (·.1.isSome) = true := by rfl)
    (hdb : (xn == ("__debug__" : Str)) = false := by decide) (hpl : ((backTo pos (starEach [] X.env)).any (·.1) || (backToKw pos (keywordEach kws X.env)).any (·.1.isNone)) = false := by rfl) : XE X μ (.Call (.Name xn p) [] kws pos) Γ Q := by
  obtain ⟨f, fd, ps, hm, mk, F, bd⟩ := M
  refine PE.imp pe_u fun σ H q ⟨R, k⟩ => ⟨_, L2.pe_makeK0 (E := wD X.K μ σ) mk F (hr.mono hkn) hg hm bd pass0' h hall hks hdb hpl, R, fun vs H1 ds Γ1 s1 f1 R1 r1 ⟨hl, hs⟩ => ⟨rfl, r1.length.trans hl, fun x dx hx hdx hne => ?_⟩⟩
  show spD X.K (iS C S) (.ref x :: ([] ++ ix.filterMap (vs[·]?))) _ _ (wD X.K μ σ)
  rw [List.nil_append]
  obtain ⟨sl, cs⟩ := Γ1
  obtain ⟨R2, f2⟩ := R1.newF (C := C) hx hdx hne
  refine asks_sp (Q := fun d Γ' => d = .non ∧ ∃ fs, Γ' = ⟨sl, (x, .ins C fs) :: cs⟩ ∧ Q (.ins C fs) ⟨sl, cs⟩) R2 (.cons (.ref x) ((r1.pick ix).mono f2.sub)) ?_ fun v H3 d Γ3 s3 f3 R3 r3 ⟨hd, fs, hG, hq⟩ => ?_
  · refine ⟨[(x, .ins C [])], cs, rfl, fun Qc Ec kq _ => ⟨x, _, rfl, rfl, hs _ fun fs hq => kq _ _ ⟨rfl, fs, rfl, hq⟩⟩⟩
  · subst hd; subst hG
    cases r3
    obtain ⟨R4, f4, _⟩ := Rel.freeze (c1 := []) R3 (.inr (.inr trivial))
    exact ⟨rfl, k _ H3 _ ⟨sl, cs⟩ s1 (((f1.trans f2).trans f3).trans f4) R4 (frozen (c1 := []) R3 rfl) hq⟩
/-- o.m(k = e, ..) -/
theorem pe_methW {pl : Sem Bool} {fd : FuncData} {ps : List Str} {sp : Sp} {E : XK} {ta : TE} {tk : TA} {g' : Addr} (he : PE X o ta) (cl : Cls X.K C) (hm : Meth X.K C f g') (F : FnOk X.prog X.w X.K X.mg X.base CX0 k g' fd ps sp) (hr : Room k X.A) (kb : KBn X.K fd ps 1 ks (gU ix) (gU ix)) (hkw : PK X kws tk)
    (hks : (backToKw pos (keywordEach kws X.env)).filterMap (·.1) = ks) (hall : (backToKw pos (keywordEach kws X.env)).all (·.1.isSome) = true)
    (hpl : ((backTo pos (starEach [] X.env)).any (·.1) || (backToKw pos (keywordEach kws X.env)).any (·.1.isNone)) = false)
    (ht : eval (.Call (.Attribute o f apos) [] kws pos) X.env = (do
      let ov ← eval o X.env
      standAt apos.atName
      let (f, first) ← holding [ov] (getMethod ov f pl)
      callWith pos f first (backTo pos (starEach [] X.env)) (backToKw pos (keywordEach kws X.env)))) :
    PE X (.Call (.Attribute o f apos) [] kws pos) (fun σ H Q => ta σ H fun x H1 => ∃ a dx fs, x = .ref a ∧ H1 a = some (.ins C dx fs) ∧ fs.lookup f = none ∧ tk σ H1 fun zs H2 => zs.length = ks.length ∧ sp (.ref a :: ix.filterMap (zs[·]?)) H2 Q E) := by
  refine ⟨fun pins s σ H Q I h => ?_⟩
  refine PySem.W.methodCall_KW (pl := pl) (thn (he.run pins s σ H _ I h) fun u s1 ⟨x, H1, I1, rx, a, dx, fs, ex, ea, l, q⟩ => ?_) ht
  subst ex
  cases (show u = Value.ref a from rx)
  refine getmeth_ok I1 ea cl hm l ?_
  refine PySem.W.callWith_KW0 (first := [.ref a]) (h₀ := X.base) I.ok.mod.kin hm.kp hall (thn (hkw.run pos pins s1 σ H1 _ I1 q) fun ws s2 ⟨zs, H2, I2, rz, l2, q2⟩ => ⟨I2.kIn, ?_⟩) hpl
  rw [hks]
  have r2 : Vals (gU ix [V.ref a] zs) (gU ix [Value.ref a] ws) := kb.rel (.cons rfl .nil) rz
  refine wpAny_call (codeAny_mono (F.run X.A X.stack s2 H2 ⟨[.ref a], ks.zip ws⟩ (gU ix [Value.ref a] ws) (gU ix [V.ref a] zs) Q E hr I2.env0 (kb.to s2 [.ref a] ws I2.kIn rfl (rz.length.symm.trans l2)) r2 q2) fun r s' hq => ?_)
  cases r with
  | error e => exact hq.elim
  | ok fl =>
    cases fl with
    | ret u => exact I2.after hq
    | next => exact False.elim hq
    | brk => exact False.elim hq
    | cont => exact False.elim hq
theorem xe_mew {pl : Sem Bool} {S : PSp} (M : MeK (wdX X) C f k ks ix S) (hr : Room n X.A) (hkn : k ≤ n) (h : XE X μ o Γ fun z Γ1 => ∃ fs, z = .ins C fs ∧ fs.lookup f = none ∧ XKw X μ kws Γ1 fun ds Γ2 => ds.length = ks.length ∧ ∀ Qc : D → Prop, (∀ d, Q d Γ2 → Qc d) → S (.ins C fs :: ix.filterMap (ds[·]?)) Qc)
    (hks : (backToKw pos (keywordEach kws X.env)).filterMap (·.1) = ks := by rfl) (hall : (backToKw pos (keywordEach kws X.env)).all (·.1.isSome) = true := by rfl)
    (hpl : ((backTo pos (starEach [] X.env)).any (·.1) || (backToKw pos (keywordEach kws X.env)).any (·.1.isNone)) = false := by rfl)
    (ht : eval (.Call (.Attribute o f apos) [] kws pos) X.env = (do
      let ov ← eval o X.env
      standAt apos.atName
      let (f, first) ← holding [ov] (getMethod ov f pl)
      callWith pos f first (backTo pos (starEach [] X.env)) (backToKw pos (keywordEach kws X.env))) := by rfl) : XE X μ (.Call (.Attribute o f apos) [] kws pos) Γ Q := by
  obtain ⟨g, fd, ps, cl, mt, F, bd⟩ := M
  refine PE.imp pe_u fun σ H q ⟨R, k⟩ => ⟨_, pe_methW (E := wD X.K μ σ) h cl mt F (hr.mono hkn) bd pk_u hks hall hpl ht, R, fun v H1 z Γ1 s1 f1 R1 r1 ⟨fs, hz, hl, hs⟩ => ?_⟩
  subst hz
  cases r1 with
  | @ins a _ dx fv _ g1 g2 =>
    refine ⟨a, dx, fv, rfl, hid_sub _ _ _ _ g1, (RpF.lookup g2).2 hl, _, hs, R1, fun vs H2 ds Γ2 s2 f2 R2 r2 ⟨hlen, ha⟩ => ⟨r2.length.trans hlen, ?_⟩⟩
    exact asks_sp R2 (.cons ((Rp.ins g1 g2).mono f2.sub) (r2.pick ix)) (asks_p ha) fun v H3 d Γ3 s3 f3 R3 r3 hq => k v H3 d Γ3 ((s3.trans s2).trans s1) ((f1.trans f2).trans f3) R3 r3 hq
/-- C.m(k = e, ..) -/
theorem pe_cmethW {pl : Sem Bool} {fd : FuncData} {ps : List Str} {sp : Sp} {E : XK} {ta : TE} {tk : TA} {g' q' : Addr} {mc : Value} (he : PE X o ta) (cr : ClX.CRead X.K C mc) (cm : ClX.CMet X.K C mc f q' g') (F : FnOk X.prog X.w X.K X.mg X.base CX0 k g' fd ps sp) (hr : Room k X.A) (kb : KBn X.K fd ps 1 ks (gU ix) (gU ix)) (hkw : PK X kws tk)
    (hks : (backToKw pos (keywordEach kws X.env)).filterMap (·.1) = ks) (hall : (backToKw pos (keywordEach kws X.env)).all (·.1.isSome) = true)
    (hpl : ((backTo pos (starEach [] X.env)).any (·.1) || (backToKw pos (keywordEach kws X.env)).any (·.1.isNone)) = false)
    (ht : eval (.Call (.Attribute o f apos) [] kws pos) X.env = (do
      let ov ← eval o X.env
      standAt apos.atName
      let (f, first) ← holding [ov] (getMethod ov f pl)
      callWith pos f first (backTo pos (starEach [] X.env)) (backToKw pos (keywordEach kws X.env)))) :
    PE X (.Call (.Attribute o f apos) [] kws pos) (fun σ H Q => ta σ H fun x H1 => x = .ref C ∧ tk σ H1 fun zs H2 => zs.length = ks.length ∧ sp (.ref C :: ix.filterMap (zs[·]?)) H2 Q E) := by
  refine ⟨fun pins s σ H Q I h => ?_⟩
  refine PySem.W.methodCall_KW (pl := pl) (thn (he.run pins s σ H _ I h) fun u s1 ⟨x, H1, I1, rx, ex, q⟩ => ?_) ht
  subst ex
  cases (show u = Value.ref C from rx)
  refine ClX.getmethcm_ok I1 cr cm fun s2 I2 => ?_
  refine PySem.W.callWith_of hpl (PySem.W.keeps_M cm.fi) (PyProof.Rows.evalArgs_kw2_nil hall (thn (hkw.run pos _ s2 σ H1 _ I2 q) fun ws s3 ⟨zs, H2, I3, rz, l2, q2⟩ => ⟨⟨ClX.pin_at I3, I3.kIn⟩, ?_⟩))
  rw [hks]
  have r2 : Vals (gU ix [V.ref C] zs) (gU ix [Value.ref C] ws) := kb.rel (.cons rfl .nil) rz
  have run := F.run X.A X.stack s3 H2 ⟨[.ref C], ks.zip ws⟩ (gU ix [Value.ref C] ws) (gU ix [V.ref C] zs) Q E hr I3.env0 (kb.to s3 [.ref C] ws I3.kIn rfl (rz.length.symm.trans l2)) r2 q2
  refine wpAny_call (PySem.W.method_call (ClX.pin_at I3) (codeAny_mono run fun r s' hq => ?_))
  cases r with
  | error e => exact hq.elim
  | ok fl =>
    cases fl with
    | ret u => exact ClX.unpinE (I3.after hq)
    | next => exact False.elim hq
    | brk => exact False.elim hq
    | cont => exact False.elim hq
theorem xe_cmw {pl : Sem Bool} {S : PSp} (M : CmK (wdX X) C f k ks ix S) (hr : Room n X.A) (hkn : k ≤ n) (h : XE X μ o Γ fun z Γ1 => z = .ref C ∧ XKw X μ kws Γ1 fun ds Γ2 => ds.length = ks.length ∧ ∀ Qc : D → Prop, (∀ d, Q d Γ2 → Qc d) → S (.ref C :: ix.filterMap (ds[·]?)) Qc)
    (hks : (backToKw pos (keywordEach kws X.env)).filterMap (·.1) = ks := by rfl) (hall : (backToKw pos (keywordEach kws X.env)).all (·.1.isSome) = true := by rfl)
    (hpl : ((backTo pos (starEach [] X.env)).any (·.1) || (backToKw pos (keywordEach kws X.env)).any (·.1.isNone)) = false := by rfl)
    (ht : eval (.Call (.Attribute o f apos) [] kws pos) X.env = (do
      let ov ← eval o X.env
      standAt apos.atName
      let (f, first) ← holding [ov] (getMethod ov f pl)
      callWith pos f first (backTo pos (starEach [] X.env)) (backToKw pos (keywordEach kws X.env))) := by rfl) : XE X μ (.Call (.Attribute o f apos) [] kws pos) Γ Q := by
  obtain ⟨mc, p, g, fd, ps, cr, cm, F, bd⟩ := M
  refine PE.imp pe_u fun σ H q ⟨R, k⟩ => ⟨_, pe_cmethW (E := wD X.K μ σ) h cr cm F (hr.mono hkn) bd pk_u hks hall hpl ht, R, fun v H1 z Γ1 s1 f1 R1 r1 ⟨hz, hs⟩ => ?_⟩
  subst hz
  cases r1
  refine ⟨rfl, _, hs, R1, fun vs H2 ds Γ2 s2 f2 R2 r2 ⟨hlen, ha⟩ => ⟨r2.length.trans hlen, ?_⟩⟩
  exact asks_sp R2 (.cons (.ref C) (r2.pick ix)) (asks_p ha) fun v H3 d Γ3 s3 f3 R3 r3 hq => k v H3 d Γ3 ((s3.trans s2).trans s1) ((f1.trans f2).trans f3) R3 r3 hq
end
end Pdl
namespace Pdl
open PySem L2 PyProof.Rows
theorem spl_ties {ls : List (List Nat)} (h : Ties ls) : TL.spl [32] 0 [] (txt ls) = ls := TL.spl_join h.ne fun p hp hm => by
  obtain ⟨a, b, rfl, h1, h2, h3⟩ := h.pr p hp
  simp at hm
  omega
section
variable {X : Cx} {C : Addr} {d : D} {T : String}
theorem OthD.ty {K : PySem.W.Frag} (h : OthD d T) : TyD K d (.type T) := by cases h <;> constructor
end
end Pdl
namespace Pdl
open PySem
end Pdl
namespace Pdl
open PySem L2 PyProof.Rows
/-- texts of 0 and 1 -/
def Bt (l : List Nat) : Prop := ∀ c ∈ l, c = 48 ∨ c = 49
end Pdl
namespace Pdl
open PySem
instance (l : List Nat) : Decidable (Bt l) := by unfold Bt; exact inferInstance
end Pdl
namespace Pdl
open PySem L2 PyProof.Rows
end Pdl
namespace Pdl
open PySem L2 PyProof.Rows
inductive KnD : D → Prop
  | non : KnD .non
  | bl {b : Bool} : KnD (.bl b)
  | int {i : Int} : KnD (.int i)
  | str (l : List Nat) (h : l.length ≤ 100000) : KnD (.str (S l))
  | lst {xs : List D} : KnD (.lst xs)
  | tup {xs : List D} : KnD (.tup xs)
def isS : D → Bool
  | .str _ => true
  | _ => false
theorem KnD.no {d : D} (h : KnD d) (hs : isS d = false) : NoStr d := by
  cases h with
  | non => exact .non
  | bl => exact .bl
  | int => exact .int
  | str => simp [isS] at hs
  | lst => exact .lst
  | tup => exact .tup
def textOf (d : D) : List Nat := match d with
  | .str x => x.cps.toList
  | _ => []
end Pdl
namespace Pdl
open PySem
/-- a sheet of known things, two levels deep -/
def KnDD (d : D) : Prop := KnD d ∧ ∀ xs, d = .tup xs → ∀ x ∈ xs, KnD x ∧ ∀ ys, x = .tup ys → ys.length ≤ 100000 ∧ ∀ y ∈ ys, KnD y
end Pdl
namespace Pdl
open PySem
end Pdl
namespace Pdl
open PySem L2 PyProof.Rows
/-- a sheet that may be compared -/
structure ShOk (d : D) : Prop where
  kn : KnDD d
  ok : okD d = true
  dp : dpD d ≤ 60
/-- two orders of a web -/
def OrdOk (ls : List (List Nat)) (o : List Nat) : Prop := o.length ≤ 1000 ∧ sN o = us ls.flatten
end Pdl
namespace Pdl
theorem ord_perm {ls : List (List Nat)} {o : List Nat} (h : OrdOk ls o) : o.Perm (us ls.flatten) := by
  rw [← h.2]
  exact (List.mergeSort_perm _ _).symm
end Pdl
namespace Pdl
end Pdl
namespace Pdl
open PySem
end Pdl
namespace Pdl
open PySem L2 PyProof.Rows
end Pdl
namespace Pdl
open PySem
end Pdl
namespace Pdl
open PySem L2 PyProof.Rows
end Pdl
namespace Pdl
open PySem
end Pdl
namespace Pdl
open PySem L2 PyProof.Rows
/-- an expression behind which a token is out -/
structure PE1 (X : Cx) (e : Expr) (t : TE) : Prop where
  run : ∀ (pins : List (Addr × Obj)) (s : Shared) (σ : L2.St) (H : Hp) (Q : VK), Inv X pins σ H s → t σ H Q → wpAny (model X.prog X.w) X.A (eval e X.env) (fun v s' => 1 ≤ s'.toks ∧ EP X pins σ Q v s') X.xe s
theorem PE1.imp {X : Cx} {e : Expr} {t u : TE} (h : PE1 X e t) (i : ∀ σ H Q, u σ H Q → t σ H Q) : PE1 X e u := ⟨fun pins s σ H Q I q => h.run pins s σ H Q I (i _ _ _ q)⟩
section
variable {X : Cx} {μ : Md} {Γ : En} {Q : QE} {a b o : Expr} {pos : Pos}
def XE1 (X : Cx) (μ : Md) (e : Expr) (Γ : En) (Q : QE) : Prop := PE1 X e (tD X.K μ Γ Q)
end
def repL (c : Nat) (z l : List Nat) : List Nat := l.flatMap fun k => if k = c then z else [k]
theorem repL_free {c : Nat} {z : List Nat} : ∀ {l : List Nat}, c ∉ l → repL c z l = l
  | [], _ => rfl
  | k :: r, h => by
    have h1 : ¬ k = c := fun e => h (e ▸ List.mem_cons_self ..)
    have h2 : c ∉ r := fun m => h (List.mem_cons_of_mem _ m)
    show (if k = c then z else [k]) ++ repL c z r = _
    rw [if_neg h1, repL_free h2]
    rfl
theorem repL_append (c : Nat) (z a b : List Nat) : repL c z (a ++ b) = repL c z a ++ repL c z b := by
  unfold repL
  rw [List.flatMap_append]
theorem repL_join (c : Nat) (z : Str) : ∀ parts : List Str, (∀ p ∈ parts, c ∉ p.cps.toList) → repL c z.cps.toList (Str.join ⟨#[c]⟩ parts).cps.toList = (Str.join z parts).cps.toList
  | [], _ => rfl
  | [p], h => repL_free (h p (List.mem_singleton.mpr rfl))
  | p :: q :: r, h => by
    have ih := repL_join c z (q :: r) fun a ha => h a (List.mem_cons_of_mem _ ha)
    show repL c _ (p ++ ⟨#[c]⟩ ++ Str.join ⟨#[c]⟩ (q :: r)).cps.toList = (p ++ z ++ Str.join z (q :: r)).cps.toList
    simp only [Str.cps_append, Array.toList_append]
    rw [repL_append, repL_append, ih, repL_free (h p (List.mem_cons_self ..))]
    congr 2
    show (if c = c then z.cps.toList else [c]) ++ [] = _
    rw [if_pos rfl, List.append_nil]
theorem replace_L (x z : Str) (c : Nat) : (Txt.replace x ⟨#[c]⟩ z).cps.toList = repL c z.cps.toList x.cps.toList := by
  rw [StrLaws.replace_one, ← repL_join c z _ (StrLaws.split_free x c), StrLaws.join_split]
theorem replace_S (l z : List Nat) (c : Nat) : Txt.replace (S l) (S [c]) (S z) = S (repL c z l) := by
  refine TL.ext_tl ?_
  show (Txt.replace (S l) ⟨#[c]⟩ (S z)).cps.toList = (S _).cps.toList
  rw [replace_L, S_cps, S_cps, S_cps]
end Pdl
namespace Pdl
open PySem L2 PyProof.Rows
section
variable {X : Cx} {μ : Md} {Γ : En} {Q : QE} {e : Expr} {pos : Pos}
theorem RpA.rev {K : PySem.W.Frag} {G : Hp} : ∀ {vs : List V} {ds : List D}, RpA K G vs ds → RpA K G vs.reverse ds.reverse
  | _, _, .nil => .nil
  | _, _, .cons h r => by
    rw [List.reverse_cons, List.reverse_cons]
    exact (RpA.rev r).app (.cons h .nil)
end
end Pdl
namespace Pdl
open PySem
structure PrtOk (d : D) : Prop where
  kn : KnD d
  in1 : ∀ ys, d = .tup ys → ys.length ≤ 100000 ∧ ∀ y ∈ ys, KnD y
  ok : okD d = true
  dp : dpD d ≤ 50
theorem dpL_le {n : Nat} : ∀ {xs : List D}, (∀ x ∈ xs, dpD x ≤ n) → dpL xs ≤ n
  | [], _ => Nat.zero_le _
  | x :: xs, h => by
    rw [dpL]
    exact Nat.max_le.mpr ⟨h x List.mem_cons_self, dpL_le fun y hy => h y (List.mem_cons_of_mem _ hy)⟩
theorem okL_of {xs : List D} (h : ∀ x ∈ xs, okD x = true) : okL xs = true := by
  rw [okL_all, List.all_eq_true]
  exact h
theorem ShOk.tup {xs : List D} (h : ∀ x ∈ xs, PrtOk x) : ShOk (.tup xs) := ⟨⟨.tup, fun ys e x hx => by
    cases e
    exact ⟨(h x hx).kn, (h x hx).in1⟩⟩, by rw [okD]; exact okL_of fun x hx => (h x hx).ok, by rw [dpD]; have := dpL_le fun x hx => (h x hx).dp; omega⟩
theorem ShOk.lst {xs : List D} (h : ∀ x ∈ xs, PrtOk x) : ShOk (.lst xs) := ⟨⟨.lst, (fun ys e => by cases e)⟩, by rw [okD]; exact okL_of fun x hx => (h x hx).ok, by rw [dpD]; have := dpL_le fun x hx => (h x hx).dp; omega⟩
/-- flat parts: no tuple -/
structure FltOk (d : D) : Prop where
  kn : KnD d
  nt : ∀ ys, d ≠ .tup ys
  ok : okD d = true
  dp : dpD d ≤ 5
theorem PrtOk.tup {xs : List D} (hl : xs.length ≤ 100000) (h : ∀ x ∈ xs, FltOk x) : PrtOk (.tup xs) := ⟨.tup, fun ys e => by
    cases e
    exact ⟨hl, fun y hy => (h y hy).kn⟩, by rw [okD]; exact okL_of fun x hx => (h x hx).ok, by rw [dpD]; have := dpL_le fun x hx => (h x hx).dp; omega⟩
theorem FltOk.lst {xs : List D} (h : ∀ x ∈ xs, okD x = true ∧ dpD x ≤ 4) : FltOk (.lst xs) := ⟨.lst, (fun ys e => by cases e), by rw [okD]; exact okL_of fun x hx => (h x hx).1, by rw [dpD]; have := dpL_le fun x hx => (h x hx).2; omega⟩
theorem FltOk.str {l : List Nat} (hl : l.length ≤ 100000) (h : ∀ c ∈ l, c < 1000) : FltOk (.str (S l)) := ⟨.str l hl, (fun ys e => by cases e), by
    rw [okD, S_cps, List.all_eq_true]
    exact fun c hc => decide_eq_true (h c hc), by simp [dpD]⟩
theorem FltOk.non : FltOk .non := ⟨.non, (fun ys e => by cases e), rfl, by simp [dpD]⟩
theorem FltOk.bl {b : Bool} : FltOk (.bl b) := ⟨.bl, (fun ys e => by cases e), rfl, by simp [dpD]⟩
end Pdl
namespace Pdl
open PySem L2 PyProof.Rows
end Pdl
namespace Pdl
open PySem L2 PyProof.Rows
end Pdl
namespace Pdl
open PySem L2 PyProof.Rows
end Pdl
namespace Pdl
open PySem L2 PyProof.Rows
end Pdl
namespace Pdl
open PySem L2 PyProof.Rows
end Pdl
namespace Pdl
open PySem L2 PyProof.Rows
theorem Bt.lw {l : List Nat} (h : Bt l) : ∀ c ∈ l, c < 1000 := fun c hc => by rcases h c hc with rfl | rfl <;> omega
theorem od_notB {X : Cx} {a b : Bool} : OpD X (compareOp .IsNot) (.bl a) (.bl b) (.bl (!decide (a = b))) := .of op_notBl fun x y H q m _ h1 h2 k => by
  cases h1; cases h2
  exact ⟨a, b, rfl, rfl, k _ H (Sub.refl H) (.bl _)⟩
theorem OrdOk.lw {ls : List (List Nat)} {o : List Nat} (ht : Ties ls) (ho : OrdOk ls o) : ∀ c ∈ o, c < 1000 := fun c hc => by
  obtain ⟨l, hl, hx⟩ := List.mem_flatten.mp (mem_us.mp ((ord_perm ho).mem_iff.mp hc))
  exact ht.lw l hl c hx
end Pdl
namespace Pdl
open PySem L2 PyProof.Rows
theorem pr2_cases {a b c d : Nat} (h : pr2 [a, b] = pr2 [c, d]) : (a = c ∧ b = d) ∨ (a = d ∧ b = c) := by
  have h : (if b < a then [b, a] else [a, b]) = if d < c then [d, c] else [c, d] := h
  split at h <;> split at h <;> simp at h <;> omega
structure IsWy (ls x : List (List Nat)) : Prop where
  two : Two x
  pr : x.map pr2 = ls
  rk : Ranked x
theorem Ranked.no2 {x : List (List Nat)} (h : Ranked x) {u v : Nat} (h1 : [u, v] ∈ x) (h2 : [v, u] ∈ x) : False := by
  obtain ⟨r, hr⟩ := h
  have a := hr _ _ h1
  have b := hr _ _ h2
  omega
section
variable {ls x y : List (List Nat)}
theorem IsWy.one (h : IsWy ls x) {u v : Nat} (hm : pr2 [u, v] ∈ ls) : [u, v] ∈ x ∨ [v, u] ∈ x := by
  rw [← h.pr] at hm
  obtain ⟨l, hl, e⟩ := List.mem_map.mp hm
  obtain ⟨a, b, rfl⟩ := h.two l hl
  rcases pr2_cases e with ⟨rfl, rfl⟩ | ⟨rfl, rfl⟩
  · exact .inl hl
  · exact .inr hl
theorem IsWy.ext (hx : IsWy ls x) (hy : IsWy ls y) (h : ∀ u v, [u, v] ∈ x → [u, v] ∈ y) : x = y := by
  refine List.ext_getElem? fun i => ?_
  have e : (x.map pr2)[i]? = (y.map pr2)[i]? := by rw [hx.pr, hy.pr]
  rw [List.getElem?_map, List.getElem?_map] at e
  cases ex : x[i]? with
  | none =>
    rw [ex] at e
    cases ey : y[i]? with
    | none => rfl
    | some l =>
      rw [ey] at e
      cases e
  | some l =>
    rw [ex] at e
    cases ey : y[i]? with
    | none =>
      rw [ey] at e
      cases e
    | some l' =>
      rw [ey] at e
      have e : pr2 l = pr2 l' := Option.some.inj e
      have hl := List.mem_of_getElem? ex
      have hl' := List.mem_of_getElem? ey
      obtain ⟨a, b, rfl⟩ := hx.two l hl
      obtain ⟨c, d, rfl⟩ := hy.two l' hl'
      rcases pr2_cases e with ⟨rfl, rfl⟩ | ⟨rfl, rfl⟩
      · rfl
      · exact (hy.rk.no2 (h _ _ hl) hl').elim
end
section
variable {G L : List (List Nat)} {a b c d : Nat} {w x : List (List Nat)}
structure Less (G L : List (List Nat)) (a b : Nat) : Prop where
  hg : Ties G
  hl : Ties L
  lt : a < b
  tie : [a, b] ∈ G
  mem : ∀ t, t ∈ L ↔ t ∈ G ∧ t ≠ [a, b]
theorem Less.sub (H : Less G L a b) : ∀ t ∈ L, t ∈ G := fun t h => ((H.mem t).mp h).1
theorem Less.pr (H : Less G L a b) (hc : pr2 [c, d] = [a, b]) : pr2 [c, d] ∉ L := fun h => ((H.mem _).mp h).2 hc
end
end Pdl
namespace Pdl
open PySem L2 PyProof.Rows
end Pdl
namespace Pdl
open PySem L2 PyProof.Rows
end Pdl
namespace Pdl
open PySem L2 PyProof.Rows
/-- ties hang places together -/
def AllC (L : List (List Nat)) (w : List Nat) : Prop := ∀ C : Nat → Prop, (∀ u v, [u, v] ∈ L → (C u ↔ C v)) → ∀ x ∈ w, ∀ y ∈ w, (C x ↔ C y)
end Pdl
namespace Pdl
open PySem L2 PyProof.Rows
theorem idx_nat : ∀ {r : List Nat} {i x : Nat}, r.Nodup → r[i]? = some x → idx r x = i := fun {r i x} hn h => by
  have hx := List.mem_of_getElem? h
  have h2 := idx_at hx
  exact (List.getElem?_inj (List.getElem?_eq_some_iff.mp h2).1 hn).mp (h2.trans h.symm)
section
variable {ls : List (List Nat)} {r : List Nat}
theorem lst_at (h : r ≠ []) : r[r.length - 1]? = some (lst r) := by
  unfold lst
  rw [← List.getLast?_eq_getElem?, List.getLast?_eq_some_getLast h]
  rfl
end
end Pdl
namespace Pdl
open PySem L2 PyProof.Rows
end Pdl
namespace Pdl
open PySem L2 PyProof.Rows
def lessL (ls : List (List Nat)) (a b : Nat) : List (List Nat) := ls.filter fun t => decide (t ≠ [a, b])
/-- places met over ties, from the first one -/
structure MetI (L : List (List Nat)) (w F : List Nat) : Prop where
  nd : F.Nodup
  sub : ∀ x ∈ F, x ∈ w
  h0 : Pdl.hd w ∈ F
  cl : ∀ C : Nat → Prop, (∀ u v, [u, v] ∈ L → (C u ↔ C v)) → ∀ x ∈ F, (C x ↔ C (Pdl.hd w))
theorem MetI.all {L : List (List Nat)} {w F : List Nat} (h : MetI L w F) (hl : F.length = w.length) (hw : w.Nodup) : AllC L w := fun C hC => by
  have hin : ∀ x ∈ w, x ∈ F := fun x hx => Decidable.byContradiction fun hn => by
    have := nodup_len (l := x :: F) (m := w) (List.nodup_cons.mpr ⟨hn, h.nd⟩) fun y hy => by
      rcases List.mem_cons.mp hy with rfl | z
      · exact hx
      · exact h.sub y z
    simp at this
    omega
  intro x hx y hy
  exact (h.cl C hC x (hin x hx)).trans (h.cl C hC y (hin y hy)).symm
end Pdl
namespace Pdl
open PySem L2 PyProof.Rows
section
variable {X : Cx} {μ : Md} {Γ : En} {Q : QE} {x : Str} {p pos : Pos} {e : Expr}
theorem Fw.exc1 {H1 Hd : Hp} {a dx C : Addr} {f : Str} {v : V} {d : D} {μ : Md} {Γ1 : En} {σ : L2.St} {K : PySem.W.Frag} (R : Rel K μ H1 σ Γ1) (hsub : Sub H1 Hd) (hdx : H1 dx = none) (hD : Hd dx = some (.xd [(f, v)])) (ha : Hd a = none) (rv : Rp K (Vw μ Γ1 H1) v d) :
    Fw Γ1.c Γ1.c H1 (upd Hd a (exV a C (some dx))) ∧ Rel K μ (upd Hd a (exV a C (some dx))) σ Γ1 ∧ Rp K (Vw μ Γ1 (upd Hd a (exV a C (some dx)))) (.ref a) (.exc C [(f, d)]) := by
  have R2 := R.more hsub
  have hs2 : Sub Hd (upd Hd a (exV a C (some dx))) := sub_upd ha
  have R3 := R2.more hs2
  have hne : dx ≠ a := fun z => by rw [z, ha] at hD; cases hD
  refine ⟨Fw.of_sub (hsub.trans hs2), R3, .exc1 (dx := dx) (fs := [(f, v)]) (hid_upd (R2.fresh ha)) (hid_some.mpr ⟨R.fresh hdx, by rw [upd_ne hne]; exact hD⟩) (.cons ?_ .nil)⟩
  exact (rv.mono (Fw.of_sub (c := Γ1.c) hsub).sub).mono (Fw.of_sub (c := Γ1.c) hs2).sub
end
end Pdl
namespace Pdl
open PySem L2 PyProof.Rows
end Pdl
namespace Pdl
open PySem
end Pdl
namespace PySem
namespace HandSPX
open Builtin Builtin.ObjectAttr
end HandSPX
end PySem
namespace Pdl
open PySem L2 PyProof.Rows
end Pdl
namespace Pdl
open PySem L2 PyProof.Rows
end Pdl
namespace Pdl
open PySem L2 PyProof.Rows
end Pdl
namespace Pdl
open PySem L2 PyProof.Rows
end Pdl
namespace Pdl
open PySem L2 PyProof.Rows
end Pdl
namespace Pdl
open PySem L2 PyProof.Rows PySem.Spec
end Pdl
namespace Pdl
open PySem L2 PyProof.Rows
def onS (f : List Nat → Bool) (d : D) : Bool := isS d && f (textOf d)
theorem textOf_S {l : List Nat} : textOf (.str (S l)) = l := by
  show (S l).cps.toList = l
  rw [S_cps]
theorem onS_S {f : List Nat → Bool} {l : List Nat} : onS f (.str (S l)) = f l := by
  unfold onS
  rw [textOf_S]
  rfl
theorem onS_get {f : List Nat → Bool} {d : D} (h : onS f d = true) : d = .str (S (textOf d)) ∧ f (textOf d) = true := by
  obtain ⟨h1, h2⟩ := Bool.and_eq_true_iff.mp h
  refine ⟨?_, h2⟩
  cases d with
  | str x =>
    show D.str x = .str (S x.cps.toList)
    rw [show S x.cps.toList = x from by cases x; simp [S]]
  | _ => cases h1
def twL : List Nat → Bool
  | [a, b] => decide ((97 ≤ a ∧ a ≤ 122) ∧ (97 ≤ b ∧ b ≤ 122) ∧ a ≠ b)
  | _ => false
def prL : List Nat → Bool
  | [a, b] => decide (97 ≤ a ∧ a < b ∧ b ≤ 122)
  | _ => false
theorem prL_get {l : List Nat} (h : prL l = true) : ∃ a b, l = [a, b] ∧ 97 ≤ a ∧ a < b ∧ b ≤ 122 := by
  unfold prL at h
  split at h
  · next a b => exact ⟨a, b, rfl, of_decide_eq_true h⟩
  · cases h
/-- values of any kind -/
inductive AnyK : D → Prop
  | non : AnyK .non
  | bl {b : Bool} : AnyK (.bl b)
  | int {i : Int} : AnyK (.int i)
  | str (l : List Nat) (h : l.length ≤ 1000) (hz : ∀ c ∈ l, c < 1000) : AnyK (.str (S l))
  | lst {xs : List D} : AnyK (.lst xs)
  | tup {xs : List D} : AnyK (.tup xs)
  | dct {xs : List (Key × D)} : AnyK (.dct xs)
end Pdl
namespace Pdl
open PySem L2 PyProof.Rows
def txAt (xs : List D) (k : Nat) : List Nat := textOf (xs.getD k .non)
def badT (xs : List D) (k : Nat) : Bool := decide (k = 10) || (!onS prL (xs.getD k .non) || ((decide (0 < k) && !decide (txAt xs (k - 1) < txAt xs k)) || decide (7 < (us ((xs.take (k + 1)).map textOf).flatten).length)))
/-- so far all is well -/
def GoodT (xs : List D) (k : Nat) : Prop := ∀ j < k, badT xs j = false
theorem badT_f {xs : List D} {k : Nat} (h : badT xs k = false) : k ≠ 10 ∧ onS prL (xs.getD k .non) = true ∧ (0 < k → txAt xs (k - 1) < txAt xs k) ∧ (us ((xs.take (k + 1)).map textOf).flatten).length ≤ 7 := by
  unfold badT at h
  rw [Bool.or_eq_false_iff, Bool.or_eq_false_iff, Bool.or_eq_false_iff] at h
  obtain ⟨h1, h2, h3, h4⟩ := h
  refine ⟨of_decide_eq_false h1, by simpa using h2, fun h0 => ?_, by have := of_decide_eq_false h4; omega⟩
  rw [decide_eq_true h0] at h3
  simpa using h3
structure TakeT (xs : List D) (k : Nat) : Prop where
  eq : xs.take k = SL ((xs.take k).map textOf)
  pr : ∀ l ∈ (xs.take k).map textOf, ∃ a b, l = [a, b] ∧ 97 ≤ a ∧ a < b ∧ b ≤ 122
  asc : ((xs.take k).map textOf).Pairwise (· < ·)
  le : k ≤ 10
  few : 0 < k → (us ((xs.take k).map textOf).flatten).length ≤ 7
theorem lt_trans3 {a b c : List Nat} (h1 : a < b) (h2 : b < c) : a < c := List.lt_trans h1 h2
theorem GoodT.take {xs : List D} : ∀ {k : Nat}, k ≤ xs.length → GoodT xs k → TakeT xs k
  | 0, _, _ => ⟨by simp [SL], by simp, by simp, Nat.zero_le _, fun h => absurd h (Nat.lt_irrefl 0)⟩
  | k + 1, hk, h => by
    have ih := GoodT.take (k := k) (by omega) fun j hj => h j (by omega)
    obtain ⟨b1, b2, b3, b4⟩ := badT_f (h k (Nat.lt_succ_self k))
    obtain ⟨x, hx⟩ : ∃ x, xs[k]? = some x := ⟨_, List.getElem?_eq_getElem (by omega)⟩
    have ex : xs.getD k .non = x := by simp [List.getD, hx]
    have et : xs.take (k + 1) = xs.take k ++ [x] := by rw [List.take_succ, hx]; rfl
    rw [ex] at b2
    obtain ⟨e1, e2⟩ := onS_get b2
    obtain ⟨a, b, e3, p1, p2, p3⟩ := prL_get e2
    have em : (xs.take (k + 1)).map textOf = (xs.take k).map textOf ++ [[a, b]] := by rw [et, List.map_append, List.map_singleton, e3]
    refine ⟨?_, fun l hl => ?_, ?_, by have := ih.le; omega, fun _ => b4⟩
    · have ea : ∀ A : List (List Nat), SL (A ++ [[a, b]]) = SL A ++ [.str (S [a, b])] := fun A => by simp [SL]
      rw [em, et, ea, ← ih.eq, e1, e3]
    · rw [em] at hl
      rcases List.mem_append.mp hl with z | z
      · exact ih.pr l z
      · exact ⟨a, b, List.mem_singleton.mp z, p1, p2, p3⟩
    · rw [em, List.pairwise_append]
      refine ⟨ih.asc, by simp, fun u hu v hv => ?_⟩
      rw [List.mem_singleton.mp hv]
      cases k with
      | zero => simp at hu
      | succ k' =>
        have h3 := b3 (Nat.succ_pos k')
        have e4 : txAt xs (k' + 1) = [a, b] := by unfold txAt; rw [ex, e3]
        rw [e4] at h3
        obtain ⟨y, hy⟩ : ∃ y, xs[k']? = some y := ⟨_, List.getElem?_eq_getElem (by omega)⟩
        have e5 : txAt xs (k' + 1 - 1) = textOf y := by unfold txAt; simp [List.getD, hy]
        rw [e5] at h3
        have e6 : (xs.take (k' + 1)).map textOf = (xs.take k').map textOf ++ [textOf y] := by rw [List.take_succ, hy, List.map_append]; rfl
        rw [e6] at hu
        rcases List.mem_append.mp hu with z | z
        · have := ih.asc
          rw [e6, List.pairwise_append] at this
          exact lt_trans3 (this.2.2 u z (textOf y) (by simp)) h3
        · rw [List.mem_singleton.mp z]
          exact h3
/-- all ties are well, but for their hanging together -/
structure NearT (ls : List (List Nat)) : Prop where
  ne : ls ≠ []
  len : ls.length ≤ 10
  pr : ∀ l ∈ ls, ∃ a b, l = [a, b] ∧ 97 ≤ a ∧ a < b ∧ b ≤ 122
  asc : ls.Pairwise (· < ·)
  few : (us ls.flatten).length ≤ 7
theorem NearT.ties {ls : List (List Nat)} (h : NearT ls) (hc : Conn ls) : Ties ls := ⟨h.ne, h.len, h.pr, h.asc, h.few, hc⟩
theorem NearT.two {ls : List (List Nat)} (h : NearT ls) : Two ls := fun l hl => let ⟨a, b, e, _⟩ := h.pr l hl; ⟨a, b, e⟩
theorem SL_text {ls : List (List Nat)} : (SL ls).map textOf = ls := by
  unfold SL
  rw [List.map_map]
  have : (textOf ∘ fun l => D.str (S l)) = id := funext fun l => textOf_S
  rw [this, List.map_id]
/-- what is wrong with a value as ties: the index (none: it is no tuple, or empty), or that they hang apart -/
inductive TErr (CT CA : Addr) : D → Xn → Prop
  | kind {d : D} (h : ∀ xs, d = .tup xs → xs = []) : TErr CT CA d ⟨.ref CT, some [("index", .non)]⟩
  | at_ {xs : List D} {k : Nat} (hne : xs ≠ []) (hk : k < xs.length) (hg : GoodT xs k) (hb : badT xs k = true) : TErr CT CA (.tup xs) ⟨.ref CT, some [("index", .int k)]⟩
  | apart {ls : List (List Nat)} (hn : NearT ls) (hc : ¬ Conn ls) : TErr CT CA (.tup (SL ls)) ⟨.ref CA, none⟩
theorem good_near {ls : List (List Nat)} (h : NearT ls) : GoodT (SL ls) (SL ls).length := fun j hj => by
  have hj : j < ls.length := by simpa [SL] using hj
  have get : ∀ i, i < ls.length → (SL ls).getD i .non = .str (S (ls.getD i [])) := fun i hi => by
    have : (SL ls)[i]? = some (.str (S (ls.getD i []))) := by rw [SL_get (l := ls.getD i []) (by simp [List.getD, List.getElem?_eq_getElem hi])]
    simp [List.getD, this]
  have tx : ∀ i, i < ls.length → txAt (SL ls) i = ls.getD i [] := fun i hi => by unfold txAt; rw [get i hi, textOf_S]
  obtain ⟨a, b, e, p1, p2, p3⟩ := h.pr (ls.getD j []) (by simp [List.getD, List.getElem?_eq_getElem hj])
  have h1 : onS prL ((SL ls).getD j .non) = true := by
    rw [get j hj, onS_S, e]
    exact decide_eq_true ⟨p1, p2, p3⟩
  have h2 : 0 < j → txAt (SL ls) (j - 1) < txAt (SL ls) j := fun h0 => by
    rw [tx _ (by omega), tx _ hj]
    have := List.pairwise_iff_getElem.mp h.asc (j - 1) j (by omega) hj (by omega)
    simpa [List.getD, List.getElem?_eq_getElem hj, List.getElem?_eq_getElem (show j - 1 < ls.length by omega)] using this
  have h3 : (us (((SL ls).take (j + 1)).map textOf).flatten).length ≤ 7 := by
    have e : ((SL ls).take (j + 1)).map textOf = ls.take (j + 1) := by rw [List.map_take, SL_text]
    rw [e]
    refine Nat.le_trans (us_len_le fun x hx => ?_) h.few
    obtain ⟨l, hl, hx⟩ := List.mem_flatten.mp hx
    exact mem_us.mpr (List.mem_flatten.mpr ⟨l, List.mem_of_mem_take hl, hx⟩)
  unfold badT
  rw [h1, decide_eq_false (show ¬ j = 10 from by have := h.len; omega), decide_eq_false (show ¬ 7 < _ from by omega)]
  by_cases h0 : 0 < j
  · rw [decide_eq_true (h2 h0)]; simp
  · simp [h0]
theorem TErr.no {CT CA : Addr} {ls : List (List Nat)} {x : Xn} (ht : Ties ls) (h : TErr CT CA (.tup (SL ls)) x) : False := by
  have hn : NearT ls := ⟨ht.ne, ht.len, ht.pr, ht.asc, ht.few⟩
  generalize hd : (D.tup _) = d at h
  cases h with
  | kind h => exact absurd (List.map_eq_nil_iff.mp (h _ hd.symm)) ht.ne
  | at_ hne hk hg hb =>
    cases hd
    rw [good_near hn _ hk] at hb
    cases hb
  | apart hn2 hc =>
    injection hd with hd
    have := congrArg (List.map textOf) hd
    rw [SL_text, SL_text] at this
    exact hc (this ▸ ht.conn)
/-- elements of any kind -/
def AnyL (d : D) : Prop := AnyK d ∧ ∀ xs, d = .tup xs → (∀ x ∈ xs, AnyK x) ∧ xs.length ≤ 100000
end Pdl
namespace Pdl
open PySem L2 PyProof.Rows
end Pdl
namespace Pdl
open PySem L2 PyProof.Rows
def sShownT (CT CA : Addr) : PSp := fun ds Q => (∃ y, ds = [.exc CT [("index", y)]] ∧ (y = .non ∨ ∃ k : Nat, y = .int k ∧ k ≤ 1000000) ∧ Q (.lst [.str "ties", .str (shownD y)])) ∨ (ds = [.exc CA []] ∧ Q (.lst [.str "apart", .str ""]))
end Pdl
namespace Pdl
open PySem L2 PyProof.Rows
end Pdl
namespace Pdl
open PySem L2 PyProof.Rows
theorem AnyL.of {xs : List D} (h : ∀ x ∈ xs, AnyK x) (hl : xs.length ≤ 100000) : AnyL (.tup xs) := ⟨.tup, fun ys e => by cases e; exact ⟨h, hl⟩⟩
theorem AnyL.lst {xs : List D} : AnyL (.lst xs) := ⟨.lst, fun ys e => by cases e⟩
theorem AnyL.str {l : List Nat} (h : l.length ≤ 1000) (hz : ∀ c ∈ l, c < 1000) : AnyL (.str (S l)) := ⟨.str l h hz, fun ys e => by cases e⟩
end Pdl
namespace Pdl
open PySem L2 PyProof.Rows
end Pdl
namespace Pdl
open PySem L2 PyProof.Rows
/-- what is told of an error of ties is plain -/
theorem shown_small : ∀ k : Nat, k ≤ 10 → okD (.str (shownD (.int (k : Int)))) = true := by
  intro k hk
  match k, hk with
  | 0, _ => decide +kernel
  | 1, _ => decide +kernel
  | 2, _ => decide +kernel
  | 3, _ => decide +kernel
  | 4, _ => decide +kernel
  | 5, _ => decide +kernel
  | 6, _ => decide +kernel
  | 7, _ => decide +kernel
  | 8, _ => decide +kernel
  | 9, _ => decide +kernel
  | 10, _ => decide +kernel
  | n + 11, h => exact absurd h (by omega)
inductive Told (CT CA : Addr) : Xn → D → Prop
  | non : Told CT CA ⟨.ref CT, some [("index", .non)]⟩ (.lst [.str "ties", .str (shownD .non)])
  | int {k : Nat} (h : k ≤ 10) : Told CT CA ⟨.ref CT, some [("index", .int k)]⟩ (.lst [.str "ties", .str (shownD (.int k))])
  | apart : Told CT CA ⟨.ref CA, none⟩ (.lst [.str "apart", .str ""])
theorem Told.ok {CT CA : Addr} {x : Xn} {r : D} (h : Told CT CA x r) : okD r = true ∧ dpD r ≤ 3 := by
  cases h with
  | non => exact ⟨by decide +kernel, by decide +kernel⟩
  | @int k hk =>
    refine ⟨?_, by simp [dpD, dpL]⟩
    have := shown_small k hk
    rw [okD, okL, okL, okL, this]
    decide +kernel
  | apart => exact ⟨by decide +kernel, by decide +kernel⟩
theorem Told.shown {CT CA : Addr} {x : Xn} {r : D} (h : Told CT CA x r) : ∃ C, x.cls = .ref C ∧ (C = CT ∨ C = CA) ∧ ∀ Qc : D → Prop, Qc r → sShownT CT CA [.exc C (x.fs.getD [])] Qc := by
  cases h with
  | non => exact ⟨CT, rfl, .inl rfl, fun Qc hq => .inl ⟨_, rfl, .inl rfl, hq⟩⟩
  | @int k hk => exact ⟨CT, rfl, .inl rfl, fun Qc hq => .inl ⟨_, rfl, .inr ⟨k, rfl, by omega⟩, hq⟩⟩
  | apart => exact ⟨CA, rfl, .inr rfl, fun Qc hq => .inr ⟨rfl, hq⟩⟩
end Pdl
namespace Pdl
open PySem L2 PyProof.Rows PySem.Spec
end Pdl
namespace Pdl
open PySem L2 PyProof.Rows
def toPyA : D → PyData
  | .dct kvs => .dict (kvs.map fun kv => ((match kv.1 with | .inl i => .int i | .inr x => .str x), toPy kv.2))
  | d => toPy d
def shownA (d : D) : Str := (toPyA d).shown
def Lt1 (x : Str) : Prop := ∀ c ∈ x.cps.toList, c < 1000
theorem Lt1.app {a b : Str} (h1 : Lt1 a) (h2 : Lt1 b) : Lt1 (a ++ b) := fun c hc => by
  have hc : c ∈ (a.cps ++ b.cps).toList := hc
  rw [Array.toList_append] at hc
  exact (List.mem_append.mp hc).elim (h1 c) (h2 c)
theorem Lt1.ok {x : Str} (h : Lt1 x) : okD (.str x) = true := by
  rw [okD]
  exact List.all_eq_true.mpr fun c hc => decide_eq_true (h c hc)
mutual
/-- data of small texts -/
def txB : D → Bool
  | .non => true
  | .bl _ => true
  | .str x => x.cps.toList.all (fun c => decide (c < 1000))
  | .lst xs => txL xs
  | .tup xs => txL xs
  | _ => false
def txL : List D → Bool
  | [] => true
  | x :: xs => txB x && txL xs
end
end Pdl
namespace Pdl
open PySem L2 PyProof.Rows
end Pdl
namespace Pdl
open PySem L2 PyProof.Rows
structure ValOk (d : D) : Prop where
  any : AnyK d
  rep : ∀ X : Cx, X.A.guards = some [] → X.A.units + 64 < cLine → CallD X (.builtin "repr") [d] (.str (shownA d))
  lt : Lt1 (shownA d)
theorem ValOk.ok {d : D} (h : ValOk d) {w : Str} (hw : okD (.str w) = true) : okD (.lst [.str w, .str (shownA d)]) = true := by
  rw [okD, okL, okL, okL, hw, h.lt.ok]
  rfl
theorem SL_txL : ∀ {ls : List (List Nat)}, (∀ l ∈ ls, ∀ c ∈ l, c < 1000) → txL (SL ls) = true ∧ okL (SL ls) = true ∧ dpL (SL ls) ≤ 0 ∧ wtL (SL ls) = ls.flatten.length + ls.length
  | [], _ => ⟨rfl, rfl, Nat.le_refl _, rfl⟩
  | l :: ls, h => by
    obtain ⟨h1, h2, h3, h4⟩ := SL_txL (ls := ls) fun k hk => h k (List.mem_cons_of_mem _ hk)
    have ha : ((S l).cps.toList.all fun c => decide (c < 1000)) = true := by
      rw [S_cps]
      exact List.all_eq_true.mpr fun c hc => decide_eq_true (h l (by simp) c hc)
    refine ⟨?_, ?_, ?_, ?_⟩
    · show (txB (.str (S l)) && txL (SL ls)) = true
      rw [txB, ha, h1]; rfl
    · show (okD (.str (S l)) && okL (SL ls)) = true
      rw [okD, ha, h2]; rfl
    · show max (dpD (.str (S l))) (dpL (SL ls)) ≤ 0
      have : dpD (.str (S l)) = 0 := by simp [dpD]
      omega
    · show wtD (.str (S l)) + 1 + wtL (SL ls) = _
      rw [h4]
      have : wtD (.str (S l)) = l.length := by rw [wtD, S_len]
      simp
      omega
end Pdl
namespace Pdl
open PySem L2 PyProof.Rows
theorem PET.imp {X : Cx} {e : Expr} {t u : TE} (h : PET X e t) (i : ∀ σ H Q, u σ H Q → t σ H Q) : PET X e u := fun pins s σ H Q h0 I q => h pins s σ H Q h0 I (i _ _ _ q)
theorem PAT.imp {X : Cx} {e : List Expr} {t u : TA} (h : PAT X e t) (i : ∀ σ H Q, u σ H Q → t σ H Q) : PAT X e u := fun pos pins s σ H Q h0 I q => h pos pins s σ H Q h0 I (i _ _ _ q)
def XET (X : Cx) (μ : Md) (e : Expr) (Γ : En) (Q : QE) : Prop := PET X e (tD X.K μ Γ Q)
def XBT (X : Cx) (μ : Md) (st : List Stmt) (Γ : En) (P : Po) : Prop := PSsT X st (tSD X.K μ Γ P)
section
variable {X : Cx} {μ : Md} {Γ : En} {Q : QE} {a b e o : Expr} {es : List Expr} {pos : Pos} {P : Po} {st : Stmt} {sts : List Stmt}
theorem XET.of (h : XE X μ e Γ Q) : XET X μ e Γ Q := CwR.PET.of h
def PA1 (X : Cx) (es : List Expr) (t : TA) : Prop :=
  ∀ (pos : Pos) (pins : List (Addr × Obj)) (s : Shared) (σ : L2.St) (H : Hp) (Q : List V → Hp → Prop), Inv X pins σ H s → t σ H Q → wpAny (model X.prog X.w) X.A (spliced (backTo pos (starEach es X.env))) (fun us s' => 1 ≤ s'.toks ∧ AP X pins σ Q us s') X.xe s
def u1 (X : Cx) (e : Expr) : TE := fun σ H Q => ∃ t, PE1 X e t ∧ t σ H Q
def uA1 (X : Cx) (es : List Expr) : TA := fun σ H Q => ∃ t, PA1 X es t ∧ t σ H Q
theorem pa1_u {X : Cx} {es : List Expr} : PA1 X es (uA1 X es) := fun pos pins s σ H Q I ⟨_, h, q⟩ => h pos pins s σ H Q I q
theorem pe1_str {X : Cx} {i : Str} {j : Nat} {p : Pos} : PE1 X (.Constant (.str i) j p) (tC (.str i)) := ⟨fun pins s σ H Q I h => Calls.Constant_str ⟨by show 1 ≤ s.toks + 1; omega, .str i, H, I.tok _, ⟨_, rfl⟩, h⟩⟩
theorem pa1_last {X : Cx} {e : Expr} {te : TE} (ha : PE1 X e te) (hs : starEach [e] X.env = [(false, eval e X.env)] := by rfl) : PA1 X [e] (tCons te tNil) := by
  intro pos pins s σ H Q I h
  rw [hs]
  show wpAny _ _ (spliced ((false, eval e X.env) :: backTo pos [])) _ _ s
  exact Calls.spliced_cons (thn (ha.run pins s σ H _ I h) fun v s1 ⟨hk, x, H1, I1, r1, q1⟩ => Calls.spliced_nil ⟨hk, [x], H1, I1, .cons r1 .nil, q1⟩)
theorem pa1_cons {X : Cx} {e : Expr} {es : List Expr} {te : TE} {ta : TA} (ha : PE X e te) (hr : PA1 X es ta) (hs : starEach (e :: es) X.env = (false, eval e X.env) :: starEach es X.env := by rfl) : PA1 X (e :: es) (tCons te ta) := by
  intro pos pins s σ H Q I h
  rw [hs]
  show wpAny _ _ (spliced ((false, eval e X.env) :: backTo pos (starEach es X.env))) _ _ s
  refine Calls.spliced_cons (thn (ha.run pins s σ H _ I h) fun v s1 ⟨x, H1, I1, r1, q1⟩ => ?_)
  exact thn (hr pos pins s1 σ H1 _ I1 q1) fun us s2 ⟨hk, xs, H2, I2, r2, q2⟩ => ⟨hk, x :: xs, H2, I2, .cons r1 r2, q2⟩
def XA1 (X : Cx) (μ : Md) (es : List Expr) (Γ : En) (Q : List D → En → Prop) : Prop := PA1 X es (tAD X.K μ Γ Q)
theorem PA1.imp {X : Cx} {e : List Expr} {t u : TA} (h : PA1 X e t) (i : ∀ σ H Q, u σ H Q → t σ H Q) : PA1 X e u := fun pos pins s σ H Q I q => h pos pins s σ H Q I (i _ _ _ q)
theorem xe1_str {i : Str} {j : Nat} (h : Q (.str i) Γ) : XE1 X μ (.Constant (.str i) j pos) Γ Q := PE1.imp pe1_str fun σ H q ⟨R, k⟩ => k _ H _ Γ rfl (Fw.refl _ _) R (.str i) h
theorem xa1_last {Q : List D → En → Prop} (h : XE1 X μ e Γ fun x Γ1 => Q [x] Γ1) (hs : starEach [e] X.env = [(false, eval e X.env)] := by rfl) : XA1 X μ [e] Γ Q :=
  PA1.imp (pa1_last h hs) fun σ H q ⟨R, k⟩ => ⟨R, fun v H1 x Γ1 s1 f1 R1 r1 hq => k [v] H1 [x] Γ1 s1 f1 R1 (.cons r1 .nil) hq⟩
theorem xa1_cons {Q : List D → En → Prop} (h : XE X μ e Γ fun x Γ1 => XA1 X μ es Γ1 fun xs Γ2 => Q (x :: xs) Γ2) (hs : starEach (e :: es) X.env = (false, eval e X.env) :: starEach es X.env := by rfl) : XA1 X μ (e :: es) Γ Q :=
  PA1.imp (pa1_cons h pa1_u hs) fun σ H q ⟨R, k⟩ => ⟨R, fun v H1 x Γ1 s1 f1 R1 r1 hq => ⟨_, hq, R1, fun vs H2 xs Γ2 s2 f2 R2 r2 hq => k (v :: vs) H2 (x :: xs) Γ2 (s2.trans s1) (f1.trans f2) R2 (.cons (r1.mono f2.sub) r2) hq⟩⟩
end
/-- no text of a web -/
def NoW (CT CA : Addr) (d : D) : Prop := NoStr d ∨ ∃ l x, d = .str (S l) ∧ TErr CT CA (.tup (SL (TL.spl [32] 0 [] l))) x
theorem NoW.no {CT CA : Addr} {ls : List (List Nat)} (ht : Ties ls) (h : NoW CT CA (.str (S (txt ls)))) : False := by
  rcases h with h | ⟨l, x, e, hx⟩
  · cases h
  · have : l = txt ls := by
      injection e with e
      have := congrArg (fun z : Str => z.cps.toList) e
      simp only [S_cps] at this
      exact this.symm
    subst this
    rw [spl_ties ht] at hx
    exact hx.no ht
end Pdl
namespace Pdl
open PySem L2 PyProof.Rows
/-- an arrow's tie; what is no arrow has none -/
def pairD (d : D) : D := if onS twL d = true then .str (S (pr2 (textOf d))) else .non
def pairT : D → D
  | .tup xs => .tup (xs.map pairD)
  | d => d
def AErr (CI CA CR : Addr) (d : D) (x : Xn) : Prop := TErr CI CA (pairT d) x ∨ ∃ as, d = .tup (SL as) ∧ (∀ l ∈ as, twL l = true) ∧ Ties (as.map pr2) ∧ rkB as = false ∧ x = ⟨.ref CR, none⟩
theorem pairD_tw {l : List Nat} (h : twL l = true) : pairD (.str (S l)) = .str (S (pr2 l)) := by unfold pairD; rw [onS_S, if_pos h, textOf_S]
theorem pairD_SL : ∀ {as : List (List Nat)}, (∀ l ∈ as, twL l = true) → (SL as).map pairD = SL (as.map pr2)
  | [], _ => rfl
  | l :: as, h => by
    show pairD (.str (S l)) :: (SL as).map pairD = _
    rw [pairD_tw (h l (by simp)), pairD_SL fun k hk => h k (List.mem_cons_of_mem _ hk)]
    rfl
theorem dS_inj {a b : List Nat} (h : D.str (S a) = .str (S b)) : a = b := by
  injection h with h
  have := congrArg (fun z : Str => z.cps.toList) h
  simp only [S_cps] at this
  exact this
theorem Arrs.tw {as : List (List Nat)} (h : Arrs as) : ∀ l ∈ as, twL l = true := fun l hl => by
  obtain ⟨a, b, rfl, h1, h2, h3⟩ := h.pr l hl
  exact decide_eq_true ⟨h1, h2, h3⟩
theorem SL_inj {a b : List (List Nat)} (e : D.tup (SL a) = .tup (SL b)) : a = b := by
  injection e with e
  have := congrArg (List.map textOf) e
  rw [SL_text, SL_text] at this
  exact this
theorem AErr.no {CI CA CR : Addr} {as : List (List Nat)} {x : Xn} (ha : Arrs as) (h : AErr CI CA CR (.tup (SL as)) x) : False := by
  rcases h with h | ⟨bs, e, u1, u2, u3, rfl⟩
  · have hx : TErr CI CA (.tup ((SL as).map pairD)) x := h
    rw [pairD_SL ha.tw] at hx
    exact hx.no ha.ties
  · cases SL_inj e
    rw [rkB_t ha.two ha.rk] at u3
    cases u3
def sShownA (CI CA CR : Addr) : PSp := fun ds Q => (∃ y, ds = [.exc CI [("index", y)]] ∧ (y = .non ∨ ∃ k : Nat, y = .int k ∧ k ≤ 1000000) ∧ Q (.lst [.str "arrows", .str (shownD y)])) ∨ (ds = [.exc CA []] ∧ Q (.lst [.str "apart", .str ""])) ∨ (ds = [.exc CR []] ∧ Q (.lst [.str "ringed", .str ""]))
inductive ToldA (CI CA CR : Addr) : Xn → D → Prop
  | non : ToldA CI CA CR ⟨.ref CI, some [("index", .non)]⟩ (.lst [.str "arrows", .str (shownD .non)])
  | int {k : Nat} (h : k ≤ 10) : ToldA CI CA CR ⟨.ref CI, some [("index", .int k)]⟩ (.lst [.str "arrows", .str (shownD (.int k))])
  | apart : ToldA CI CA CR ⟨.ref CA, none⟩ (.lst [.str "apart", .str ""])
  | ringed : ToldA CI CA CR ⟨.ref CR, none⟩ (.lst [.str "ringed", .str ""])
theorem ToldA.ok {CI CA CR : Addr} {x : Xn} {r : D} (h : ToldA CI CA CR x r) : okD r = true ∧ dpD r ≤ 3 := by
  cases h with
  | non => exact ⟨by decide +kernel, by decide +kernel⟩
  | @int k hk =>
    refine ⟨?_, by simp [dpD, dpL]⟩
    have := shown_small k hk
    rw [okD, okL, okL, okL, this]
    decide +kernel
  | apart => exact ⟨by decide +kernel, by decide +kernel⟩
  | ringed => exact ⟨by decide +kernel, by decide +kernel⟩
theorem ToldA.shown {CI CA CR : Addr} {x : Xn} {r : D} (h : ToldA CI CA CR x r) : ∃ C, x.cls = .ref C ∧ (C = CI ∨ C = CA ∨ C = CR) ∧ ∀ Qc : D → Prop, Qc r → sShownA CI CA CR [.exc C (x.fs.getD [])] Qc := by
  cases h with
  | non => exact ⟨CI, rfl, .inl rfl, fun Qc hq => .inl ⟨_, rfl, .inl rfl, hq⟩⟩
  | @int k hk => exact ⟨CI, rfl, .inl rfl, fun Qc hq => .inl ⟨_, rfl, .inr ⟨k, rfl, by omega⟩, hq⟩⟩
  | apart => exact ⟨CA, rfl, .inr (.inl rfl), fun Qc hq => .inr (.inl ⟨rfl, hq⟩)⟩
  | ringed => exact ⟨CR, rfl, .inr (.inr rfl), fun Qc hq => .inr (.inr ⟨rfl, hq⟩)⟩
end Pdl
namespace Pdl
open PySem L2 PyProof.Rows
end Pdl
namespace Pdl
open PySem L2 PyProof.Rows
def NoY (CI CA CR : Addr) (d : D) : Prop := NoStr d ∨ ∃ l x, d = .str (S l) ∧ AErr CI CA CR (.tup (SL (TL.spl [32] 0 [] l))) x
theorem NoY.no {CI CA CR : Addr} {as : List (List Nat)} (ha : Arrs as) (h : NoY CI CA CR (.str (S (txt as)))) : False := by
  rcases h with h | ⟨l, x, e, hx⟩
  · cases h
  · rw [← dS_inj e, spl_txt ha] at hx
    exact hx.no ha
end Pdl
namespace Pdl
open PySem L2 PyProof.Rows
theorem exch_ranked_back {as : List (List Nat)} {p : Nat} (h2 : Two as) (hr : Ranked as) (hg : Takes as p) : Ranked (exch as p) := by
  obtain ⟨r, h⟩ := hr
  have hl : NoLoop as := Ranked.noLoop ⟨r, h⟩
  refine ⟨fun x => if x = p then 0 else r x + 1, fun a b hab => ?_⟩
  show (if a = p then 0 else r a + 1) < (if b = p then 0 else r b + 1)
  rcases (mem_exch h2).mp hab with ⟨h1, h3⟩ | ⟨h1, h3⟩
  · have h4 : ¬ p = b := fun e => hg a (e ▸ h3)
    have h5 : p = a := h1.resolve_right h4
    rw [if_pos h5.symm, if_neg fun e => h4 e.symm]
    omega
  · have := h a b h3
    rw [if_neg fun e => h1 (.inl e.symm), if_neg fun e => h1 (.inr e.symm)]
    omega
theorem back_arrs {as : List (List Nat)} {p : Nat} (h : Arrs as) (hg : Takes as p) : Arrs (exch as p) := exch_arrs h (exch_ranked_back h.two h.rk hg)
/-- what arrows lead to from some places -/
def ledL (as : List (List Nat)) (M : List Nat) : List Nat := (as.filter fun l => decide (fst2 l ∈ M)).map snd2
end Pdl
namespace Pdl
open PySem L2 PyProof.Rows
end Pdl
namespace Pdl
open PySem L2 PyProof.Rows
theorem lessL_mem {ls : List (List Nat)} {a b : Nat} {t : List Nat} : t ∈ lessL ls a b ↔ t ∈ ls ∧ t ≠ [a, b] := by unfold lessL; rw [List.mem_filter, decide_eq_true_iff]
theorem lessL_near {ls : List (List Nat)} {a b : Nat} (h : Ties ls) (hne : lessL ls a b ≠ []) : NearT (lessL ls a b) := by
  refine ⟨hne, Nat.le_trans (List.length_filter_le _ _) h.len, fun l hl => h.pr l (lessL_mem.mp hl).1, h.asc.filter _, ?_⟩
  refine Nat.le_trans (nodup_len (us_nodup _) (m := us ls.flatten) fun x hx => ?_) h.few
  obtain ⟨l, hl, hx⟩ := List.mem_flatten.mp (mem_us.mp hx)
  exact mem_us.mpr (List.mem_flatten.mpr ⟨l, (lessL_mem.mp hl).1, hx⟩)
def Joi (ls : List (List Nat)) (a b : Nat) : Prop := lessL ls a b ≠ [] ∧ us (lessL ls a b).flatten = us ls.flatten ∧ Conn (lessL ls a b)
theorem Joi.ties {ls : List (List Nat)} {a b : Nat} (h : Ties ls) (hj : Joi ls a b) : Ties (lessL ls a b) := (lessL_near h hj.1).ties hj.2.2
end Pdl
namespace PySem
namespace HandSPX
end HandSPX
end PySem
namespace Pdl
open PySem L2 PyProof.Rows PySem.Spec
end Pdl
namespace Pdl
open PySem L2 PyProof.Rows
end Pdl
namespace Pdl
open PySem L2 PyProof.Rows PySem.Spec
end Pdl
namespace Pdl
open PySem L2 PyProof.Rows
def idxX (C : Addr) (k : Nat) : Xn := ⟨.ref C, some [("index", .int (k : Int))]⟩
end Pdl
namespace Pdl
open PySem L2 PyProof.Rows
end Pdl
namespace R1
open PySem
theorem run_one {M : Model} {Γ : Ctx} {p : Pos} {t : Sem PySem.Fin} {fs : List Frame} {s s1 : Shared} {e1 : End} (h : Runs M Γ p t fs s e1 s1) : ∀ {e2 : End} {s2 : Shared}, Runs M Γ p t fs s e2 s2 → e1 = e2 ∧ s1 = s2 := by
  induction h with
  | done => intro e2 s2 h2; cases h2; exact ⟨rfl, rfl⟩
  | raise => intro e2 s2 h2; cases h2; exact ⟨rfl, rfl⟩
  | again _ _ ih => intro e2 s2 h2; cases h2 with | again _ h => exact ih h
  | rule _ ih => intro e2 s2 h2; cases h2 with | rule h => exact ih h
  | «at» _ ih => intro e2 s2 h2; cases h2 with | «at» h => exact ih h
  | load ho _ ih => intro e2 s2 h2; cases h2 with | load ho2 h => rw [ho] at ho2; cases ho2; exact ih h
  | update _ _ ih => intro e2 s2 h2; cases h2 with | update _ h => exact ih h
  | loadIfAlive _ ih => intro e2 s2 h2; cases h2 with | loadIfAlive h => exact ih h
  | point _ ih => intro e2 s2 h2; cases h2 with | point h => exact ih h
  | alloc _ ih => intro e2 s2 h2; cases h2 with | alloc h => exact ih h
  | fresh _ ih => intro e2 s2 h2; cases h2 with | fresh h => exact ih h
  | ask _ ih => intro e2 s2 h2; cases h2 with | ask h => exact ih h
  | choose _ _ ih => intro e2 s2 h2; cases h2 with | choose _ h => exact ih h
  | os _ ih => intro e2 s2 h2; cases h2 with | os h => exact ih h
  | handled _ ih => intro e2 s2 h2; cases h2 with | handled h => exact ih h
  | genState hg _ ih => intro e2 s2 h2; cases h2 with | genState hg2 h => rw [hg] at hg2; cases hg2; exact ih h
  | stack _ ih => intro e2 s2 h2; cases h2 with | stack h => exact ih h
  | thread _ ih => intro e2 s2 h2; cases h2 with | thread h => exact ih h
  | newGen _ ih => intro e2 s2 h2; cases h2 with | newGen h => exact ih h
  | call _ _ ih1 ih2 =>
    intro e2 s2 h2
    cases h2 with
    | call a b =>
      obtain ⟨q1, q2⟩ := ih1 a
      cases q1; cases q2
      exact ih2 b
    | callSusp a =>
      obtain ⟨q1, _⟩ := ih1 a
      cases q1
  | callSusp _ ih =>
    intro e2 s2 h2
    cases h2 with
    | call a b =>
      obtain ⟨q1, _⟩ := ih a
      cases q1
    | callSusp a =>
      obtain ⟨q1, q2⟩ := ih a
      cases q1; cases q2
      exact ⟨rfl, rfl⟩
  | yield => intro e2 s2 h2; cases h2; exact ⟨rfl, rfl⟩
  | resumeFresh hg _ _ _ ih1 ih2 =>
    intro e2 s2 h2
    cases h2 with
    | resumeFresh hg2 a _ b =>
      rw [hg] at hg2; cases hg2
      obtain ⟨q1, q2⟩ := ih1 a
      cases q1; cases q2
      exact ih2 b
    | resumeSuspended hg2 => rw [hg] at hg2; cases hg2
    | resumeJustStarted hg2 hv => exact absurd rfl hv
    | resumeRunning hg2 => rw [hg] at hg2; cases hg2
    | resumeFinished hg2 => rw [hg] at hg2; cases hg2
  | resumeSuspended hg _ _ _ ih1 ih2 =>
    intro e2 s2 h2
    cases h2 with
    | resumeFresh hg2 => rw [hg] at hg2; cases hg2
    | resumeSuspended hg2 a _ b =>
      rw [hg] at hg2; cases hg2
      obtain ⟨q1, q2⟩ := ih1 a
      cases q1; cases q2
      exact ih2 b
    | resumeJustStarted hg2 => rw [hg] at hg2; cases hg2
    | resumeThrowFresh hg2 => rw [hg] at hg2; cases hg2
    | resumeRunning hg2 => rw [hg] at hg2; cases hg2
    | resumeFinished hg2 => rw [hg] at hg2; cases hg2
  | resumeJustStarted hg hv _ ih =>
    intro e2 s2 h2
    cases h2 with
    | resumeFresh hg2 => exact absurd rfl hv
    | resumeSuspended hg2 => rw [hg] at hg2; cases hg2
    | resumeJustStarted _ _ h => exact ih h
    | resumeRunning hg2 => rw [hg] at hg2; cases hg2
    | resumeFinished hg2 => rw [hg] at hg2; cases hg2
  | resumeThrowFresh hg _ ih =>
    intro e2 s2 h2
    cases h2 with
    | resumeSuspended hg2 => rw [hg] at hg2; cases hg2
    | resumeThrowFresh _ h => exact ih h
    | resumeRunning hg2 => rw [hg] at hg2; cases hg2
    | resumeFinished hg2 => rw [hg] at hg2; cases hg2
  | resumeRunning hg _ ih =>
    intro e2 s2 h2
    cases h2 with
    | resumeFresh hg2 => rw [hg] at hg2; cases hg2
    | resumeSuspended hg2 => rw [hg] at hg2; cases hg2
    | resumeJustStarted hg2 => rw [hg] at hg2; cases hg2
    | resumeThrowFresh hg2 => rw [hg] at hg2; cases hg2
    | resumeRunning _ h => exact ih h
    | resumeFinished hg2 => rw [hg] at hg2; cases hg2
  | resumeFinished hg _ ih =>
    intro e2 s2 h2
    cases h2 with
    | resumeFresh hg2 => rw [hg] at hg2; cases hg2
    | resumeSuspended hg2 => rw [hg] at hg2; cases hg2
    | resumeJustStarted hg2 => rw [hg] at hg2; cases hg2
    | resumeThrowFresh hg2 => rw [hg] at hg2; cases hg2
    | resumeRunning hg2 => rw [hg] at hg2; cases hg2
    | resumeFinished _ h => exact ih h
  | segRet _ _ ih1 ih2 =>
    intro e2 s2 h2
    cases h2 with
    | segRet a b => obtain ⟨q1, q2⟩ := ih1 a; cases q1; cases q2; exact ih2 b
    | segSuspOut _ a => obtain ⟨q1, _⟩ := ih1 a; cases q1
    | segSuspGen _ a => obtain ⟨q1, _⟩ := ih1 a; cases q1
  | segGen _ _ ih1 ih2 =>
    intro e2 s2 h2
    cases h2 with
    | segGen a b => obtain ⟨q1, q2⟩ := ih1 a; cases q1; cases q2; exact ih2 b
    | segSuspOut _ a => obtain ⟨q1, _⟩ := ih1 a; cases q1
    | segSuspGen _ a => obtain ⟨q1, _⟩ := ih1 a; cases q1
  | segSuspOut hsp _ ih =>
    intro e2 s2 h2
    cases h2 with
    | segRet a b => obtain ⟨q1, _⟩ := ih a; cases q1
    | segGen a b => obtain ⟨q1, _⟩ := ih a; cases q1
    | segSuspOut _ a => obtain ⟨q1, q2⟩ := ih a; cases q1; cases q2; exact ⟨rfl, rfl⟩
    | segSuspGen hsp2 a => rw [hsp] at hsp2; cases hsp2
  | segSuspGen hsp _ _ _ ih1 ih2 =>
    intro e2 s2 h2
    cases h2 with
    | segRet a b => obtain ⟨q1, _⟩ := ih1 a; cases q1
    | segGen a b => obtain ⟨q1, _⟩ := ih1 a; cases q1
    | segSuspOut hsp2 a => rw [hsp] at hsp2; cases hsp2
    | segSuspGen hsp2 a _ b => rw [hsp] at hsp2; cases hsp2; obtain ⟨q1, q2⟩ := ih1 a; cases q1; cases q2; exact ih2 b
theorem wakes_one {M : Model} {Γ : Ctx} {p : Pos} {g : Nat} {r : Resume} {s s1 s2 : Shared} {a b : GenResult} (h1 : Wakes M Γ p g r s a s1) (h2 : Wakes M Γ p g r s b s2) : a = b ∧ s1 = s2 := by
  unfold Wakes at h1 h2
  cases hg : s.gens[g]? with
  | none => rw [hg] at h1; exact h1.elim
  | some st =>
    rw [hg] at h1 h2
    cases st with
    | fresh c =>
      cases r with
      | send v =>
        by_cases hv : v = .none
        · subst hv
          obtain ⟨e1, t1, r1, _, rfl, rfl⟩ := h1
          obtain ⟨e2, t2, r2, _, rfl, rfl⟩ := h2
          obtain ⟨rfl, rfl⟩ := run_one r1 r2
          exact ⟨rfl, rfl⟩
        · cases v <;> first | exact absurd rfl hv | exact ⟨h1.1.trans h2.1.symm, h1.2.trans h2.2.symm⟩
      | throw x => exact ⟨h1.1.trans h2.1.symm, h1.2.trans h2.2.symm⟩
    | suspended k0 l0 c0 p0 fs cl =>
      obtain ⟨e1, t1, r1, _, rfl, rfl⟩ := h1
      obtain ⟨e2, t2, r2, _, rfl, rfl⟩ := h2
      obtain ⟨rfl, rfl⟩ := run_one r1 r2
      exact ⟨rfl, rfl⟩
    | running => exact ⟨h1.1.trans h2.1.symm, h1.2.trans h2.2.symm⟩
    | finished => exact ⟨h1.1.trans h2.1.symm, h1.2.trans h2.2.symm⟩
theorem wp_and {α : Type} (M : Model) (Γ : Ctx) (t : Sem α) : ∀ {Q1 Q2 : α → Pos → Shared → Prop} {E1 E2 : Value → Pos → Shared → Prop} {p : Pos} {s : Shared}, Sem.wp M Γ t Q1 E1 p s → Sem.wp M Γ t Q2 E2 p s →
    Sem.wp M Γ t (fun a p s => Q1 a p s ∧ Q2 a p s) (fun e p s => E1 e p s ∧ E2 e p s) p s := by
  induction t with
  | pure a => intro Q1 Q2 E1 E2 p s h1 h2; exact ⟨h1, h2⟩
  | raise e => intro Q1 Q2 E1 E2 p s h1 h2; exact ⟨h1, h2⟩
  | unsupported _ => intro Q1 Q2 E1 E2 p s h1 h2; exact h1
  | finish _ => intro Q1 Q2 E1 E2 p s h1 h2; exact h1
  | rule _ k ih => intro Q1 Q2 E1 E2 p s h1 h2; exact ih () h1 h2
  | «at» p' k ih => intro Q1 Q2 E1 E2 p s h1 h2; exact ih () h1 h2
  | load a _ k ih => intro Q1 Q2 E1 E2 p s h1 h2; obtain ⟨o, ho, h1⟩ := h1; obtain ⟨o2, ho2, h2⟩ := h2; rw [ho] at ho2; cases ho2; exact ⟨o, ho, ih o h1 h2⟩
  | update a _ f k ih => intro Q1 Q2 E1 E2 p s h1 h2; exact ⟨h1.1, ih () h1.2 h2.2⟩
  | loadIfAlive a k ih => intro Q1 Q2 E1 E2 p s h1 h2; exact ih _ h1 h2
  | point _ k ih => intro Q1 Q2 E1 E2 p s h1 h2; exact ih () h1 h2
  | register _ _ => intro Q1 Q2 E1 E2 p s h1 h2; exact h1
  | alloc o k ih => intro Q1 Q2 E1 E2 p s h1 h2; exact ih _ h1 h2
  | fresh k ih => intro Q1 Q2 E1 E2 p s h1 h2; exact ih _ h1 h2
  | ask k ih => intro Q1 Q2 E1 E2 p s h1 h2; exact ih _ h1 h2
  | choose src m k ih => intro Q1 Q2 E1 E2 p s h1 h2; exact ⟨h1.1, ih _ h1.2 h2.2⟩
  | os q _ k ih => intro Q1 Q2 E1 E2 p s h1 h2; exact ih _ h1 h2
  | call c hd _ _ k ih =>
    intro Q1 Q2 E1 E2 p s h1 h2
    obtain ⟨r, s', hr, h1⟩ := h1
    obtain ⟨r2, s2, hr2, h2⟩ := h2
    obtain ⟨q1, q2⟩ := run_one hr hr2
    cases q1; cases q2
    exact ⟨r, s', hr, ih r h1 h2⟩
  | handled own k ih => intro Q1 Q2 E1 E2 p s h1 h2; exact ih _ h1 h2
  | genState g k ih => intro Q1 Q2 E1 E2 p s h1 h2; obtain ⟨st, hs, h1⟩ := h1; obtain ⟨st2, hs2, h2⟩ := h2; rw [hs] at hs2; cases hs2; exact ⟨st, hs, ih _ h1 h2⟩
  | newGen c k ih => intro Q1 Q2 E1 E2 p s h1 h2; exact ih _ h1 h2
  | resume g r _ k ih =>
    intro Q1 Q2 E1 E2 p s h1 h2
    obtain ⟨res, s', hw, h1⟩ := h1
    obtain ⟨r2, s2, hw2, h2⟩ := h2
    obtain ⟨rfl, rfl⟩ := wakes_one hw hw2
    exact ⟨res, s', hw, ih res h1 h2⟩
  | yield _ _ _ _ => intro Q1 Q2 E1 E2 p s h1 h2; exact h1
  | stack k ih => intro Q1 Q2 E1 E2 p s h1 h2; exact ih _ h1 h2
  | fork _ _ => intro Q1 Q2 E1 E2 p s h1 h2; exact h1
  | thread k ih => intro Q1 Q2 E1 E2 p s h1 h2; exact ih _ h1 h2
  | await _ _ _ _ _ => intro Q1 Q2 E1 E2 p s h1 h2; exact h1
/-- two walks over one run -/
theorem wpAny_both {α : Type} {M : Model} {A : Around} {t : Sem α} {Q1 Q2 : α → Shared → Prop} {E1 E2 : Value → Shared → Prop} {s : Shared} (h1 : wpAny M A t Q1 E1 s) (h2 : wpAny M A t Q2 E2 s) :
    wpAny M A t (fun a s => Q1 a s ∧ Q2 a s) (fun e s => E1 e s ∧ E2 e s) s := fun Γ p hΓ => wp_and M Γ t (h1 Γ p hΓ) (h2 Γ p hΓ)
end R1
namespace R1
open PySem L2 PyProof.Rows PySem.Spec
/-- a text with a token below k -/
def GoodV (k : Nat) (u : Value) : Prop := ∃ z t, u = .str z t ∧ 1 ≤ (t : Nat) ∧ (t : Nat) < k
theorem GoodV.mono {k k2 : Nat} {u : Value} (h : GoodV k u) (e : k ≤ k2) : GoodV k2 u := let ⟨z, t, h1, h2, h3⟩ := h; ⟨z, t, h1, h2, Nat.lt_of_lt_of_le h3 e⟩
/-- the local x holds such a text -/
def GdL (X : Cx) (x : Str) (s : Shared) : Prop := ∃ m u, s.heap.Ns X.env.locals m ∧ m x = some u ∧ GoodV s.toks u
/-- the own frame stays, but for slots; tokens do not fall -/
def Kp (X : Cx) (s s' : Shared) : Prop := s.toks ≤ s'.toks ∧ ∀ o, s.heap.get? X.env.locals = some o → ∃ sl, s'.heap.get? X.env.locals = some { o with slots := sl }
theorem Kp.refl {X : Cx} {s : Shared} : Kp X s s := ⟨Nat.le_refl _, fun o e => ⟨o.slots, e⟩⟩
theorem Kp.trans {X : Cx} {a b c : Shared} (h1 : Kp X a b) (h2 : Kp X b c) : Kp X a c := ⟨Nat.le_trans h1.1 h2.1, fun o e => by
  obtain ⟨sl, e1⟩ := h1.2 o e
  obtain ⟨sl2, e2⟩ := h2.2 _ e1
  exact ⟨sl2, e2⟩⟩
theorem Kp.ns {X : Cx} {a b : Shared} (h : Kp X a b) {m : Str → Option Value} (hn : a.heap.Ns X.env.locals m) : b.heap.Ns X.env.locals m := by
  obtain ⟨o, es, ep, e, d, r⟩ := hn
  obtain ⟨sl, e2⟩ := h.2 o e
  exact ⟨_, es, ep, e2, d, r⟩
theorem GdL.keep {X : Cx} {x : Str} {a b : Shared} (g : GdL X x a) (h : Kp X a b) : GdL X x b := by
  obtain ⟨m, u, h1, h2, h3⟩ := g
  exact ⟨m, u, h.ns h1, h2, h3.mono h.1⟩
theorem raw_iter {M : Program} {w : World} {A : Around} {E : Value → Shared → Prop} {s : Shared} {z : Str} {t : Tok} {Q : Value → Shared → Prop}
    (h : ∀ (ty : String) (h' : Heap), (ty = "str_ascii_iterator" ∨ ty = "str_iterator") → h'.IsStrIter s.heap.objs.size ty z t 0 → (∀ b o, s.heap.get? b = some o → h'.get? b = some o) → s.heap.objs.size < h'.objs.size → Q (.ref s.heap.objs.size) { s with heap := h' }) : wpAny (model M w) A (pyIter (.str z t)) Q E s := by
  cases ha : z.cps.all (· < 128)
  · exact wpAny_pyIter_wide ha (h _ _ (.inr rfl) ⟨_, Heap.get?_push_size _ rfl, rfl, rfl⟩ (fun b o e => Heap.get?_push_of_some _ e) (by rw [Heap.size_push]; omega))
  · exact wpAny_pyIter_ascii ha (h _ _ (.inl rfl) ⟨_, Heap.get?_push_size _ rfl, rfl, rfl⟩ (fun b o e => Heap.get?_push_of_some _ e) (by rw [Heap.size_push]; omega))
theorem raw_next {M : Program} {w : World} {A : Around} {E : Value → Shared → Prop} {s : Shared} {z : Str} {t : Tok} {ty : String} {it : Addr} {i c : Nat} {Q : Option Value → Shared → Prop} (hty : ty = "str_ascii_iterator" ∨ ty = "str_iterator") (st : s.heap.IsStrIter it ty z t i) (hx : z.cps[i]? = some c)
    (h : ∀ h', h'.IsStrIter it ty z t (i + 1) → Heap.SameBut it s.heap h' → Q (some (.str ⟨#[c]⟩ s.toks)) { s with heap := h', toks := s.toks + 1 }) : wpAny (model M w) A (pyNext (.ref it)) Q E s := by
  rcases hty with rfl | rfl
  · exact wpAny_pyNext_ascii_item st hx h
  · exact wpAny_pyNext_wide_item st hx h
theorem raw_stop {M : Program} {w : World} {A : Around} {E : Value → Shared → Prop} {s : Shared} {z : Str} {t : Tok} {ty : String} {it : Addr} {i : Nat} {Q : Option Value → Shared → Prop} (hh : A.handled = none) (hty : ty = "str_ascii_iterator" ∨ ty = "str_iterator") (st : s.heap.IsStrIter it ty z t i) (hx : z.cps[i]? = none)
    (h : ∀ h', Heap.ExtBut it s.heap h' → Q none { s with heap := h' }) : wpAny (model M w) A (pyNext (.ref it)) Q E s := by
  rcases hty with rfl | rfl
  · exact wpAny_pyNext_ascii_end hh st hx h
  · exact wpAny_pyNext_wide_end hh st hx h
theorem raw_go {M : Program} {w : World} {A : Around} {E : Value → Shared → Prop} {s : Shared} {z : Str} {t : Tok} {ty : String} {it : Addr} {i : Nat} {tg : Expr} {u : Value} {Q : Unit → Shared → Prop} (hty : ty = "str_ascii_iterator" ∨ ty = "str_iterator") (st : s.heap.IsStrIter it ty z t i) (h : Q () s) : wpAny (model M w) A (letOwnedTupleGo tg (.ref it) u) Q E s := by
  obtain ⟨o, e, c, d⟩ := st
  refine go_of e c d ?_ h
  rcases hty with rfl | rfl <;> decide
end R1
namespace Pdl
open PySem L2 PyProof.Rows PySem.Spec
section
variable {X : Cx} {μ : Md} {Γ : En} {P : Po} {sts : List Stmt} {es : List Expr} {k n : Nat}
/-- targets = a, .., "text", behind which a token is out -/
theorem xb_tupT {tg : Expr} {kt : Nat} {pt pos : Pos} (h : XA1 X μ es Γ fun ds Γ1 => ds.length ≤ 100000 ∧ XG X μ tg (.tup ds) Γ1 fun Γ2 => XBT X μ sts Γ2 P) (hs : swapsWithSole [tg] (.Tuple es kt pt) pos.line X.env = pure false := by rfl) (hw : swappedStores [tg] (.Tuple es kt pt) X.env = pure none := by rfl)
    (h1 : (assignEach [tg] X.env).map (·.2) = [assign tg X.env] := by rfl) : XB X μ (.Assign [tg] (.Tuple es kt pt) pos :: sts) Γ P := by
  refine ⟨fun pins s σ H D I ⟨R, k1, k2, k3, k4⟩ => ?_⟩
  refine wpAny_execs_cons (wpAny_Assign_stores (wpAny_Tuple_spliced (thn (h pt pins s σ H (fun vs H1 => ∃ ds Γ1, Γ1.s = Γ.s ∧ Fw Γ.c Γ1.c H H1 ∧ Rel X.K μ H1 σ Γ1 ∧ RpA X.K (Vw μ Γ1 H1) vs ds ∧ ds.length ≤ 100000 ∧ XG X μ tg (.tup ds) Γ1 fun Γ2 => XBT X μ sts Γ2 P) I ⟨R, fun vs H1 ds Γ1 s1 f1 R1 r1 hq => ⟨ds, Γ1, s1, f1, R1, r1, hq⟩⟩) fun us s1 ⟨t1, vs, H1, I1, rvs, ds, Γ1, e1, f1, R1', r1, hl, hq⟩ => ?_)) hs hw)
  have hz : vs.length ≤ sizeLine := by
    rw [r1.length]
    exact Nat.le_trans hl (by decide)
  have fresh : H1 s1.heap.objs.size = none := I1.hok.fresh (Nat.le_refl _)
  have up := sub_upd (o := .tup vs) fresh
  have I2 : Inv X pins σ (upd H1 s1.heap.objs.size (.tup vs)) { s1 with heap := s1.heap.push { cls := .type "tuple", data := .seq us.toArray } } :=
    I1.laid (t' := s1.toks) (fun b u e => Heap.get?_push_of_some _ e) (Nat.le_refl _) ⟨hz, us, rvs, ⟨_, Heap.get?_push_size _ rfl, rfl, _, rfl⟩⟩
  refine ⟨by rw [← rvs.length]; exact hz, ?_⟩
  rw [h1]
  refine wpAny_mono (PySem.wpAny_toks (hq.run pins _ σ _ (.ref s1.heap.objs.size) _ (fun σ2 H2 => ∃ Γ2, Fw Γ1.c Γ2.c (upd H1 s1.heap.objs.size (.tup vs)) H2 ∧ Rel X.K μ H2 σ2 Γ2 ∧ XBT X μ sts Γ2 P) I2 rfl ⟨R1'.more up, .tup (.of (hid_upd (R1'.fresh fresh))) (r1.mono (Fw.of_sub (c := Γ1.c) up).sub), fun σ2 H2 Γ2 f2 R2 hq => ⟨Γ2, f2, R2, hq⟩⟩)) (fun _ s2 ⟨le2, σ2, H2, I3, Γ2, f2, R2, hq2⟩ => ?_) fun _ _ z => z.2
  have ff := (f1.trans (Fw.of_sub up)).trans f2
  exact hq2 pins s2 σ2 H2 D (Nat.le_trans t1 le2) I3 ⟨R2, fun σ3 H3 Γ3 f3 R3 z => k1 σ3 H3 Γ3 (ff.trans f3) R3 z, fun v σ3 H3 d Γ3 f3 R3 r z => k2 v σ3 H3 d Γ3 (ff.trans f3) R3 r z, fun σ3 H3 Γ3 f3 R3 z => k3 σ3 H3 Γ3 (ff.trans f3) R3 z, fun σ3 H3 Γ3 f3 R3 z => k4 σ3 H3 Γ3 (ff.trans f3) R3 z⟩
end
end Pdl
namespace Pdl
open PySem L2 PyProof.Rows
/-- so many times each -/
def leftF (pl : List Nat) (f : Nat → Int) : List Nat := (pl.map fun p => List.replicate (f p).toNat p).flatten
theorem leftF_count {pl : List Nat} (hn : pl.Nodup) {f : Nat → Int} {p : Nat} : (leftF pl f).count p = if p ∈ pl then (f p).toNat else 0 := by
  induction pl with
  | nil => rfl
  | cons a r ih =>
    have hn2 := (List.nodup_cons.mp hn).2
    have ha := (List.nodup_cons.mp hn).1
    have e : leftF (a :: r) f = List.replicate (f a).toNat a ++ leftF r f := rfl
    rw [e, List.count_append, ih hn2, List.count_replicate]
    by_cases hp : a = p
    · subst hp
      rw [if_neg ha]
      simp
    · have h1 : (a == p) = false := by simpa using hp
      have h2 : (p ∈ a :: r) ↔ p ∈ r := by
        rw [List.mem_cons]
        exact ⟨fun h => h.resolve_left fun e => hp e.symm, .inr⟩
      rw [h1]
      by_cases hr : p ∈ r
      · rw [if_pos hr, if_pos (h2.mpr hr)]; simp
      · rw [if_neg hr, if_neg fun z => hr (h2.mp z)]; simp
/-- what holds while a row is told -/
structure RowI (bs here : List (List Nat)) (left : List Nat) (f : Nat → Int) : Prop where
  arrs : Arrs here
  same : SameW here bs
  fit : Fit here bs f
  cnt : ∀ p ∈ here.flatten, (left.count p : Int) = f p
  sub : ∀ p ∈ left, p ∈ here.flatten
theorem RowI.first {bs here : List (List Nat)} {left : List Nat} {f : Nat → Int} (h : RowI bs here left f) (hne : left ≠ []) : ∃ c, left.find? (givesB here) = some c ∧ c ∈ left ∧ Gives here c := by
  obtain ⟨a, ha⟩ := List.exists_mem_of_ne_nil _ hne
  have hap := h.sub a ha
  have h1 := h.cnt a hap
  have h2 : 0 < left.count a := List.count_pos_iff.mpr ha
  obtain ⟨q, hq, hq0, hg⟩ := h.fit.giver h.arrs.two h.arrs.rk h.same hap (by omega)
  have h3 := h.cnt q hq
  have hql : q ∈ left := List.count_pos_iff.mp (by omega)
  cases e : left.find? (givesB here) with
  | none => exact absurd ((givesB_iff h.arrs.two).mpr hg) (by have := List.find?_eq_none.mp e q hql; simpa using this)
  | some c => exact ⟨c, rfl, List.mem_of_find?_eq_some e, (givesB_iff h.arrs.two).mp (List.find?_some e)⟩
theorem RowI.step {bs here : List (List Nat)} {left : List Nat} {f : Nat → Int} (h : RowI bs here left f) (hb : Two bs) {c : Nat} (hc : c ∈ left) (hg : Gives here c) : RowI bs (exch here c) (left.erase c) (fun x => if x = c then f x - 1 else f x) := by
  refine ⟨turn_arrs h.arrs hg, ?_, h.fit.turn h.arrs.two hb h.same h.arrs.rk.noLoop hg, fun p hp => ?_, fun p hp => mem_exch_flat.mpr (h.sub p (List.mem_of_mem_erase hp))⟩
  · show (exch here c).map pr2 = bs.map pr2
    rw [exch_pr2 h.arrs.two]
    exact h.same
  · have hp := mem_exch_flat.mp hp
    have h1 := h.cnt p hp
    by_cases e : p = c
    · subst e
      have h2 : 0 < left.count p := List.count_pos_iff.mpr hc
      rw [if_pos rfl, List.count_erase_self]
      omega
    · rw [if_neg e, List.count_erase_of_ne e]
      exact h1
theorem RowI.start {as bs : List (List Nat)} {f : Nat → Int} (ha : Arrs as) (hs : SameW as bs) (hf : Fit as bs f) (h0 : ∀ p ∈ as.flatten, 0 ≤ f p) : RowI bs as (leftF (us as.flatten) f) f := by
  have hn : (us as.flatten).Nodup := (us_sorted _).imp fun h => Nat.ne_of_lt h
  refine ⟨ha, hs, hf, fun p hp => ?_, fun p hp => ?_⟩
  · rw [leftF_count hn, if_pos (mem_us.mpr hp)]
    have := h0 p hp
    omega
  · have h1 : 0 < (leftF (us as.flatten) f).count p := List.count_pos_iff.mpr hp
    rw [leftF_count hn] at h1
    split at h1
    · next h => exact mem_us.mp h
    · omega
/-- no number is greater than six -/
theorem fit_few {as bs : List (List Nat)} {f : Nat → Int} (ha : Arrs as) (hb : Two bs) (hs : SameW as bs) (hf : Fit as bs f) (h0 : ∀ p ∈ as.flatten, 0 ≤ f p) (hz : ∃ p ∈ as.flatten, f p = 0) : ∀ p ∈ as.flatten, f p ≤ 6 := by
  intro p hp
  obtain ⟨z, hzm, hz0⟩ := hz
  have mid : ∀ m : Nat, (m : Int) ≤ f p → ∃ q ∈ as.flatten, f q = m := fun m hm => by
    by_cases h : ∃ q ∈ as.flatten, f q = m
    · exact h
    · have no : ∀ q ∈ as.flatten, f q ≠ m := fun q hq e => h ⟨q, hq, e⟩
      by_cases hm0 : m = 0
      · exact ⟨z, hzm, by rw [hz0, hm0]; rfl⟩
      · have step : ∀ a b, [a, b] ∈ as → (f a < m ↔ f b < m) := fun a b hab => by
          obtain ⟨i, hi⟩ := List.getElem?_of_mem hab
          have hlt : i < bs.length := by rw [← hs.len]; exact (List.getElem?_eq_some_iff.mp hi).1
          have e1 := hf i a b bs[i] hi (List.getElem?_eq_getElem hlt)
          have n1 := no a (List.mem_flatten.mpr ⟨_, hab, by simp⟩)
          have n2 := no b (List.mem_flatten.mpr ⟨_, hab, by simp⟩)
          split at e1 <;> omega
        have hc := ha.connA
        by_cases hh : f (fst2 (as.head?.getD [])) < m
        · have := hc (fun x => f x < m) hh step p hp
          omega
        · have := hc (fun x => ¬ f x < m) hh (fun a b hab => not_congr (step a b hab)) z hzm
          omega
  have hlen := nodup_len (l := List.range ((f p).toNat + 1)) (m := (us as.flatten).map fun q => (f q).toNat) List.nodup_range fun x hx => by
    have hx := List.mem_range.mp hx
    have h1 := h0 p hp
    obtain ⟨q, hq, e⟩ := mid x (by omega)
    exact List.mem_map.mpr ⟨q, mem_us.mpr hq, by rw [e]; simp⟩
  rw [List.length_range, List.length_map] at hlen
  have := ha.few
  have := h0 p hp
  omega
end Pdl
namespace Pdl
open PySem L2 PyProof.Rows
end Pdl
namespace Pdl
open PySem L2 PyProof.Rows
theorem pvs_at {r : List Nat} (h : r ≠ []) {k : Nat} (hk : k < r.length) : pvs r k = r.getD (if k = 0 then r.length - 1 else k - 1) 0 := by
  unfold pvs
  split
  · unfold lst
    rw [List.getLast?_eq_getElem?, List.getD_eq_getElem?_getD]
  · rfl
theorem getD_inj {r : List Nat} (hn : r.Nodup) {i j : Nat} (hi : i < r.length) (hj : j < r.length) (h : r.getD i 0 = r.getD j 0) : i = j := by
  simp only [List.getD_eq_getElem?_getD, List.getElem?_eq_getElem hi, List.getElem?_eq_getElem hj, Option.getD_some] at h
  exact (List.getElem_inj hn).mp h
theorem mem_cp {r : List Nat} (h : r ≠ []) {a b : Nat} : (a, b) ∈ cp r ↔ ∃ k, k < r.length ∧ a = pvs r k ∧ b = r.getD k 0 := by
  rw [cp_eq h, List.mem_map]
  constructor
  · rintro ⟨k, hk, e⟩
    cases e
    exact ⟨k, List.mem_range.mp hk, rfl, rfl⟩
  · rintro ⟨k, hk, rfl, rfl⟩
    exact ⟨k, List.mem_range.mpr hk, rfl⟩
theorem cp_to {r : List Nat} (hn : r.Nodup) (h : r ≠ []) {a b c : Nat} (h1 : (b, a) ∈ cp r) (h2 : (c, a) ∈ cp r) : b = c := by
  obtain ⟨k, hk, rfl, e1⟩ := (mem_cp h).mp h1
  obtain ⟨j, hj, rfl, e2⟩ := (mem_cp h).mp h2
  rw [getD_inj hn hk hj (e1.symm.trans e2)]
theorem cp_from {r : List Nat} (hn : r.Nodup) (h : r ≠ []) {a b c : Nat} (h1 : (a, b) ∈ cp r) (h2 : (a, c) ∈ cp r) : b = c := by
  obtain ⟨k, hk, e1, rfl⟩ := (mem_cp h).mp h1
  obtain ⟨j, hj, e2, rfl⟩ := (mem_cp h).mp h2
  rw [pvs_at h hk] at e1
  rw [pvs_at h hj] at e2
  have hz := List.length_pos_iff.mpr h
  have := getD_inj hn (by split <;> omega) (by split <;> omega) (e1.symm.trans e2)
  have : k = j := by
    split at this <;> split at this <;> omega
  rw [this]
theorem cp_mem {r : List Nat} (h : r ≠ []) {a b : Nat} (hab : (a, b) ∈ cp r) : a ∈ r ∧ b ∈ r := by
  obtain ⟨k, hk, rfl, rfl⟩ := (mem_cp h).mp hab
  rw [pvs_at h hk]
  have hz := List.length_pos_iff.mpr h
  have hm : ∀ i, i < r.length → r.getD i 0 ∈ r := fun i hi => by
    simp only [List.getD_eq_getElem?_getD, List.getElem?_eq_getElem hi, Option.getD_some]
    exact List.getElem_mem hi
  exact ⟨hm _ (by split <;> omega), hm _ hk⟩
theorem cp_two {r : List Nat} (hn : r.Nodup) (h3 : 3 ≤ r.length) {x : Nat} (hx : x ∈ r) : ∃ p q, (p, x) ∈ cp r ∧ (x, q) ∈ cp r ∧ p ≠ q := by
  have h : r ≠ [] := fun z => by rw [z] at h3; simp at h3
  obtain ⟨k, hk, e⟩ := List.mem_iff_getElem.mp hx
  have ex : r.getD k 0 = x := by simp [List.getD_eq_getElem?_getD, List.getElem?_eq_getElem hk, e]
  by_cases hl : k + 1 < r.length
  · refine ⟨pvs r k, r.getD (k + 1) 0, (mem_cp h).mpr ⟨k, hk, rfl, ex.symm⟩, (mem_cp h).mpr ⟨k + 1, hl, ?_, rfl⟩, fun z => ?_⟩
    · rw [pvs_at h hl, if_neg (by omega), Nat.add_sub_cancel, ex]
    · rw [pvs_at h hk] at z
      have := getD_inj hn (by split <;> omega) hl z
      split at this <;> omega
  · refine ⟨pvs r k, r.getD 0 0, (mem_cp h).mpr ⟨k, hk, rfl, ex.symm⟩, (mem_cp h).mpr ⟨0, by omega, ?_, rfl⟩, fun z => ?_⟩
    · rw [pvs_at h (by omega), if_pos rfl, show r.length - 1 = k by omega, ex]
    · rw [pvs_at h hk] at z
      have := getD_inj hn (by split <;> omega) (by omega) z
      split at this <;> omega
theorem cyc_adj {ls : List (List Nat)} {r : List Nat} (h : Cyc ls r) {a b : Nat} (hab : (a, b) ∈ cp r) : Adj ls a b := by
  have hne : r ≠ [] := fun z => by have := h.len; rw [z] at this; simp at this
  have hl := h.len
  obtain ⟨k, hk, rfl, rfl⟩ := (mem_cp hne).mp hab
  by_cases h0 : k = 0
  · subst h0
    have : r.getD 0 0 = hd r := by unfold hd; rw [List.head?_eq_getElem?, List.getD_eq_getElem?_getD]
    rw [this]
    exact h.cl
  · rw [pvs_at hne hk, if_neg h0]
    have := (chn_iff r).mp h.chn (k - 1) (by omega)
    rw [show k - 1 + 1 = k by omega] at this
    exact this
theorem RingT.uniq {ls : List (List Nat)} {l r : List Nat} (h : RingT ls l) (hs : l.Pairwise (· < ·)) (hr : Ring ls r) : r = l := by
  have hl := h.len
  have hm := hr.len
  have hne := h.ne
  have hrne : r ≠ [] := fun z => by rw [z] at hm; simp at hm
  -- r holds all places
  have clo : ∀ p ∈ zp l, p.1 ∈ r ∨ p.2 ∈ r → p.1 ∈ r ∧ p.2 ∈ r := by
    rintro ⟨a, b⟩ hp hab
    have hc : (a, b) ∈ cp l := List.mem_cons_of_mem _ hp
    dsimp only at hab ⊢
    have fw : a ∈ r → b ∈ r := fun ha => by
      obtain ⟨p, q, h1, h2, hpq⟩ := cp_two hr.nd hm ha
      rcases h.of (cyc_adj hr.toCyc h1) with z | z
      · rcases h.of (cyc_adj hr.toCyc h2) with y | y
        · rw [cp_from h.nd hne hc y]
          exact (cp_mem hrne h2).2
        · exact absurd (cp_to h.nd hne z y) hpq
      · rw [cp_from h.nd hne hc z]
        exact (cp_mem hrne h1).1
    have bw : b ∈ r → a ∈ r := fun hb => by
      obtain ⟨p, q, h1, h2, hpq⟩ := cp_two hr.nd hm hb
      rcases h.of (cyc_adj hr.toCyc h2) with z | z
      · rcases h.of (cyc_adj hr.toCyc h1) with y | y
        · rw [cp_to h.nd hne hc y]
          exact (cp_mem hrne h1).1
        · exact absurd (cp_from h.nd hne y z) hpq
      · rw [cp_to h.nd hne hc z]
        exact (cp_mem hrne h2).2
    rcases hab with z | z
    · exact ⟨z, fw z⟩
    · exact ⟨bw z, z⟩
  have rl : ∀ x ∈ r, x ∈ l := fun x hx => by
    obtain ⟨p, q, h1, h2, _⟩ := cp_two hr.nd hm hx
    rcases h.of (cyc_adj hr.toCyc h1) with z | z
    · exact (cp_mem hne z).2
    · exact (cp_mem hne z).1
  have lr : ∀ x ∈ l, x ∈ r := zp_all (C := fun x => x ∈ r) clo ⟨hd r, rl _ (hd_mem hrne), hd_mem hrne⟩
  have hp : r.Perm l := (List.perm_ext_iff_of_nodup hr.nd h.nd).mpr fun x => ⟨rl x, lr x⟩
  have hlen := hp.length_eq
  have g0 : ∀ s : List Nat, hd s = s.getD 0 0 := fun s => by unfold hd; rw [List.head?_eq_getElem?, List.getD_eq_getElem?_getD]
  have gl : ∀ s : List Nat, s ≠ [] → lst s = s.getD (s.length - 1) 0 := fun s hs => by
    unfold lst
    rw [List.getLast?_eq_getElem?, List.getD_eq_getElem?_getD]
  have gm : ∀ (s : List Nat) i, i < s.length → s.getD i 0 ∈ s := fun s i hi => by
    simp only [List.getD_eq_getElem?_getD, List.getElem?_eq_getElem hi, Option.getD_some]
    exact List.getElem_mem hi
  have asc : ∀ i j, i < j → j < l.length → l.getD i 0 < l.getD j 0 := fun i j hij hj => by
    simp only [List.getD_eq_getElem?_getD, List.getElem?_eq_getElem hj, List.getElem?_eq_getElem (show i < l.length by omega), Option.getD_some]
    exact List.pairwise_iff_getElem.mp hs i j _ _ hij
  have e0 : r.getD 0 0 = l.getD 0 0 := by
    have h1 : r.getD 0 0 ≤ l.getD 0 0 := by rw [← g0 r]; exact hr.least _ (lr _ (gm l 0 (by omega)))
    have h2 : r.getD 0 0 ∈ l := rl _ (gm r 0 (by omega))
    obtain ⟨k, hk, e⟩ := List.mem_iff_getElem.mp h2
    have e : l.getD k 0 = r.getD 0 0 := by simp only [List.getD_eq_getElem?_getD, List.getElem?_eq_getElem hk, Option.getD_some, e]
    rcases Nat.eq_zero_or_pos k with rfl | hk0
    · exact e.symm
    · have := asc 0 k hk0 hk
      omega
  have lc : ∀ k, k + 1 < l.length → (l.getD k 0, l.getD (k + 1) 0) ∈ cp l := fun k hk => (mem_cp hne).mpr ⟨k + 1, hk, by rw [pvs_at hne hk, if_neg (by omega), Nat.add_sub_cancel], rfl⟩
  have l0 : (l.getD (l.length - 1) 0, l.getD 0 0) ∈ cp l := (mem_cp hne).mpr ⟨0, by omega, by rw [pvs_at hne (by omega), if_pos rfl], rfl⟩
  have rc : ∀ k, k + 1 < r.length → Adj ls (r.getD k 0) (r.getD (k + 1) 0) := (chn_iff r).mp hr.chn
  rcases h.of (rc 0 (by omega)) with z | z
  · have all : ∀ k, k < r.length → r.getD k 0 = l.getD k 0 ∧ (k + 1 < r.length → (r.getD k 0, r.getD (k + 1) 0) ∈ cp l) := fun k => by
      induction k with
      | zero => exact fun _ => ⟨e0, fun _ => z⟩
      | succ k ih =>
        intro hk
        obtain ⟨i1, i2⟩ := ih (by omega)
        have i2 := i2 hk
        refine ⟨cp_from h.nd hne i2 (by rw [i1]; exact lc k (by omega)), fun hk2 => ?_⟩
        rcases h.of (rc (k + 1) hk2) with y | y
        · exact y
        · have := getD_inj hr.nd (by omega) hk2 (cp_to h.nd hne i2 y)
          omega
    refine List.ext_getElem hlen fun i h1 h2 => ?_
    have := (all i h1).1
    simpa only [List.getD_eq_getElem?_getD, List.getElem?_eq_getElem h1, List.getElem?_eq_getElem h2, Option.getD_some] using this
  · exfalso
    have e1 : r.getD 1 0 = l.getD (l.length - 1) 0 := cp_to h.nd hne z (by rw [e0]; exact l0)
    have hcl := hr.cl
    rw [g0 r, gl r hrne] at hcl
    have ht : r.getD 1 0 < r.getD (r.length - 1) 0 := by
      rw [← gl r hrne]
      exact hr.turn _ (by simp [List.getD_eq_getElem?_getD, List.getElem?_eq_getElem (show 1 < r.length by omega)])
    rcases h.of hcl with y | y
    · have := getD_inj hr.nd (show r.length - 1 < r.length by omega) (show 1 < r.length by omega) (cp_to h.nd hne y (by rw [e0, e1]; exact l0))
      omega
    · have := cp_from h.nd hne (by rw [← e0] at *; exact y) (show (r.getD 0 0, l.getD 1 0) ∈ cp l by rw [e0]; exact lc 0 (by omega))
      rw [this, e1] at ht
      rcases Nat.lt_or_ge 1 (l.length - 1) with q | q
      · have := asc 1 (l.length - 1) q (by omega)
        omega
      · omega
theorem TreeT.none {ls : List (List Nat)} (h : TreeT ls) : rgs ls = [] := (tree_iff h.ties).mpr h.cnt
end Pdl
namespace Pdl
open PySem PySem.Spec L2 PyProof.Rows
def SetP (G : Value → Prop) (w : World) (h : Heap) (a : Addr) (L : List Key) : Prop :=
  ∃ (o : Obj) (es : Array (Int × Value)) (ep : Nat) (t : SetTable), h.get? a = some o ∧ o.ExactSet ∧ o.data = .set es ep t ∧ (∀ e ∈ es.toList, GoodK w e) ∧ (es.toList.map kOf).Nodup ∧ (∀ k, k ∈ L ↔ k ∈ es.toList.map kOf) ∧ es.size ≤ L.length ∧ t.fits es.size = true ∧ Ris t.place.toList ∧ (w.params.followText "set-order" = true ∨ t.led = true) ∧ ∀ e ∈ es.toList, G e.2
section
variable {P : Program} {w : World} {A : Around} {E : Value → Shared → Prop} {s : Shared} {a : Addr} {L : List Key} {G : Value → Prop}
theorem SetP.at {h h' : Heap} (q : SetP G w h a L) (e : ∀ o, h.get? a = some o → h'.get? a = some o) : SetP G w h' a L := by
  obtain ⟨o, es, ep, t, ho, r⟩ := q
  exact ⟨o, es, ep, t, e o ho, r⟩
theorem SetP.mono {h : Heap} {G' : Value → Prop} (q : SetP G w h a L) (e : ∀ v, G v → G' v) : SetP G' w h a L := by
  obtain ⟨o, es, ep, t, h1, h2, h3, h4, h5, h6, h7, h8, h9, h10, h11⟩ := q
  exact ⟨o, es, ep, t, h1, h2, h3, h4, h5, h6, h7, h8, h9, h10, fun z hz => e _ (h11 z hz)⟩
end
end Pdl
namespace Pdl
open PySem L2 PyProof.Rows PySem.Spec
section
variable {X : Cx} {μ : Md} {Γ : En} {P : Po} {sts : List Stmt} {k n : Nat} {pos : Pos}
/-- where no token is asked -/
theorem xbt_of (h : XB X μ sts Γ P) : XBT X μ sts Γ P := fun pins s σ H D _ I q => h.run pins s σ H D I q
theorem xbt_nil (h : P.nx Γ) : XBT X μ [] Γ P := xbt_of (xb_nil h)
/-- for t in it: body, where a token is out -/
theorem xbt_for {body : List Stmt} {tg it : Expr} (hp : PassesOwn (model X.prog X.w) X.A X.env X.xe) (hc : X.calm = true)
    (h : XI X μ tg it Γ fun ds Γ1 => ∃ J : Nat → En → Prop, J 0 Γ1 ∧ (∀ i d Γ2, ds[i]? = some d → J i Γ2 → XG X μ tg d Γ2 fun Γ3 => XBT X μ body Γ3 { nx := J (i + 1), ct := J (i + 1), bk := fun _ => False, rt := P.rt }) ∧ ∀ Γ2, J ds.length Γ2 → XBT X μ sts Γ2 P)
    (hs : ∀ x, foldedSetIterable it X.env x = pure x := by intro _; rfl) : XBT X μ (.For tg it body [] pos :: sts) Γ P := by
  intro pins s σ H D h0 I ⟨R, k1, k2, k3, k4⟩
  refine wpAny_execs_cons (wpAny_For (wpAny_mono (PySem.wpAny_toks (h.run pins s σ H (fun JJ H1 => ∃ ds Γ1, Γ1.s = Γ.s ∧ Fw Γ.c Γ1.c H H1 ∧ Rel X.K μ H1 σ Γ1 ∧ Wk X.K (Vw μ Γ1 H1) JJ ds ∧ ∃ J : Nat → En → Prop, J 0 Γ1 ∧ (∀ i d Γ2, ds[i]? = some d → J i Γ2 → XG X μ tg d Γ2 fun Γ3 => XBT X μ body Γ3 { nx := J (i + 1), ct := J (i + 1), bk := fun _ => False, rt := P.rt }) ∧ ∀ Γ2, J ds.length Γ2 → XBT X μ sts Γ2 P) I
    ⟨R, fun JJ H1 ds Γ1 e1 f1 R1 wk hq => ⟨ds, Γ1, e1, f1, R1, wk, hq⟩⟩)) (fun v s1 q1 => wpAny_mono (PySem.wpAny_toks q1.2) (fun itv s2 q2 => ?_) fun _ _ z => z.2) fun _ _ z => z.2) hs)
  obtain ⟨le1, _⟩ := q1
  obtain ⟨le2, it0, fp, tn, JJ, H2, e, I2, T, st2, f2, ds, Γ1, e1, fw1, R1, wk, J, j0, step, done⟩ := q2
  subst e
  have stat : ∀ {H' : Hp}, (∀ b ∈ fp, H' b = none) → ∀ b ∈ fp, FpOk X pins H' b := fun hn b hb => ⟨hn b hb, (f2 b hb).2⟩
  refine codeAny_forLoop_any (fun m s' => ∃ i σ' H' Γ', 1 ≤ s'.toks ∧ Inv X pins σ' H' s' ∧ tn i s'.heap ∧ (∀ b ∈ fp, H' b = none) ∧ Fw Γ1.c Γ'.c H2 H' ∧ Rel X.K μ H' σ' Γ' ∧ J i Γ' ∧ m = ds.length - i ∧ i ≤ ds.length) ?_ ds.length ⟨0, σ, H2, Γ1, by omega, I2, st2, fun b hb => (f2 b hb).1, Fw.refl _ _, R1, j0, by simp, Nat.zero_le _⟩
  rintro m s3 ⟨i, σ3, H3, Γ3, t3, I3, st3, fr3, fw3, R3, j3, rfl, hi⟩
  obtain ⟨w1, w2⟩ := wk i H3 (tot μ.m Γ3.c) fw3.sub R3.domT
  by_cases hlt : i < ds.length
  · obtain ⟨go, yl⟩ := w1 ds[i] (by simp [hlt])
    refine wpAny_passesOwn hp (wpAny_mono (PySem.wpAny_toks (T.item X rfl rfl rfl hc i pins s3 σ3 H3 X.xe I3 (stat fr3) st3 go)) (fun r s4 q => ?_) fun _ _ z => z.2)
    obtain ⟨le4, u, hr, h4⟩ := q
    subst hr
    refine wpAny_passesOwn hp (wpAny_mono (PySem.wpAny_toks h4) (fun _ s5 q => ?_) fun _ _ z => z.2)
    obtain ⟨le5, x, H5, I5, r5, y5, st5, fr5⟩ := q
    have I5' := I5.pinned (stat fr5) (T.obj _ _ st5)
    obtain ⟨e5, rp5⟩ := yl x H5 y5
    have f5 : Fw Γ3.c Γ3.c H3 H5 := Fw.of_sub e5
    refine wpAny_passesOwn hp (wpAny_mono (PySem.wpAny_toks ((step i ds[i] Γ3 (by simp [hlt]) j3).run _ s5 σ3 H5 x u (fun σ6 H6 => ∃ Γ6, Fw Γ3.c Γ6.c H5 H6 ∧ Rel X.K μ H6 σ6 Γ6 ∧ XBT X μ body Γ6 { nx := J (i + 1), ct := J (i + 1), bk := fun _ => False, rt := P.rt }) I5' r5 ⟨R3.more e5, rp5, fun σ6 H6 Γ6 f6 R6 hb => ⟨Γ6, f6, R6, hb⟩⟩)) (fun _ s6 q => ?_) fun _ _ z => z.2)
    obtain ⟨le6, σ6, H6, I6, Γ6, f6, R6, hb⟩ := q
    have fw6 : Fw Γ1.c Γ6.c H2 H6 := (fw3.trans f5).trans f6
    refine wpAny_passesOwn hp (wpAny_mono (PySem.wpAny_toks (hb _ s6 σ6 H6 { nx := fun σ7 H7 => ∃ Γ7, Fw Γ1.c Γ7.c H2 H7 ∧ Rel X.K μ H7 σ7 Γ7 ∧ J (i + 1) Γ7, ct := fun σ7 H7 => ∃ Γ7, Fw Γ1.c Γ7.c H2 H7 ∧ Rel X.K μ H7 σ7 Γ7 ∧ J (i + 1) Γ7, bk := fun _ _ => False, rt := D.rt } (by omega) I6
      ⟨R6, fun σ7 H7 Γ7 f7 R7 z => ⟨Γ7, fw6.trans f7, R7, z⟩, fun v σ7 H7 d Γ7 f7 R7 r z => k2 v σ7 H7 d Γ7 ((fw1.trans fw6).trans f7) R7 r z, fun _ _ _ _ _ z => z, fun σ7 H7 Γ7 f7 R7 z => ⟨Γ7, fw6.trans f7, R7, z⟩⟩)) (fun fl s7 q => ?_) fun _ _ z => z.2)
    obtain ⟨le7, q⟩ := q
    have again : ∀ {σ7 : L2.St} {H7 : Hp}, Inv X (pins ++ pinsAt fp s5.heap) σ7 H7 s7 → (∃ Γ7, Fw Γ1.c Γ7.c H2 H7 ∧ Rel X.K μ H7 σ7 Γ7 ∧ J (i + 1) Γ7) → ∃ m, m < ds.length - i ∧ ∃ i' σ' H' Γ', 1 ≤ s7.toks ∧ Inv X pins σ' H' s7 ∧ tn i' s7.heap ∧ (∀ b ∈ fp, H' b = none) ∧ Fw Γ1.c Γ'.c H2 H' ∧ Rel X.K μ H' σ' Γ' ∧ J i' Γ' ∧ m = ds.length - i' ∧ i' ≤ ds.length := fun {σ7 H7} I7 ⟨Γ7, f7, R7, j7⟩ => by
      refine ⟨ds.length - (i + 1), by omega, i + 1, σ7, H7, Γ7, by omega, I7.unpinned, T.keep _ _ _ st5 fun b hb o e => (I7.pin (b, o) (List.mem_append_right _ (List.mem_append_right _ (mem_pinsAt hb e)))).1, fun b hb => ?_, f7, R7, j7, rfl, hlt⟩
      obtain ⟨o, e, _⟩ := T.obj _ _ st5 b hb
      exact (I7.pin (b, o) (List.mem_append_right _ (List.mem_append_right _ (mem_pinsAt hb e)))).2.1
    cases fl with
    | next => obtain ⟨σ7, H7, I7, q⟩ := q; exact again I7 q
    | cont => obtain ⟨σ7, H7, I7, q⟩ := q; exact again I7 q
    | brk => obtain ⟨σ7, H7, I7, q⟩ := q; exact q.elim
    | ret v => obtain ⟨x7, σ7, H7, I7, r7, q⟩ := q; exact ⟨x7, σ7, H7, I7.unpinned, r7, q⟩
  · have hii : i = ds.length := by omega
    subst hii
    refine wpAny_passesOwn hp (wpAny_mono (PySem.wpAny_toks (T.done X rfl rfl rfl hc ds.length pins s3 σ3 H3 X.xe I3 (stat fr3) st3 (w2 (Nat.le_refl _)))) (fun r s4 q => ?_) fun _ _ z => z.2)
    obtain ⟨le4, hr, I4⟩ := q
    subst hr
    exact wpAny_execs_nil (done Γ3 j3 pins s4 σ3 H3 D (by omega) I4 ⟨R3, fun σ2 H2 Γ2 f2 R2 z => k1 σ2 H2 Γ2 ((fw1.trans fw3).trans f2) R2 z, fun v σ2 H2 d Γ2 f2 R2 r z => k2 v σ2 H2 d Γ2 ((fw1.trans fw3).trans f2) R2 r z, fun σ2 H2 Γ2 f2 R2 z => k3 σ2 H2 Γ2 ((fw1.trans fw3).trans f2) R2 z, fun σ2 H2 Γ2 f2 R2 z => k4 σ2 H2 Γ2 ((fw1.trans fw3).trans f2) R2 z⟩)
end
end Pdl
namespace Pdl
open PySem L2 PyProof.Rows PySem.Spec
end Pdl
namespace Pdl
open PySem L2 PyProof.Rows
/-- an arrow ahead of turnings that are left -/
def arrL (left : List Nat) (l : List Nat) : List Nat := if left.count (fst2 l) = left.count (snd2 l) then l else l.reverse
def leftA (bs : List (List Nat)) (left : List Nat) : List (List Nat) := bs.map (arrL left)
theorem RowI.here {bs here : List (List Nat)} {left : List Nat} {f : Nat → Int} (h : RowI bs here left f) (hb : Two bs) : leftA bs left = here := by
  have hl := h.same.len
  refine List.ext_getElem (by simp [leftA, hl]) fun i h1 h2 => ?_
  have hib : i < bs.length := by rw [← hl]; exact h2
  obtain ⟨a, b, e⟩ := h.arrs.two _ (List.getElem_mem h2)
  obtain ⟨x, y, e2⟩ := hb _ (List.getElem_mem hib)
  have hp : pr2 [a, b] = pr2 [x, y] := by
    have q : here.map pr2 = bs.map pr2 := h.same
    have := congrArg (fun z : List (List Nat) => z[i]?) q
    simp only [List.getElem?_map, List.getElem?_eq_getElem h2, List.getElem?_eq_getElem hib, Option.map_some] at this
    rw [e, e2] at this
    exact Option.some.inj this
  have hf := h.fit i a b [x, y] (by rw [List.getElem?_eq_getElem h2, e]) (by rw [List.getElem?_eq_getElem hib, e2])
  have hma : a ∈ here.flatten := List.mem_flatten.mpr ⟨_, List.getElem_mem h2, by rw [e]; simp⟩
  have hmb : b ∈ here.flatten := List.mem_flatten.mpr ⟨_, List.getElem_mem h2, by rw [e]; simp⟩
  have ca := h.cnt a hma
  have cb := h.cnt b hmb
  have hne : a ≠ b := fun z => by
    subst z
    exact h.arrs.rk.noLoop a (by rw [← e]; exact List.getElem_mem h2)
  have eg : (leftA bs left)[i] = arrL left [x, y] := by simp [leftA, e2]
  rw [eg, e]
  unfold arrL fst2 snd2
  rcases pr2_inv hp with ⟨rfl, rfl⟩ | ⟨rfl, rfl⟩
  · rw [if_pos rfl] at hf
    have : left.count a = left.count b := by omega
    simp [this]
  · have hn : ¬ [a, b] = [b, a] := fun z => by
      simp at z
      exact hne z.1
    rw [if_neg hn] at hf
    have : ¬ left.count b = left.count a := by omega
    simp [this]
/-- the places of a text that give ahead of what is left -/
def gvP (bs : List (List Nat)) (left : List Nat) : List Nat := (us left).filter (givesB (leftA bs left))
def gvL (here : List (List Nat)) : List Nat := (us here.flatten).filter (givesB here)
def cP (bs : List (List Nat)) : Nat → List Nat → Nat
  | 0, _ => 1
  | n + 1, left => ((gvP bs left).map fun p => cP bs n (left.erase p)).sum
def cL (bs : List (List Nat)) : Nat → List (List Nat) → Nat
  | 0, here => if here = bs then 1 else 0
  | n + 1, here => ((gvL here).map fun p => cL bs n (exch here p)).sum
/-- no row of so many turnings turns a place that is not left -/
theorem RowI.none {bs here : List (List Nat)} {left : List Nat} {f : Nat → Int} (h : RowI bs here left f) {row : List Nat} (hr : Row here row bs) (hl : row.length = left.length) : ∀ p, row.count p = left.count p := by
  obtain ⟨h1, h2, h3, h4⟩ := hr.facts h.arrs.two h.arrs.rk
  obtain ⟨c, hc⟩ := h.fit.const h.arrs h.same h4
  have hn : (us here.flatten).Nodup := (us_sorted _).imp fun h => Nat.ne_of_lt h
  have s1 := len_counts (us here.flatten) row hn fun x hx => mem_us.mpr (row_in_flat hr x hx)
  have s2 := len_counts (us here.flatten) left hn fun x hx => mem_us.mpr (h.sub x hx)
  have e1 : ((us here.flatten).map fun x => (row.count x : Int)) = (us here.flatten).map fun x => (left.count x : Int) + c := List.map_congr_left fun x hx => by
    have a := hc x (mem_us.mp hx)
    have b := h.cnt x (mem_us.mp hx)
    have a : (row.count x : Int) = f x + c := a
    omega
  have e2 : ∀ V : List Nat, (V.map fun x => (left.count x : Int) + c).sum = (V.map fun x => (left.count x : Int)).sum + V.length * c := fun V => by
    induction V with
    | nil => simp
    | cons a V ih =>
      rw [List.map_cons, List.sum_cons, ih, List.map_cons, List.sum_cons, List.length_cons, Int.natCast_add, Int.add_mul]
      simp
      omega
  rw [e1, e2, s2, hl] at s1
  have hne : us here.flatten ≠ [] := fun e => by
    obtain ⟨l, hl⟩ := List.exists_mem_of_ne_nil _ h.arrs.ne
    obtain ⟨a, b, rfl⟩ := h.arrs.two l hl
    have : a ∈ us here.flatten := mem_us.mpr (List.mem_flatten.mpr ⟨_, hl, by simp⟩)
    rw [e] at this
    cases this
  have hz : ((us here.flatten).length : Int) * c = 0 := by omega
  have hc0 : c = 0 := by
    rcases Int.mul_eq_zero.mp hz with z | z
    · exact absurd (List.length_eq_zero_iff.mp (by omega)) hne
    · exact z
  intro p
  by_cases hp : p ∈ here.flatten
  · have a : (row.count p : Int) = f p + c := hc p hp
    have b := h.cnt p hp
    omega
  · rw [List.count_eq_zero.mpr fun z => hp (row_in_flat hr p z), List.count_eq_zero.mpr fun z => hp (h.sub p z)]
section
variable {κ : Type} [DecidableEq κ]
def wsum (w : κ → Nat) (kvs : List (κ × Nat)) : Nat := (kvs.map fun q => q.2 * w q.1).sum
end
def subsL : List Nat → List (List Nat)
  | [] => [[]]
  | a :: l => subsL l ++ (subsL l).map (a :: ·)
theorem subsL_len : ∀ l : List Nat, (subsL l).length = 2 ^ l.length
  | [] => rfl
  | a :: l => by
    rw [subsL, List.length_append, List.length_map, subsL_len l, List.length_cons, Nat.pow_succ]
    omega
theorem subsL_mem {k l : List Nat} (h : k.Sublist l) : k ∈ subsL l := by
  induction h with
  | slnil => simp [subsL]
  | cons a _ ih => exact List.mem_append_left _ ih
  | cons_cons a _ ih => exact List.mem_append_right _ (List.mem_map_of_mem ih)
theorem subs_few {l : List Nat} {ks : List (List Nat)} (hn : ks.Nodup) (h : ∀ k ∈ ks, k.Sublist l) : ks.length ≤ 2 ^ l.length := by
  rw [← subsL_len]
  exact nodup_len hn fun k hk => subsL_mem (h k hk)
end Pdl
namespace Pdl
open PySem L2 PyProof.Rows PySem.Spec
def dK (kvs : List (List Nat × Nat)) : List (Key × D) := kvs.map fun q => (Sum.inr (S q.1), .int ((q.2 : Nat) : Int))
structure CntI (bs : List (List Nat)) (L0 : List Nat) (n : Nat) (kvs : List (List Nat × Nat)) (N : Nat) : Prop where
  nd : (kvs.map (·.1)).Nodup
  ok : ∀ q ∈ kvs, q.1.length = n ∧ q.1.Sublist L0 ∧ ∃ here f, RowI bs here q.1 f
  sum : wsum (cP bs n) kvs = N
theorem CntI.few {bs : List (List Nat)} {L0 : List Nat} {n N : Nat} {kvs : List (List Nat × Nat)} (h : CntI bs L0 n kvs N) : kvs.length ≤ 2 ^ L0.length := by
  rw [← List.length_map (f := (·.1))]
  exact subs_few h.nd fun k hk => by
    obtain ⟨q, hq, rfl⟩ := List.mem_map.mp hk
    exact (h.ok q hq).2.1
theorem CntI.nil {bs : List (List Nat)} {L0 : List Nat} {n : Nat} : CntI bs L0 n [] 0 := ⟨by simp, fun q hq => (by cases hq), rfl⟩
end Pdl
namespace Pdl
open PySem L2 PyProof.Rows
structure LawI (as bs : List (List Nat)) (n : Nat) (kvs : LvL) (N : Nat) : Prop where
  nd : (kvs.map (·.1)).Nodup
  ok : ∀ q ∈ kvs, Reach as q.1
  sum : wsum (cL bs n) kvs = N
theorem LawI.few {as bs : List (List Nat)} {n N : Nat} {kvs : LvL} (ha : Arrs as) (h : LawI as bs n kvs N) : kvs.length ≤ 1024 := by
  rw [← List.length_map (f := (·.1))]
  exact reach_few ha h.nd fun k hk => by
    obtain ⟨q, hq, rfl⟩ := List.mem_map.mp hk
    exact h.ok q hq
theorem LawI.nil {as bs : List (List Nat)} {n : Nat} : LawI as bs n [] 0 := ⟨by simp, fun q hq => (by cases hq), rfl⟩
end Pdl
namespace Pdl
open PySem L2 PyProof.Rows
theorem LenOk.uniq {as bs : List (List Nat)} {m n : Nat} (h : LenOk as bs m) (h2 : LenOk as bs n) : m = n := by
  obtain ⟨r1, a1, b1⟩ := h.row
  obtain ⟨r2, a2, b2⟩ := h2.row
  have := h.least r2 a2
  have := h2.least r1 a1
  omega
end Pdl
namespace Pdl
open PySem L2 PyProof.Rows
def tails (as : List (List Nat)) : List Nat := (us as.flatten).filter fun p => !(as.any fun l => decide ([fst2 l] = [p]))
end Pdl
namespace Pdl
open PySem L2 PyProof.Rows
def Consec (ls : List (List Nat)) (o : List Nat) : Prop := ∀ p ∈ zp o, p2 p ∈ ls
theorem zp_idx : ∀ {o : List Nat}, o.Nodup → ∀ p ∈ zp o, idx o p.1 < idx o p.2
  | [], _, p, h => by cases h
  | [a], _, p, h => by cases h
  | a :: b :: t, hn, p, h => by
    obtain ⟨h1, h2⟩ := List.nodup_cons.mp hn
    rw [zp_cons] at h
    rcases List.mem_cons.mp h with rfl | h
    · have hab : a ≠ b := fun e => h1 (by rw [e]; simp)
      dsimp only
      rw [idx_head, idx_tail hab]
      omega
    · have hm := zp_mem h
      have e1 : a ≠ p.1 := fun e => h1 (by rw [e]; exact hm.1)
      have e2 : a ≠ p.2 := fun e => h1 (by rw [e]; exact hm.2)
      rw [idx_tail e1, idx_tail e2]
      have := zp_idx h2 p h
      omega
theorem zp_out : ∀ {l : List Nat} {x : Nat}, x ∈ l → x ≠ lst l → ∃ p ∈ zp l, p.1 = x
  | [], _, h, _ => by cases h
  | [a], x, h, hn => absurd (List.mem_singleton.mp h) hn
  | a :: b :: l, x, h, hn => by
    rw [zp_cons]
    rcases List.mem_cons.mp h with rfl | h
    · exact ⟨(x, b), by simp, rfl⟩
    · rw [lst_cons] at hn
      obtain ⟨p, hp, e⟩ := zp_out (l := b :: l) h hn
      exact ⟨p, List.mem_cons_of_mem _ hp, e⟩
theorem single_of {L : List Nat} {a : Nat} (hs : L.Pairwise (· < ·)) (h : ∀ x, x ∈ L ↔ x = a) : L = [a] := by
  have e1 : us [a] = L := us_eq hs fun x => by rw [h, List.mem_singleton]
  have e2 : us [a] = [a] := us_eq (by simp) fun x => Iff.rfl
  rw [← e1, e2]
theorem ends_of {ls : List (List Nat)} {o : List Nat} (h : Ties ls) (ho : ∀ x, x ∈ o ↔ x ∈ ls.flatten) (hn : o.Nodup) (hc : Consec ls o) (hne : o ≠ []) : heads (ls.map (lay o)) = [hd o] ∧ tails (ls.map (lay o)) = [lst o] := by
  have ho1 : ∀ x ∈ ls.flatten, x ∈ o := fun x hx => (ho x).mpr hx
  have ha := lay_arrs h ho1
  have harr : ∀ p ∈ zp o, [p.1, p.2] ∈ ls.map (lay o) := fun p hp => by
    have e : lay o (pr2 [p.1, p.2]) = [p.1, p.2] := lay_of (zp_idx hn p hp)
    rw [← e]
    exact List.mem_map_of_mem (hc p hp)
  constructor
  · refine single_of ((us_sorted _).filter _) fun x => ?_
    rw [mem_heads ha.two]
    constructor
    · rintro ⟨hx, hg⟩
      rw [lay_flat h] at hx
      match o, hne, ho1 x hx with
      | a :: t, _, hx2 =>
        rcases List.mem_cons.mp hx2 with e | hx2
        · exact e
        · obtain ⟨p, hp, rfl⟩ := zp_in (l := a :: t) hx2
          exact absurd (harr p hp) (hg p.1)
    · rintro rfl
      refine ⟨(lay_flat h).mpr ((ho _).mp (hd_mem hne)), ?_⟩
      match o, hne, hn, ho1 with
      | a :: t, _, hn, ho1 => exact (lay_turn h ho1 hn).2
  · refine single_of ((us_sorted _).filter _) fun x => ?_
    rw [tails, List.mem_filter, mem_us]
    have ht : (!((ls.map (lay o)).any fun l => decide ([fst2 l] = [x]))) = true ↔ Takes (ls.map (lay o)) x := takesB_iff ha.two
    rw [ht]
    constructor
    · rintro ⟨hx, hg⟩
      rw [lay_flat h] at hx
      by_cases e : x = lst o
      · exact e
      · obtain ⟨p, hp, rfl⟩ := zp_out (ho1 x hx) e
        exact absurd (harr p hp) (hg p.2)
    · rintro rfl
      refine ⟨(lay_flat h).mpr ((ho _).mp (lst_mem hne)), fun b hb => ?_⟩
      have hlt := lay_idx h ho1 hb
      have hbo : b ∈ o := ho1 b ((lay_flat h).mp (List.mem_flatten.mpr ⟨_, hb, by simp⟩))
      have := idx_lt_len hbo
      have := idx_nat hn (lst_at hne)
      omega
section
variable {ls : List (List Nat)} {l : List Nat}
structure RotOk (ls : List (List Nat)) (l : List Nat) : Prop where
  ties : Ties ls
  all : ∀ x, x ∈ l ↔ x ∈ ls.flatten
  nd : l.Nodup
  ne : l ≠ []
  con : ∀ k, k < l.length → Consec ls (rot l k)
theorem RotOk.mem (h : RotOk ls l) (k : Nat) : ∀ x, x ∈ rot l k ↔ x ∈ ls.flatten := fun x => (rot_perm l k).mem_iff.trans (h.all x)
theorem RotOk.heads (h : RotOk ls l) {k c : Nat} (hc : l[k]? = some c) : Pdl.heads (ls.map (lay (rot l k))) = [c] := by
  have hk := (List.getElem?_eq_some_iff.mp hc).1
  have e := (rot_at hc).1
  have := (ends_of h.ties (h.mem k) ((rot_perm l k).nodup_iff.mpr h.nd) (h.con k hk) (by rw [e]; simp)).1
  rw [this, e]
  rfl
theorem RotOk.step (h : RotOk ls l) {k c : Nat} (hc : l[k]? = some c) : exch (ls.map (lay (rot l k))) c = ls.map (lay (rot l (k + 1))) := by
  obtain ⟨e1, e2⟩ := rot_at hc
  have hp := rot_perm l k
  have ht := lay_turn (a := c) (r := l.drop (k + 1) ++ l.take k) h.ties (fun x hx => by rw [← e1]; exact (h.mem k x).mpr hx) (by rw [← e1]; exact hp.nodup_iff.mpr h.nd)
  rw [← e1, ← e2] at ht
  exact ht.1
theorem RotOk.arrs (h : RotOk ls l) (k : Nat) : Arrs (ls.map (lay (rot l k))) := lay_arrs h.ties fun x hx => (h.mem k x).mpr hx
theorem rot_zero (l : List Nat) : rot l 0 = l := by simp [rot]
theorem RotOk.cnt (h : RotOk ls l) : ∀ {n k : Nat}, k + n ≤ l.length → cL (ls.map (lay (rot l (k + n)))) n (ls.map (lay (rot l k))) = 1
  | 0, k, _ => by simp [cL]
  | n + 1, k, hkn => by
    have hc : l[k]? = some l[k] := List.getElem?_eq_getElem (by omega)
    have hh : gvL (ls.map (lay (rot l k))) = [l[k]] := h.heads hc
    show ((gvL (ls.map (lay (rot l k)))).map fun p => cL _ n (exch (ls.map (lay (rot l k))) p)).sum = 1
    rw [hh, List.map_cons, List.map_nil, List.sum_cons, List.sum_nil, h.step hc, Nat.add_zero]
    have ih := h.cnt (n := n) (k := k + 1) (by omega)
    rw [show k + 1 + n = k + (n + 1) by omega] at ih
    rw [ih]
theorem RotOk.row (h : RotOk ls l) {k : Nat} (hk : k ≤ l.length) : Row (ls.map (lay l)) (l.take k) (ls.map (lay (rot l k))) := rot_row h.ties h.all h.nd k hk
theorem RotOk.len (h : RotOk ls l) {k : Nat} (hk : k < l.length) : LenOk (ls.map (lay l)) (ls.map (lay (rot l k))) k := by
  have ha : Arrs (ls.map (lay l)) := by have := h.arrs 0; rwa [rot_zero] at this
  have hr := h.row (Nat.le_of_lt hk)
  obtain ⟨h1, _, h3, h4⟩ := hr.facts ha.two ha.rk
  have hfl : ∀ x, x ∈ (ls.map (lay l)).flatten ↔ x ∈ l := fun x => (lay_flat h.ties).trans (h.all x).symm
  have hz : ((l.take k).count l[k] : Int) = 0 := by
    have : l[k] ∉ l.take k := fun z => by
      obtain ⟨i, hi, e⟩ := List.mem_iff_getElem.mp z
      have hi2 : i < k := by
        rw [List.length_take] at hi
        omega
      rw [List.getElem_take] at e
      have := (List.getElem_inj h.nd).mp e
      omega
    rw [List.count_eq_zero.mpr this]
    rfl
  obtain ⟨n, hn, hl⟩ := fit_len (f := fun x => ((l.take k).count x : Int)) ha h1 h3 h4 (fun p _ => Int.natCast_nonneg _) ⟨l[k], (hfl _).mpr (List.getElem_mem _), hz⟩
  have e := len_counts (us (ls.map (lay l)).flatten) (l.take k) ((us_sorted _).imp fun h => Nat.ne_of_lt h) fun x hx => mem_us.mpr ((hfl x).mpr (List.mem_of_mem_take hx))
  rw [hn, List.length_take] at e
  have : n = k := by omega
  subst this
  exact hl
end
end Pdl
namespace Pdl
open PySem L2 PyProof.Rows
/-- the walker reads fields of one's own objects -/
inductive OwnW : Prop | mk
theorem inC_perm {c c' : Cs} (h : c.Perm c') : inC c = inC c' := funext fun a => by
  unfold inC
  rw [Bool.eq_iff_iff, List.any_eq_true, List.any_eq_true]
  exact ⟨fun ⟨p, h1, h2⟩ => ⟨p, h.mem_iff.mp h1, h2⟩, fun ⟨p, h1, h2⟩ => ⟨p, h.mem_iff.mpr h1, h2⟩⟩
theorem tot_perm {m : Addr → Bool} {c c' : Cs} (h : c.Perm c') : tot m c = tot m c' := funext fun a => by
  unfold tot
  rw [inC_perm h]
theorem COk.perm {K : PySem.W.Frag} {m : Addr → Bool} {H : Hp} {c c' : Cs} (h : c.Perm c') (R : COk K m H c) : COk K m H c' :=
  ⟨R.dom, (h.map _).nodup_iff.mp R.nd, fun p hp => R.off p (h.mem_iff.mpr hp), fun p hp => by rw [← tot_perm h]; exact R.cells p (h.mem_iff.mpr hp)⟩
theorem Fw.permR {c c1 c2 : Cs} {H H' : Hp} (h : c1.Perm c2) (f : Fw c c1 H H') : Fw c c2 H H' := fun a o h1 h2 => by
  rw [← inC_perm h]
  exact f a o h1 h2
theorem Fw.permL {c c1 c2 : Cs} {H H' : Hp} (h : c1.Perm c2) (f : Fw c1 c H H') : Fw c2 c H H' := fun a o h1 h2 => f a o (by rw [inC_perm h]; exact h1) h2
theorem Rel.perm {K : PySem.W.Frag} {μ : Md} {H : Hp} {σ : L2.St} {s : List (Option D)} {c c' : Cs} (h : c.Perm c') (R : Rel K μ H σ ⟨s, c⟩) : Rel K μ H σ ⟨s, c'⟩ :=
  ⟨R.co.perm h, by have := R.slots; rw [tot_perm h] at this; exact this, R.fw.permR h⟩
/-- what a call asks, whose cells lie anywhere -/
def AsksP (μ : Md) (S : SpD) (Q : QE) (ds : List D) (Γ : En) : Prop := ∃ c1 c2, Γ.c.Perm (c1 ++ c2) ∧ ∀ (Qc : D → Cs → Prop) (Ec : Xn → Cs → Prop), (∀ d c' c3, c3.Perm (c' ++ c2) → Q d ⟨Γ.s, c3⟩ → Qc d c') → (∀ x c' c3, c3.Perm (c' ++ c2) → μ.E x ⟨Γ.s, c3⟩ → Ec x c') → S ds c1 Qc Ec
/-- the mode where an exception's cells lie anywhere -/
def mdP (μ : Md) : Md := { m := μ.m, c0 := μ.c0, H0 := μ.H0, E := fun x Γ => ∃ c3, c3.Perm Γ.c ∧ μ.E x ⟨Γ.s, c3⟩ }
section
variable {X : Cx} {μ : Md} {Γ : En} {S : SpD} {Q : QE}
theorem asks_spP {vs : List V} {ds : List D} {H : Hp} {σ : L2.St} {q : VK} (R : Rel X.K μ H σ Γ) (r : RpA X.K (Vw μ Γ H) vs ds) (hs : AsksP μ S Q ds Γ)
    (k : ∀ v H' d Γ', Γ'.s = Γ.s → Fw Γ.c Γ'.c H H' → Rel X.K μ H' σ Γ' → Rp X.K (Vw μ Γ' H') v d → Q d Γ' → q v H') : spD X.K S vs H q (wD X.K (mdP μ) σ) := by
  obtain ⟨c1, c2, ec, hs⟩ := hs
  obtain ⟨sl, c⟩ := Γ
  have ec : c.Perm (c1 ++ c2) := ec
  have R0 : Rel X.K (mdP μ) H σ ⟨sl, c⟩ := ⟨R.co, R.slots, R.fw⟩
  have R1 := R0.perm ec
  have e1 : Vw (mdP μ) ⟨sl, c1 ++ c2⟩ H = Vw μ ⟨sl, c⟩ H := by show hid (tot μ.m (c1 ++ c2)) H = hid (tot μ.m c) H; rw [tot_perm ec]
  refine asks_sp (Q := fun d Γ2 => ∃ c3, c3.Perm Γ2.c ∧ Q d ⟨Γ2.s, c3⟩) R1 (by rw [e1]; exact r) ⟨c1, c2, rfl, fun Qc Ec kq ke => hs _ _ (fun d c' c3 hp hq => kq d c' ⟨c3, hp, hq⟩) fun x c' c3 hp hx => ke x c' ⟨c3, hp, hx⟩⟩ fun v H' d Γ2 s2 f2 R2 r2 hq => ?_
  obtain ⟨sl2, cc2⟩ := Γ2
  obtain ⟨c3, hp, hq⟩ := hq
  have hp : c3.Perm cc2 := hp
  have R2' : Rel X.K μ H' σ ⟨sl2, cc2⟩ := ⟨R2.co, R2.slots, R2.fw⟩
  refine k v H' d ⟨sl2, c3⟩ s2 ((f2.permL ec.symm).permR hp.symm) (R2'.perm hp.symm) ?_ hq
  have e2 : Vw μ ⟨sl2, c3⟩ H' = Vw (mdP μ) ⟨sl2, cc2⟩ H' := by show hid (tot μ.m c3) H' = hid (tot μ.m cc2) H'; rw [tot_perm hp]
  rw [e2]
  exact r2
end
section
variable {X : Cx} {μ : Md} {Γ : En} {Q : QE} {pos apos p : Pos} {o e : Expr} {es : List Expr} {kws : List Keyword} {k n : Nat} {C : Addr} {f x : Str} {S : SpD} {ks : List Str} {ix : List Nat}
/-- o.f, o an object of one's own -/
theorem xe_fldO (h : XE X μ o Γ fun z Γ1 => ∃ a C c1 fs c2 d, z = .ref a ∧ Γ1.c = c1 ++ (a, .ins C fs) :: c2 ∧ Cls X.K C ∧ NoAttr X.K C f ∧ fs.lookup f = some d ∧ Q d Γ1) (hb : attributeBase o f X.env (eval o X.env) = eval o X.env := by rfl) : XE X μ (.Attribute o f pos) Γ Q :=
  PE.imp (pe_fld h hb) fun σ H q ⟨R, k⟩ => ⟨R, fun v H1 z Γ1 s1 f1 R1 r1 ⟨a, C, c1, fs, c2, d, hz, hc, cl, na, hl, hq⟩ => by
    subst hz
    cases r1
    obtain ⟨sl, cc⟩ := Γ1
    have hc : cc = c1 ++ (a, .ins C fs) :: c2 := hc
    subst hc
    obtain ⟨dx, us, hus, ru⟩ := cell_get R1.co
    obtain ⟨u, hu, rv⟩ := (RpF.lookup ru).1 d hl
    exact ⟨_, C, _, _, u, rfl, hus, cl, na, hu, k u H1 d _ s1 f1 R1 rv hq⟩⟩
/-- a property of an object of one's own -/
theorem xe_propO (M : PropD X.prog X.w X.K X.mg X.base C f k S) (hr : Room n X.A) (hkn : k + 1 ≤ n) (h : XE X μ o Γ fun z Γ1 => ∃ a c1 fs c2, z = .ref a ∧ Γ1.c = c1 ++ (a, .ins C fs) :: c2 ∧ AsksP μ S Q [.ref a] Γ1)
    (hb : attributeBase o f X.env (eval o X.env) = eval o X.env := by rfl) : XE X μ (.Attribute o f pos) Γ Q := by
  obtain ⟨p, g, fd, ps, cl, pr, F, bd⟩ := M
  refine PE.imp pe_u fun σ H q ⟨R, k⟩ => ⟨_, pe_prop (E := wD X.K (mdP μ) σ) h cl pr F (hr.mono hkn) bd .nil pass0' hb, R, fun v H1 z Γ1 s1 f1 R1 r1 ⟨a, c1, fs, c2, hz, hc, hs⟩ => ?_⟩
  subst hz
  cases r1
  obtain ⟨sl, cc⟩ := Γ1
  have hc : cc = c1 ++ (a, .ins C fs) :: c2 := hc
  subst hc
  obtain ⟨dx, us, hus, ru⟩ := cell_get R1.co
  refine ⟨a, dx, us, rfl, hus, ?_⟩
  exact asks_spP R1 (.cons (.ref a) .nil) hs fun v H2 d Γ2 s2 f2 R2 r2 hq => k v H2 d Γ2 (s2.trans s1) (f1.trans f2) R2 r2 hq
end
end Pdl
namespace Pdl
open PySem L2 PyProof.Rows
inductive Wish where
  | gives (p : Nat) | takes (p : Nat) | alone (p : Nat) | leads (p q : Nat) | tally (r : List Nat) (n : Int) | like (bs : List (List Nat))
def hopeD : Wish → D
  | .gives p => .tup [.str "gives", .str (S [p])]
  | .takes p => .tup [.str "takes", .str (S [p])]
  | .alone p => .tup [.str "alone", .str (S [p])]
  | .leads p q => .tup [.str "leads", .str (S [p]), .str (S [q])]
  | .tally r n => .tup [.str "tally", .str (S r), .int n]
  | .like bs => .tup [.str "like", .str (S (txt bs))]
def LetZ (p : Nat) : Prop := 97 ≤ p ∧ p ≤ 122
def WishOk : Wish → Prop
  | .gives p => LetZ p
  | .takes p => LetZ p
  | .alone p => LetZ p
  | .leads p q => LetZ p ∧ LetZ q
  | .tally r n => 3 ≤ r.length ∧ r.length ≤ 7 ∧ (∀ c ∈ r, LetZ c) ∧ -1000 ≤ n ∧ n ≤ 1000
  | .like bs => Arrs bs
/-- what a desk holds: arrows, promises, and both ahead of each change -/
structure DSt where
  as : List (List Nat)
  ps : List Wish
  hs : List (List (List Nat) × List Wish)
def hD (Cy : Addr) (h : List (List Nat) × List Wish) : D := .tup [wayD Cy h.1, .tup (h.2.map hopeD)]
def deskF (Cy : Addr) (st : DSt) : List (Str × D) := [("held", .tup [wayD Cy st.as, .tup (st.ps.map hopeD), .tup (st.hs.map (hD Cy))])]
abbrev dkC (Cd Cy : Addr) (o : Addr) (st : DSt) : Addr × Cell := (o, .ins Cd (deskF Cy st))
structure DskOk (st : DSt) : Prop where
  arrs : Arrs st.as
  ws : ∀ w ∈ st.ps, WishOk w
  few : st.ps.length ≤ 1000
  hfew : st.hs.length ≤ 1000
  past : ∀ h ∈ st.hs, Arrs h.1 ∧ (∀ w ∈ h.2, WishOk w) ∧ h.2.length ≤ 1000
abbrev PSd := DSt → List D → (D → DSt → Prop) → (Xn → DSt → Prop) → Prop
/-- promises of a desk's methods -/
def dS (Cd Cy : Addr) (S : PSd) : SpD := fun ds c Q E => ∃ o st ds', ds = .ref o :: ds' ∧ c = [dkC Cd Cy o st] ∧ S st ds' (fun d st' => Q d [dkC Cd Cy o st']) fun x st' => E x [dkC Cd Cy o st']
abbrev Prd (T : Wd) (Cd Cy : Addr) (f : Str) (k : Nat) (S : PSd) : Prop := PropD T.P T.w T.K T.mg T.base Cd f k (dS Cd Cy S)
section
variable {T : Wd} {Cd Cy : Addr} {f qual : Str} {st : Stmt} {N ps ks : List Str} {ix : List Nat} {k : Nat} {S : PSd}
theorem fnd {g : Addr} {fd : FuncData} (F : Fun T.K f qual st g fd) (sc : FnScope N ps (defScope st)) (len : ∀ s ds Q E, S s ds Q E → ds.length + 1 = ps.length)
    (hbody : N.Nodup → ∀ (f : Addr) (cdv : Value) (A : Around) (outer : List Env) (s : Shared) (H : Hp) (E0 : XK), Room k (cXx T N qual st f cdv A outer s H E0).A →
      ∀ m o s0 ds (Q : D → Cs → Prop) (E : Xn → Cs → Prop), TkD (cXx T N qual st f cdv A outer s H E0) (mdOf m [dkC Cd Cy o s0] H E) → S s0 ds (fun d s1 => Q d [dkC Cd Cy o s1]) (fun x s1 => E x [dkC Cd Cy o s1]) →
        XB (cXx T N qual st f cdv A outer s H E0) (mdOf m [dkC Cd Cy o s0] H E) (defBody st) ⟨startD N (.ref o :: ds), [dkC Cd Cy o s0]⟩ (poOf Q)) :
    FnOk T.P T.w T.K T.mg T.base (L2.CX T.P T.w) (k + 1) g fd ps (spD T.K (dS Cd Cy S)) :=
  fn_DX F sc (fun ds c Q E ⟨o, s0, ds', e, _, h⟩ => by rw [e]; exact len _ _ _ _ h) fun cdv A outer s H E0 hr m ds c Q E tk h => by
    obtain ⟨o, s0, ds', rfl, rfl, h⟩ := h
    exact hbody sc.nd g cdv A outer s H E0 hr m o s0 ds' Q E tk h
end
section
variable {X : Cx} {μ : Md} {Γ : En} {Q : QE} {Cd Cy o : Addr} {st : DSt} {ds : List D} {c1 c2 : Cs} {S : PSd}
/-- what a call of a desk's method asks: the desk lies between c1 and c2 and stays there -/
theorem asks_d (hc : Γ.c = c1 ++ dkC Cd Cy o st :: c2) (h : ∀ (Qc : D → DSt → Prop) (Ec : Xn → DSt → Prop), (∀ d s1, Q d ⟨Γ.s, c1 ++ dkC Cd Cy o s1 :: c2⟩ → Qc d s1) → (∀ x s1, μ.E x ⟨Γ.s, c1 ++ dkC Cd Cy o s1 :: c2⟩ → Ec x s1) → S st ds Qc Ec) : AsksP μ (dS Cd Cy S) Q (.ref o :: ds) Γ :=
  ⟨[dkC Cd Cy o st], c1 ++ c2, by rw [hc]; exact List.perm_middle, fun Qc Ec kq ke => ⟨o, st, ds, rfl, rfl, h _ _ (fun d s1 hq => kq d _ _ (by exact List.perm_middle) hq) fun x s1 hx => ke x _ _ (by exact List.perm_middle) hx⟩⟩
end
def DSt.go (st : DSt) (as : List (List Nat)) (ps : List Wish) : DSt := ⟨as, ps, st.hs ++ [(st.as, st.ps)]⟩
/-- arrows lead from p to q -/
inductive Led (as : List (List Nat)) : Nat → Nat → Prop
  | one {a b : Nat} : [a, b] ∈ as → Led as a b
  | more {a b c : Nat} : Led as a b → [b, c] ∈ as → Led as a c
open Classical in
noncomputable def holdsB (as : List (List Nat)) : Wish → Bool
  | .gives p => decide (p ∈ heads as)
  | .takes p => decide (p ∈ tails as)
  | .alone p => decide (heads as = [p])
  | .leads p q => decide (Led as p q)
  | .tally r n => decide (Ring (as.map pr2) r ∧ tal as r = n)
  | .like bs => decide (SameW as bs ∧ Reach as bs)
noncomputable def firstBad (as : List (List Nat)) (ws : List Wish) : Option Nat := ws.findIdx? fun w => !holdsB as w
/-- a way laid on a desk: what a method comes to -/
def LayTo (CB : Addr) (st : DSt) (as : List (List Nat)) (Q : D → DSt → Prop) (E : Xn → DSt → Prop) : Prop := (∀ k, firstBad as st.ps = some k → E (idxX CB k) st) ∧ (firstBad as st.ps = none → Q .non (st.go as st.ps))
section
variable {X : Cx} {μ : Md} {Γ : En} {Q : QE} {pos apos : Pos} {o e : Expr} {es : List Expr} {kws : List Keyword} {k n : Nat} {Cd Cy : Addr} {f : Str} {S : PSd} {ks : List Str} {ix : List Nat}
/-- what a call asks of a desk that lies between c1 and c2 -/
def AskD (μ : Md) (Cd Cy a : Addr) (c1 c2 : Cs) (st : DSt) (S : PSd) (Q : QE) (ds : List D) (sl : List (Option D)) : Prop := ∀ (Qc : D → DSt → Prop) (Ec : Xn → DSt → Prop), (∀ d s1, Q d ⟨sl, c1 ++ dkC Cd Cy a s1 :: c2⟩ → Qc d s1) → (∀ x s1, μ.E x ⟨sl, c1 ++ dkC Cd Cy a s1 :: c2⟩ → Ec x s1) → S st ds Qc Ec
theorem askd {a : Addr} {c1 c2 : Cs} {st : DSt} {ds : List D} {Γ : En} (hc : Γ.c = c1 ++ dkC Cd Cy a st :: c2) (h : AskD μ Cd Cy a c1 c2 st S Q ds Γ.s) : AsksP μ (dS Cd Cy S) Q (.ref a :: ds) Γ := asks_d hc h
theorem xe_prd (M : Prd (wdX X) Cd Cy f k S) (hr : Room n X.A) (hkn : k + 1 ≤ n) (h : XE X μ o Γ fun z Γ1 => ∃ a c1 st c2, z = .ref a ∧ Γ1.c = c1 ++ dkC Cd Cy a st :: c2 ∧ AskD μ Cd Cy a c1 c2 st S Q [] Γ1.s)
    (hb : attributeBase o f X.env (eval o X.env) = eval o X.env := by rfl) : XE X μ (.Attribute o f pos) Γ Q :=
  xe_propO M hr hkn (h.imp fun z Γ1 ⟨a, c1, st, c2, h1, h2, h3⟩ => ⟨a, c1, _, c2, h1, h2, askd h2 h3⟩) hb
end
end Pdl
namespace Pdl
open PySem L2 PyProof.Rows
def flipA (as : List (List Nat)) (t : List Nat) : List (List Nat) := as.map fun l => if pr2 l = t then l.reverse else l
theorem pr2_rev {l : List Nat} (h : ∃ a b, l = [a, b]) : pr2 l.reverse = pr2 l := by
  obtain ⟨a, b, rfl⟩ := h
  show (if a < b then [a, b] else [b, a]) = (if b < a then [b, a] else [a, b])
  split <;> split <;> simp <;> omega
theorem flipA_pr2 {as : List (List Nat)} {t : List Nat} (h : Two as) : (flipA as t).map pr2 = as.map pr2 := by
  unfold flipA
  rw [List.map_map]
  refine List.map_congr_left fun l hl => ?_
  simp only [Function.comp]
  split
  · exact pr2_rev (h l hl)
  · rfl
theorem flipA_two {as : List (List Nat)} {t : List Nat} (h : Two as) : Two (flipA as t) := fun l hl => by
  obtain ⟨u, hu, rfl⟩ := List.mem_map.mp hl
  obtain ⟨a, b, rfl⟩ := h u hu
  split
  · exact ⟨b, a, rfl⟩
  · exact ⟨a, b, rfl⟩
theorem flipA_arrs {as : List (List Nat)} {t : List Nat} (h : Arrs as) (hr : Ranked (flipA as t)) : Arrs (flipA as t) := ⟨flipA_two h.two, by rw [flipA_pr2 h.two]; exact h.ties, hr⟩
theorem LayTo.imp {CB : Addr} {st : DSt} {as : List (List Nat)} {Q Q' : D → DSt → Prop} {E E' : Xn → DSt → Prop} (h : LayTo CB st as Q E) (hq : ∀ s, Q .non s → Q' .non s) (he : ∀ x s, E x s → E' x s) : LayTo CB st as Q' E' := ⟨fun k e => he _ _ (h.1 k e), fun e => hq _ (h.2 e)⟩
theorem mem_led {as : List (List Nat)} (h2 : Two as) {M : List Nat} {x : Nat} : x ∈ ledL as M ↔ ∃ a ∈ M, [a, x] ∈ as := by
  unfold ledL
  simp only [List.mem_map, List.mem_filter, decide_eq_true_eq]
  constructor
  · rintro ⟨l, ⟨h1, h3⟩, rfl⟩
    obtain ⟨a, b, rfl⟩ := h2 l h1
    exact ⟨a, h3, h1⟩
  · rintro ⟨a, h1, h3⟩
    exact ⟨[a, x], ⟨h3, h1⟩, rfl⟩
/-- as far as one has been led -/
structure LedI (as : List (List Nat)) (p : Nat) (M L : List Nat) : Prop where
  sound : ∀ x ∈ L, Led as p x
  first : ∀ x, [p, x] ∈ as → x ∈ L
  next : ∀ a ∈ M, ∀ x, [a, x] ∈ as → x ∈ L
theorem LedI.start {as : List (List Nat)} (h2 : Two as) {p : Nat} : LedI as p [] (us (ledL as [p])) :=
  ⟨fun x hx => by
    obtain ⟨a, h1, h3⟩ := (mem_led h2).mp (mem_us.mp hx)
    rw [List.mem_singleton.mp h1] at h3
    exact .one h3, fun x hx => mem_us.mpr ((mem_led h2).mpr ⟨p, by simp, hx⟩), fun a ha => by cases ha⟩
theorem LedI.step {as : List (List Nat)} (h2 : Two as) {p : Nat} {M L : List Nat} (h : LedI as p M L) : LedI as p L (us ([L] ++ ch (ledL as L)).flatten) := by
  have hm : ∀ x, x ∈ us ([L] ++ ch (ledL as L)).flatten ↔ x ∈ L ∨ x ∈ ledL as L := fun x => by
    rw [mem_us, List.flatten_append, ch_flat, List.mem_append]
    simp
  refine ⟨fun x hx => ?_, fun x hx => (hm x).mpr (.inl (h.first x hx)), fun a ha x hx => (hm x).mpr (.inr ((mem_led h2).mpr ⟨a, ha, hx⟩))⟩
  rcases (hm x).mp hx with z | z
  · exact h.sound x z
  · obtain ⟨a, h1, h3⟩ := (mem_led h2).mp z
    exact .more (h.sound a h1) h3
theorem LedI.done {as : List (List Nat)} {p : Nat} {L : List Nat} (h : LedI as p L L) : ∀ x, x ∈ L ↔ Led as p x := fun x => ⟨h.sound x, fun hx => by
  induction hx with
  | one h1 => exact h.first _ h1
  | more _ h1 ih => exact h.next _ ih _ h1⟩
end Pdl
namespace Pdl
open PySem L2 PyProof.Rows
end Pdl
namespace Pdl
open PySem L2 PyProof.Rows
def n14 : List Nat := [0, 1, 2, 3, 4, 5, 6, 7, 8, 9, 10, 11, 12, 13]
end Pdl
namespace Pdl
open PySem L2 PyProof.Rows
inductive LedN (as : List (List Nat)) : Nat → Nat → Nat → Prop
  | one {a b : Nat} : [a, b] ∈ as → LedN as 1 a b
  | more {n a b c : Nat} : LedN as n a b → [b, c] ∈ as → LedN as (n + 1) a c
theorem LedN.led {as : List (List Nat)} {n a b : Nat} (h : LedN as n a b) : Led as a b := by
  induction h with
  | one h => exact .one h
  | more _ h ih => exact .more ih h
theorem Led.num {as : List (List Nat)} {a b : Nat} (h : Led as a b) : ∃ n, LedN as n a b := by
  induction h with
  | one h => exact ⟨1, .one h⟩
  | more _ h ih => obtain ⟨n, hn⟩ := ih; exact ⟨n + 1, .more hn h⟩
theorem LedN.chain {as : List (List Nat)} {r : Nat → Nat} (hr : ∀ a b, [a, b] ∈ as → r a < r b) {n a b : Nat} (h : LedN as n a b) : ∃ L : List Nat, L.length = n + 1 ∧ L.Nodup ∧ (∀ x ∈ L, x ∈ as.flatten) ∧ (∀ x ∈ L, r x ≤ r b) := by
  induction h with
  | @one a b h =>
    have := hr a b h
    refine ⟨[b, a], rfl, by simp; intro e; subst e; omega, fun x hx => List.mem_flatten.mpr ⟨_, h, by simp at hx ⊢; omega⟩, fun x hx => ?_⟩
    simp at hx
    rcases hx with rfl | rfl <;> omega
  | @more n a b c _ h ih =>
    obtain ⟨L, h1, h2, h3, h4⟩ := ih
    have := hr b c h
    refine ⟨c :: L, by simp [h1], List.nodup_cons.mpr ⟨fun z => by have := h4 c z; omega, h2⟩, fun x hx => ?_, fun x hx => ?_⟩
    · rcases List.mem_cons.mp hx with rfl | hx
      · exact List.mem_flatten.mpr ⟨_, h, by simp⟩
      · exact h3 x hx
    · rcases List.mem_cons.mp hx with rfl | hx
      · omega
      · have := h4 x hx; omega
theorem LedN.few {as : List (List Nat)} (ha : Arrs as) {n a b : Nat} (h : LedN as n a b) : n ≤ 6 := by
  obtain ⟨r, hr⟩ := ha.rk
  obtain ⟨L, h1, h2, h3, _⟩ := h.chain hr
  have := nodup_len h2 (m := us as.flatten) fun x hx => mem_us.mpr (h3 x hx)
  have := ha.few
  omega
/-- one round more -/
def ledR (as : List (List Nat)) (F : List Nat) : List Nat := F ++ (as.filterMap fun l => if (decide (fst2 l ∈ F) && !decide (snd2 l ∈ F)) = true then some (snd2 l) else none)
structure LedF (as : List (List Nat)) (p t : Nat) (F : List Nat) : Prop where
  sound : ∀ x ∈ F, Led as p x
  all : ∀ n, n ≤ t → ∀ x, LedN as (n + 1) p x → x ∈ F
  len : F.length ≤ 10 * (t + 1)
theorem LedF.start {as : List (List Nat)} (ha : Arrs as) {p : Nat} {F : List Nat} (hF : F = as.filterMap fun l => if decide ([fst2 l] = [p]) = true then some (snd2 l) else none) : LedF as p 0 F := by
  have hm : ∀ x, x ∈ F ↔ [p, x] ∈ as := fun x => by
    rw [hF, List.mem_filterMap]
    constructor
    · rintro ⟨l, h1, h2⟩
      obtain ⟨a, b, rfl⟩ := ha.two l h1
      split at h2
      · next h => simp [fst2] at h; cases h2; rw [← h]; exact h1
      · cases h2
    · intro h
      exact ⟨_, h, by simp [fst2, snd2]⟩
  refine ⟨fun x hx => .one ((hm x).mp hx), fun n hn x hx => ?_, ?_⟩
  · have : n = 0 := by omega
    subst this
    cases hx with
    | one h => exact (hm x).mpr h
    | more h _ => cases h
  · rw [hF]
    have := List.length_filterMap_le (fun l : List Nat => if decide ([fst2 l] = [p]) = true then some (snd2 l) else none) as
    have := ha.len
    omega
theorem LedF.step {as : List (List Nat)} (ha : Arrs as) {p t : Nat} {F : List Nat} (h : LedF as p t F) : LedF as p (t + 1) (ledR as F) := by
  have hm : ∀ x, x ∈ ledR as F ↔ x ∈ F ∨ ∃ y ∈ F, [y, x] ∈ as := fun x => by
    unfold ledR
    rw [List.mem_append, List.mem_filterMap]
    constructor
    · rintro (z | ⟨l, h1, h2⟩)
      · exact .inl z
      · obtain ⟨a, b, rfl⟩ := ha.two l h1
        split at h2
        · next hh => simp [fst2, snd2] at hh h2; subst h2; exact .inr ⟨a, of_decide_eq_true hh.1, h1⟩
        · cases h2
    · rintro (z | ⟨y, h1, h2⟩)
      · exact .inl z
      · by_cases hx : x ∈ F
        · exact .inl hx
        · exact .inr ⟨_, h2, by simp [fst2, snd2, h1, hx]⟩
  refine ⟨fun x hx => ?_, fun n hn x hx => ?_, ?_⟩
  · rcases (hm x).mp hx with z | ⟨y, z, e⟩
    · exact h.sound x z
    · exact .more (h.sound y z) e
  · rw [hm]
    cases hx with
    | one h1 => exact .inl (h.all 0 (Nat.zero_le _) x (.one h1))
    | @more _ _ b _ h1 h2 =>
      match n, h1 with
      | 0, h1 => cases h1
      | n + 1, h1 => exact .inr ⟨b, h.all n (by omega) b h1, h2⟩
  · unfold ledR
    have := List.length_filterMap_le (fun l : List Nat => if (decide (fst2 l ∈ F) && !decide (snd2 l ∈ F)) = true then some (snd2 l) else none) as
    have := ha.len
    have := h.len
    rw [List.length_append]
    omega
theorem LedF.done {as : List (List Nat)} (ha : Arrs as) {p : Nat} {F : List Nat} (h : LedF as p 8 F) : ∀ x, x ∈ F ↔ Led as p x := fun x => ⟨h.sound x, fun hx => by
  obtain ⟨n, hn⟩ := hx.num
  have := hn.few ha
  match n, hn with
  | 0, hn => cases hn
  | n + 1, hn => exact h.all n (by omega) x hn⟩
end Pdl
namespace Pdl
open PySem L2 PyProof.Rows
inductive Deed where
  | turn (p : Nat) | back (p : Nat) | flip (t : List Nat) | lift (i : Int) | promise (w : Wish)
def DeedOk : Deed → Prop
  | .turn p => LetZ p
  | .back p => LetZ p
  | .flip t => ∃ a b, t = [a, b] ∧ LetZ a ∧ LetZ b
  | .lift i => -1000 ≤ i ∧ i ≤ 1000
  | .promise w => WishOk w
inductive Due where
  | ok (as : List (List Nat)) (ws : List Wish) | err (n : Nat) (y : D)
noncomputable def layDue (as : List (List Nat)) (ws : List Wish) : Due := match firstBad as ws with
  | some k => .err 13 (.int (k : Int))
  | none => .ok as ws
noncomputable def dueOf (as : List (List Nat)) (ws : List Wish) : Deed → Due
  | .turn p => if p ∈ as.flatten then (if givesB as p = true then layDue (exch as p) ws else .err 10 (.str (S [p]))) else .err 8 (.str (S [p]))
  | .back p => if p ∈ as.flatten then (if takesB as p = true then layDue (exch as p) ws else .err 11 (.str (S [p]))) else .err 8 (.str (S [p]))
  | .flip t => if t ∈ as.map pr2 then (if rkB (flipA as t) = true then layDue (flipA as t) ws else .err 9 .non) else .err 2 (.str (S t))
  | .lift i => if 0 ≤ i ∧ i < (ws.length : Int) then .ok as (ws.eraseIdx i.toNat) else .err 3 (.int i)
  | .promise w => if holdsB as w = true then .ok as (ws ++ [w]) else .err 13 (.int (ws.length : Int))
end Pdl
namespace Pdl
open PySem L2 PyProof.Rows
section
variable {X : Cx} {μ : Md} {Γ : En} {a b c : Expr} {pos : Pos}
/-- a if c else b, as a test -/
def tIfT (t ta tb : TT) : TT := fun σ H Q => t σ H fun c H1 => if c = true then ta σ H1 Q else tb σ H1 Q
theorem pt_ifT {tA ta tb : TT} (hc : PT X c tA) (ha : PT X a ta) (hb : PT X b tb) : PT X (.IfExp c a b pos) (tIfT tA ta tb) := by
  refine ⟨fun pins s σ H Q I h => ?_⟩
  refine isTrue_IfExp (thn (hc.run pins s σ H _ I h) fun d s1 ⟨H1, I1, q1⟩ => ?_)
  cases d with
  | true => exact ha.run pins s1 σ H1 Q I1 q1
  | false => exact hb.run pins s1 σ H1 Q I1 q1
theorem xt_if {Q : Bool → En → Prop} (h : XT X μ c Γ fun x Γ1 => if x = true then XT X μ a Γ1 Q else XT X μ b Γ1 Q) : XT X μ (.IfExp c a b pos) Γ Q :=
  PT.imp (pt_ifT h pt_u pt_u) fun σ H q ⟨R, k⟩ => ⟨R, fun H1 x Γ1 s1 f1 R1 hq => by
    cases x with
    | true =>
      rw [if_pos rfl] at hq
      exact ⟨_, hq, R1, fun H2 c2 Γ2 s2 f2 R2 hq => k H2 c2 Γ2 (s2.trans s1) (f1.trans f2) R2 hq⟩
    | false =>
      rw [if_neg Bool.false_ne_true] at hq
      exact ⟨_, hq, R1, fun H2 c2 Γ2 s2 f2 R2 hq => k H2 c2 Γ2 (s2.trans s1) (f1.trans f2) R2 hq⟩⟩
end
end Pdl
namespace Pdl
open PySem PySem.Spec L2 PyProof.Rows
end Pdl
namespace Pdl
open PySem PySem.Spec L2 PyProof.Rows
end Pdl
namespace Pdl
open PySem PySem.Spec L2 PyProof.Rows PySem.W HN
end Pdl
namespace Pdl
open PySem PySem.Spec L2 PyProof.Rows
end Pdl
namespace Pdl
open PySem L2 PyProof.Rows
theorem lay_due_ok {as as' : List (List Nat)} {ws ws' : List Wish} (h : layDue as ws = .ok as' ws') : as' = as ∧ ws' = ws := by
  unfold layDue at h
  split at h
  · cases h
  · cases h; exact ⟨rfl, rfl⟩
theorem due_ok {as as' : List (List Nat)} {ws ws' : List Wish} {dd : Deed} (ha : Arrs as) (hw : ∀ w ∈ ws, WishOk w) (hd : DeedOk dd) (h : dueOf as ws dd = .ok as' ws') : Arrs as' ∧ (∀ w ∈ ws', WishOk w) ∧ ws'.length ≤ ws.length + 1 := by
  cases dd with
  | turn p =>
    unfold dueOf at h
    simp only at h
    split at h
    · split at h
      · next hg =>
        obtain ⟨rfl, rfl⟩ := lay_due_ok h
        exact ⟨turn_arrs ha ((givesB_iff ha.two).mp hg), hw, by omega⟩
      · cases h
    · cases h
  | back p =>
    unfold dueOf at h
    simp only at h
    split at h
    · split at h
      · next hg =>
        obtain ⟨rfl, rfl⟩ := lay_due_ok h
        exact ⟨back_arrs ha ((takesB_iff ha.two).mp hg), hw, by omega⟩
      · cases h
    · cases h
  | flip t =>
    unfold dueOf at h
    simp only at h
    split at h
    · split at h
      · next hg =>
        obtain ⟨rfl, rfl⟩ := lay_due_ok h
        exact ⟨flipA_arrs ha ((rkB_iff (flipA_two ha.two)).mp hg), hw, by omega⟩
      · cases h
    · cases h
  | lift i =>
    unfold dueOf at h
    simp only at h
    split at h
    · cases h
      refine ⟨ha, fun w hm => hw w (List.mem_of_mem_eraseIdx hm), ?_⟩
      have := List.length_eraseIdx_le ws i.toNat
      omega
    · cases h
  | promise w =>
    unfold dueOf at h
    simp only at h
    split at h
    · cases h
      refine ⟨ha, fun v hm => ?_, by simp⟩
      rcases List.mem_append.mp hm with z | z
      · exact hw v z
      · rw [List.mem_singleton.mp z]; exact hd
    · cases h
theorem DskOk.go {st : DSt} (h : DskOk st) {dd : Deed} (hd : DeedOk dd) {as : List (List Nat)} {ws : List Wish} (hdu : dueOf st.as st.ps dd = .ok as ws) (h1 : st.ps.length + 1 ≤ 1000) (h2 : st.hs.length + 1 ≤ 1000) : DskOk (st.go as ws) := by
  obtain ⟨k1, k2, k3⟩ := due_ok h.arrs h.ws hd hdu
  refine ⟨k1, k2, show ws.length ≤ 1000 by omega, ?_, fun x hx => ?_⟩
  · show (st.hs ++ [(st.as, st.ps)]).length ≤ 1000
    simp
    omega
  · rcases List.mem_append.mp hx with z | z
    · exact h.past x z
    · rw [List.mem_singleton.mp z]
      exact ⟨h.arrs, h.ws, h.few⟩
end Pdl
namespace Pdl
open PySem L2 PyProof.Rows
end Pdl
namespace Pdl
open PySem L2 PyProof.Rows
def AllHold (st : DSt) : Prop := ∀ w ∈ st.ps, holdsB st.as w = true
theorem lay_hold {as as' : List (List Nat)} {ws ws' : List Wish} (h : layDue as ws = .ok as' ws') : ∀ w ∈ ws', holdsB as' w = true := by
  obtain ⟨rfl, rfl⟩ := lay_due_ok h
  unfold layDue at h
  cases hf : firstBad as' ws' with
  | some k => rw [hf] at h; cases h
  | none =>
    unfold firstBad at hf
    rw [List.findIdx?_eq_none_iff] at hf
    intro w hw
    have := hf w hw
    simpa using this
theorem AllHold.due {as as' : List (List Nat)} {ws ws' : List Wish} {dd : Deed} (h : ∀ w ∈ ws, holdsB as w = true) (hd : dueOf as ws dd = .ok as' ws') : ∀ w ∈ ws', holdsB as' w = true := by
  cases dd with
  | turn p =>
    unfold dueOf at hd
    simp only at hd
    split at hd
    · split at hd
      · exact lay_hold hd
      · cases hd
    · cases hd
  | back p =>
    unfold dueOf at hd
    simp only at hd
    split at hd
    · split at hd
      · exact lay_hold hd
      · cases hd
    · cases hd
  | flip t =>
    unfold dueOf at hd
    simp only at hd
    split at hd
    · split at hd
      · exact lay_hold hd
      · cases hd
    · cases hd
  | lift i =>
    unfold dueOf at hd
    simp only at hd
    split at hd
    · cases hd
      intro w hw
      exact h w (List.mem_of_mem_eraseIdx hw)
    · cases hd
  | promise w =>
    unfold dueOf at hd
    simp only at hd
    split at hd
    · next hw =>
      cases hd
      intro v hv
      rcases List.mem_append.mp hv with z | z
      · exact h v z
      · rw [List.mem_singleton.mp z]; exact hw
    · cases hd
end Pdl
namespace Pdl
open PySem L2 PyProof.Rows
def hstL (st : DSt) : List (List (List Nat) × List Wish) := st.hs ++ [(st.as, st.ps)]
/-- what was first -/
def Frst (a0 : List (List Nat)) (st : DSt) : Prop := (hstL st).head? = some (a0, [])
theorem Frst.go {a0 : List (List Nat)} {st : DSt} (h : Frst a0 st) (as : List (List Nat)) (ws : List Wish) : Frst a0 (st.go as ws) := by
  unfold Frst hstL DSt.go at *
  simp only [List.head?_append] at h ⊢
  cases hh : st.hs with
  | nil => rw [hh] at h; simpa using h
  | cons x l => rw [hh] at h; simpa using h
theorem Frst.nil {a0 : List (List Nat)} {st : DSt} (h : Frst a0 st) (e : st.hs = []) : st = ⟨a0, [], []⟩ := by
  obtain ⟨as, ps, hs⟩ := st
  have e : hs = [] := e
  subst e
  unfold Frst hstL at h
  simp at h
  obtain ⟨rfl, rfl⟩ := h
  rfl
/-- few promises at each stand -/
def Shrt (k : Nat) (st : DSt) : Prop := ∀ h ∈ hstL st, h.2.length ≤ k
theorem Shrt.le {k k' : Nat} {st : DSt} (h : Shrt k st) (hk : k ≤ k') : Shrt k' st := fun x hx => Nat.le_trans (h x hx) hk
end Pdl
namespace Pdl
open PySem L2 PyProof.Rows
end Pdl
namespace Pdl
open PySem L2 PyProof.Rows
structure Arw (as : List (List Nat)) : Prop where
  two : Two as
  rk : Ranked as
  len : as.length ≤ 10
  few : (us as.flatten).length ≤ 7
theorem Arw.sub {as bs : List (List Nat)} (h : Arrs as) (hs : ∀ l ∈ bs, l ∈ as) (hl : bs.length ≤ as.length) : Arw bs := by
  refine ⟨fun l hm => h.two l (hs l hm), ?_, Nat.le_trans hl h.len, ?_⟩
  · obtain ⟨r, hr⟩ := h.rk
    exact ⟨r, fun a b hm => hr a b (hs _ hm)⟩
  · have h1 : (us bs.flatten).Nodup := us_nodup _
    refine Nat.le_trans (nodup_len h1 (m := us as.flatten) fun x hx => ?_) h.few
    obtain ⟨l, hl, hx⟩ := List.mem_flatten.mp (mem_us.mp hx)
    exact mem_us.mpr (List.mem_flatten.mpr ⟨l, hs l hl, hx⟩)
theorem Led.mono {as bs : List (List Nat)} (h : ∀ l ∈ as, l ∈ bs) {a b : Nat} (hl : Led as a b) : Led bs a b := by
  induction hl with
  | one h1 => exact .one (h _ h1)
  | more _ h1 ih => exact .more ih (h _ h1)
theorem Led.rank {as : List (List Nat)} {r : Nat → Nat} (hr : ∀ a b, [a, b] ∈ as → r a < r b) {a b : Nat} (h : Led as a b) : r a < r b := by
  induction h with
  | one h1 => exact hr _ _ h1
  | more _ h1 ih => have := hr _ _ h1; omega
/-- an arrow turned makes no round just if no other arrows lead the same way -/
theorem turn_arrow {s t : List (List Nat)} {a b : Nat} (hr : Ranked (s ++ [a, b] :: t)) (h2 : Two (s ++ [a, b] :: t)) : Ranked (s ++ [b, a] :: t) ↔ ¬ Led (s ++ t) a b := by
  constructor
  · rintro ⟨r, h⟩ hl
    have h1 : r a < r b := (hl.mono (bs := s ++ [b, a] :: t) fun l hl => by
      rcases List.mem_append.mp hl with z | z
      · exact List.mem_append_left _ z
      · exact List.mem_append_right _ (List.mem_cons_of_mem _ z)).rank h
    have h3 := h b a (by simp)
    omega
  · intro hn
    obtain ⟨r, h⟩ := hr
    classical
    obtain ⟨N, hN⟩ : ∃ N, r b < N := ⟨r b + 1, by omega⟩
    refine ⟨fun x => r x + (if x = a ∨ Led (s ++ t) a x then N else 0), fun x y hxy => ?_⟩
    have hab : a ≠ b := fun e => by have := h a b (by simp); rw [e] at this; omega
    have hm : [x, y] ∈ s ++ t ∨ (x = b ∧ y = a) := by
      rcases List.mem_append.mp hxy with z | z
      · exact .inl (List.mem_append_left _ z)
      · rcases List.mem_cons.mp z with z | z
        · simp at z; exact .inr z
        · exact .inl (List.mem_append_right _ z)
    rcases hm with hm | ⟨rfl, rfl⟩
    · have hlt := h x y (by
        rcases List.mem_append.mp hm with z | z
        · exact List.mem_append_left _ z
        · exact List.mem_append_right _ (List.mem_cons_of_mem _ z))
      by_cases hx : x = a ∨ Led (s ++ t) a x
      · have hy : y = a ∨ Led (s ++ t) a y := .inr (by
          rcases hx with rfl | hx
          · exact .one hm
          · exact .more hx hm)
        show r x + (if _ then _ else _) < r y + (if _ then _ else _)
        rw [if_pos hx, if_pos hy]
        omega
      · show r x + (if _ then _ else _) < r y + (if _ then _ else _)
        rw [if_neg hx]
        omega
    · show r x + (if _ then _ else _) < r y + (if _ then _ else _)
      have hb : ¬ (x = y ∨ Led (s ++ t) y x) := fun z => by
        rcases z with z | z
        · exact hab z.symm
        · exact hn z
      rw [if_neg hb, if_pos (.inl rfl)]
      omega
end Pdl
namespace Pdl
open PySem L2 PyProof.Rows
theorem flipA_at {s t : List (List Nat)} {a b : Nat} (hnd : ((s ++ [a, b] :: t).map pr2).Nodup) : flipA (s ++ [a, b] :: t) (pr2 [a, b]) = s ++ [b, a] :: t := by
  rw [List.map_append, List.map_cons] at hnd
  obtain ⟨h1, h2, h3⟩ := List.nodup_append.mp hnd
  obtain ⟨h4, h5⟩ := List.nodup_cons.mp h2
  unfold flipA
  rw [List.map_append, List.map_cons, if_pos rfl]
  have es : s.map (fun l => if pr2 l = pr2 [a, b] then l.reverse else l) = s := by
    conv => rhs; rw [← List.map_id s]
    refine List.map_congr_left fun l hl => ?_
    rw [if_neg fun e => h3 (pr2 l) (List.mem_map_of_mem hl) (pr2 [a, b]) (by simp) e]
    rfl
  have et : t.map (fun l => if pr2 l = pr2 [a, b] then l.reverse else l) = t := by
    conv => rhs; rw [← List.map_id t]
    refine List.map_congr_left fun l hl => ?_
    rw [if_neg fun e => h4 (by rw [← e]; exact List.mem_map_of_mem hl)]
    rfl
  rw [es, et]
  rfl
end Pdl
namespace Pdl
open PySem L2 PyProof.Rows
/-- one arrow and the others -/
structure OneA (s t : List (List Nat)) (a b : Nat) : Prop where
  arrs : Arrs (s ++ [a, b] :: t)
theorem OneA.nd {s t : List (List Nat)} {a b : Nat} (h : OneA s t a b) : ((s ++ [a, b] :: t).map pr2).Nodup := ties_nodup h.arrs.ties
theorem OneA.ne {s t : List (List Nat)} {a b : Nat} (h : OneA s t a b) : a ≠ b := by
  obtain ⟨x, y, e, _, _, hne⟩ := h.arrs.pr [a, b] (by simp)
  simp at e
  obtain ⟨rfl, rfl⟩ := e
  exact hne
theorem OneA.flip {s t : List (List Nat)} {a b : Nat} (h : OneA s t a b) : flipA (s ++ [a, b] :: t) (pr2 [a, b]) = s ++ [b, a] :: t := flipA_at h.nd
theorem OneA.pr {s t : List (List Nat)} {a b : Nat} : (s ++ [b, a] :: t).map pr2 = (s ++ [a, b] :: t).map pr2 := by
  rw [List.map_append, List.map_append, List.map_cons, List.map_cons, pr2_comm]
theorem OneA.back {s t : List (List Nat)} {a b : Nat} (h : OneA s t a b) : flipA (s ++ [b, a] :: t) (pr2 [a, b]) = s ++ [a, b] :: t := by
  rw [pr2_comm]
  exact flipA_at (by rw [OneA.pr]; exact h.nd)
theorem OneA.fresh {s t : List (List Nat)} {a b : Nat} (h : OneA s t a b) (hn : ¬ Led (s ++ t) a b) : Arrs (s ++ [b, a] :: t) := ⟨by
  have := flipA_two (t := pr2 [a, b]) h.arrs.two
  rwa [h.flip] at this, by rw [OneA.pr]; exact h.arrs.ties, (turn_arrow h.arrs.rk h.arrs.two).mpr hn⟩
end Pdl
namespace Pdl
open PySem L2 PyProof.Rows
end Pdl
namespace Pdl
open PySem L2 PyProof.Rows
end Pdl
namespace Pdl
open PySem L2 PyProof.Rows
end Pdl
namespace Pdl
open PySem L2 PyProof.Rows
theorem DskOk.lift {st : DSt} (h : DskOk st) (k : Nat) (h2 : st.hs.length + 1 ≤ 1000) : DskOk (st.go st.as (st.ps.eraseIdx k)) := by
  refine ⟨h.arrs, fun w hw => h.ws w (List.mem_of_mem_eraseIdx hw), Nat.le_trans (List.length_eraseIdx_le _ _) h.few, ?_, fun x hx => ?_⟩
  · show (st.hs ++ [(st.as, st.ps)]).length ≤ 1000
    simp
    omega
  · rcases List.mem_append.mp hx with z | z
    · exact h.past x z
    · rw [List.mem_singleton.mp z]
      exact ⟨h.arrs, h.ws, h.few⟩
end Pdl
namespace Pdl
open PySem PySem.Spec L2 PyProof.Rows PySem.W HN
end Pdl
namespace Pdl
open PySem PySem.Spec L2 PyProof.Rows
end Pdl
namespace Pdl
open PySem PySem.Spec L2 PyProof.Rows
end Pdl
namespace Pdl
open PySem L2 PyProof.Rows
end Pdl
namespace R1
open PySem L2 PyProof.Rows PySem.Spec
def CelG (c : Addr) (s : Shared) : Prop := ∃ u, s.heap.IsCell c (some u) ∧ GoodV s.toks u
theorem CelG.keep {c : Addr} {a b : Shared} (g : CelG c a) (ht : a.toks ≤ b.toks) (h : ∀ o, a.heap.get? c = some o → ∃ sl, b.heap.get? c = some { o with slots := sl }) : CelG c b := by
  obtain ⟨u, ⟨o, e, d⟩, gv⟩ := g
  obtain ⟨sl, e2⟩ := h o e
  exact ⟨u, ⟨_, e2, d⟩, gv.mono ht⟩
theorem CelG.un {c : Addr} {a b : Shared} {fs ex : List Addr} {H H' : Hp} (g : CelG c a) (ht : a.toks ≤ b.toks) (un : Un fs ex H H' a.heap b.heap) (hn : H c = none) (hx : c ∉ ex) : CelG c b :=
  g.keep ht fun o e => un.any e hn hx
theorem CelG.lt {c : Addr} {s : Shared} (g : CelG c s) : c < s.heap.objs.size := by
  obtain ⟨u, ⟨o, e, d⟩, _⟩ := g
  exact Heap.lt_size e
/-- an expression where the cells cs hold such texts -/
def PEc (Y : Cx) (cs : List Addr) (e : Expr) (t : TE) : Prop :=
  ∀ (pins : List (Addr × Obj)) (s : Shared) (σ : L2.St) (H : Hp) (Q : VK), (∀ c ∈ cs, CelG c s) → Inv Y pins σ H s → t σ H Q → wpAny (model Y.prog Y.w) Y.A (eval e Y.env) (EP Y pins σ Q) Y.xe s
theorem PEc.of {Y : Cx} {cs : List Addr} {e : Expr} {t : TE} (h : PE Y e t) : PEc Y cs e t := fun pins s σ H Q _ I q => h.run pins s σ H Q I q
/-- what begins an iteration, the cells kept -/
def ItG (X : Cx) (cs : List Addr) (tg iter : Expr) (pins : List (Addr × Obj)) (σ : L2.St) (R : It → Hp → Prop) (s : Shared) : Prop :=
  wpAny (model X.prog X.w) X.A (eval iter X.env) (fun v s1 => wpAny (model X.prog X.w) X.A (pyIter v) (fun itv s2 => PIE X pins σ tg R itv s2 ∧ ∀ c ∈ cs, CelG c s2) X.xe s1) X.xe s
section
variable {X : Cx}
theorem lc_G {pins : List (Addr × Obj)} {s : Shared} {σ : L2.St} {H : Hp} {Q : VK} {elt tg iter : Expr} {ifs : List Expr} {scope : Scope} {own : List (Str × Nat)} {pos : Pos} {g : TG} {tt : TT} {te : TE} (cs : List Addr) (hcs : ∀ c ∈ cs, ∃ x, X.env.cells.lookup x = some c)
    (hc : X.calm = true) (hN : X.N.Nodup) (I : Inv X pins σ H s) (ok : BlkOk X.N X.env.scope scope own)
    (hg : ∀ (sb : Shared) (Hb : Hp) (B : Addr) (cl : List (Str × Addr)) (fb : List Addr), PG (X.blk sb Hb scope (compEnvC scope cl B X.env) fb) tg g)
    (ht : ∀ (sb : Shared) (Hb : Hp) (B : Addr) (cl : List (Str × Addr)) (fb : List Addr), PTs (X.blk sb Hb scope (compEnvC scope cl B X.env) fb) ifs tt)
    (he : ∀ (s : Shared) (H : Hp) (C : Addr) (fp : List Addr), PEc (X.blk s H scope (compEnvC scope (cellsFrom (C + 1) scope.names (cloFrom X.env.cells scope.names [])) C X.env) fp) cs elt te) (hs : ∀ x, foldedSetIterable iter X.env x = pure x)
    (hi : ItG X cs tg iter pins σ (fun J H1 => ∀ D, H1 D = none → ∃ W : Nat → Nat → Hp → Prop, (∃ m, W 0 m (upd H1 D (.lst []))) ∧ ∀ i m H, W i m H →
      (J.stop i H ∧ Q (.ref D) H) ∨ (J.go i H ∧ ∃ Nx : Hp → Prop, (∀ H', Nx H' → ∃ m', m' < m ∧ W (i + 1) m' H') ∧ ∀ x H', J.yld i H x H' → g x (wipe σ (own.map (·.2))) H' fun σ2 H2 => wipe σ2 (own.map (·.2)) = wipe σ (own.map (·.2)) ∧ tt σ2 H2 fun b H3 =>
        if b = true then te σ2 H3 fun y H4 => ∃ acc, H4 D = some (.lst acc) ∧ acc.length < sizeLine ∧ Nx (upd H4 D (.lst (acc ++ [y]))) else Nx H3)) s) :
    wpAny (model X.prog X.w) X.A (eval (.ListComp elt [⟨tg, iter, ifs, 0⟩] scope pos) X.env) (fun u s' => EP X pins σ Q u s' ∧ ∀ c ∈ cs, CelG c s') X.xe s := by
  rw [eval_ListComp]
  have caught : ∀ y ∈ scope.names, y.2 = .free → ∃ c, X.env.cells.lookup y.1 = some c := fun y hy e => (ok.free y hy e).elim (fun q => I.ok.has _ (.inl q)) fun q => I.ok.has _ (.inr q)
  refine wpAny_comprehension_free (use := none) rfl hs (closure_ok caught) ok.kind (fun y hy e => by rw [ok.uniq y hy, e]) (thn hi fun xv s1 hx => thn hx fun itv s2 ⟨h2, g2⟩ => ?_)
  obtain ⟨it, fp, tn, J, Hb, rfl, I2, T, st2, f2, q⟩ := h2
  refine wpAny_newObj_type (newEnv_comp ?_) (show 0 ≤ sizeLine from Nat.zero_le _)
  obtain ⟨D, hD⟩ : ∃ D, D = s2.heap.objs.size := ⟨_, rfl⟩
  rw [← hD]
  have hDn : Hb D = none := I2.hok.fresh (Nat.le_of_eq hD.symm)
  obtain ⟨W, ⟨mB, wB⟩, turn⟩ := q D hDn
  obtain ⟨s3, hs3⟩ : ∃ s3 : Shared, s3 = { s2 with heap := s2.heap.push { cls := .type "list", data := .seq ([] : List Value).toArray } } := ⟨_, rfl⟩
  have e3 : s3.heap = s2.heap.push { cls := .type "list", data := .seq ([] : List Value).toArray } := by rw [hs3]
  have t3 : s3.toks = s2.toks := by rw [hs3]
  have k3 : ∀ b o, s2.heap.get? b = some o → s3.heap.get? b = some o := fun b o e => by rw [e3]; exact Heap.get?_push_of_some _ e
  obtain ⟨Hc, hHc⟩ : ∃ Hc, Hc = upd Hb D (.lst []) := ⟨_, rfl⟩
  have I3 : Inv X pins σ Hc s3 := by
    rw [hs3, hHc]
    refine I2.laid (t' := s2.toks) (fun b o e => Heap.get?_push_of_some _ e) (Nat.le_of_eq hD.symm) ⟨Nat.zero_le _, [], 0, .nil, ?_⟩
    rw [hD]
    exact (Heap.get?_push_size _ rfl)
  have g3 : ∀ c ∈ cs, CelG c s3 := fun c hm => (g2 c hm).keep (Nat.le_of_eq t3.symm) fun o e => ⟨o.slots, k3 c o e⟩
  have nc3 : ∀ c ∈ cs, Hc c = none := fun c hm => let ⟨x, e⟩ := hcs c hm; I3.freeC x c e
  have f3 : ∀ b ∈ fp, FpOk X pins Hc b ∧ b < s3.heap.objs.size := fun b hb => by
    obtain ⟨o, eb, _⟩ := T.obj _ _ st2 b hb
    have lt2 := Heap.lt_size eb
    refine ⟨⟨?_, (f2 b hb).2⟩, Heap.lt_size (k3 b o eb)⟩
    rw [hHc, upd_ne (by rw [hD]; exact Nat.ne_of_lt lt2)]
    exact (f2 b hb).1
  have ncf : ∀ c ∈ cs, c ∉ fp := fun c hm hf => by
    obtain ⟨x, e⟩ := hcs c hm
    exact (f3 c hf).1.2.2.2.2.1 x c e rfl
  have st3 : tn 0 s3.heap := T.keep _ _ _ st2 fun b _ o e => k3 b o e
  have IB := block_start I3 ok hN f3
  have pg := hg s3 Hc s3.heap.objs.size (cellsFrom (s3.heap.objs.size + 1) scope.names (cloFrom X.env.cells scope.names [])) fp
  have pt := ht s3 Hc s3.heap.objs.size (cellsFrom (s3.heap.objs.size + 1) scope.names (cloFrom X.env.cells scope.names [])) fp
  have pe := he s3 Hc s3.heap.objs.size fp
  rw [show ({ s2 with heap := s2.heap.push { cls := .type "list", data := .seq ([] : List Value).toArray } } : Shared) = s3 from hs3.symm]
  show codeAny _ _ (.compStart _ 0 (.ref it) (.ref D) (compEnvC scope (cellsFrom (s3.heap.objs.size + 1) scope.names (cloFrom X.env.cells scope.names [])) s3.heap.objs.size X.env)) (compPost (model X.prog X.w) X.A X.xe none _ (.ref D) s3.heap.objs.size)
    { s3 with heap := pushCells (s3.heap.push { cls := .type "dict", data := .dict #[] }) scope.names }
  obtain ⟨ce, hce⟩ : ∃ ce, ce = compEnvC scope (cellsFrom (s3.heap.objs.size + 1) scope.names (cloFrom X.env.cells scope.names [])) s3.heap.objs.size X.env := ⟨_, rfl⟩
  rw [← hce] at IB pg pt pe ⊢
  have cL : ce.locals = s3.heap.objs.size := by rw [hce]; rfl
  obtain ⟨s4, hs4⟩ : ∃ s4 : Shared, s4 = { s3 with heap := pushCells (s3.heap.push { cls := .type "dict", data := .dict #[] }) scope.names } := ⟨_, rfl⟩
  rw [← hs4] at IB ⊢
  have t4 : s3.toks ≤ s4.toks := by rw [hs4]; exact Nat.le_refl _
  have st4 : tn 0 s4.heap := T.keep _ _ _ st3 fun b _ o e => by
    rw [hs4]
    exact pushCells_keeps _ _ _ _ (Heap.get?_push_of_some _ e)
  rw [← hHc] at wB
  have good : ∀ {σ' : L2.St} {H' : Hp} {s' : Shared} {pn : List (Addr × Obj)}, Inv (X.blk s3 Hc scope ce fp) pn σ' H' s' → s3.toks ≤ s'.toks → ∀ c ∈ cs, CelG c s' := fun {σ' H' s' pn} I' hle c hm => (g3 c hm).un hle I'.base (nc3 c hm) (ncf c hm)
  have still : ∀ {σ' : L2.St} {H' : Hp} {s' : Shared}, Inv (X.blk s3 Hc scope ce fp) [] σ' H' s' → (∀ b ∈ fp, H' b = none) → ∀ b ∈ fp, FpOk (X.blk s3 Hc scope ce fp) [] H' b := fun {σ' H' s'} I' hn b hb =>
    ⟨hn b hb, (I'.ok.exf b hb).1, I'.ok.exfs b hb, .inl hb, (I'.ok.exf b hb).2, fun p hp => by simp at hp⟩
  have run : codeAny (model X.prog X.w) X.A (.compLoop (.ListComp elt [⟨tg, iter, ifs, 0⟩] scope pos) 0 (.ref it) (.ref D) ce) (compPost (model X.prog X.w) X.A X.xe none (fun u s' => EP X pins σ Q u s' ∧ ∀ c ∈ cs, CelG c s') (.ref D) s3.heap.objs.size) s4 := by
    refine compLoop_any (fun n s' => ∃ (i : Nat) (H' : Hp), Inv (X.blk s3 Hc scope ce fp) [] (wipe σ (own.map (·.2))) H' s' ∧ tn i s'.heap ∧ (∀ b ∈ fp, H' b = none) ∧ s3.toks ≤ s'.toks ∧ W i n H') ?_ mB ⟨0, Hc, IB, st4, fun b hb => (f3 b hb).1.1, t4, wB⟩
    rintro n s5 ⟨i, H5, I5, st5, n5, le5, w5⟩
    rcases turn i n H5 w5 with ⟨stop, fin⟩ | ⟨go, Nx, hNx, step⟩
    · refine thnF (PySem.wpAny_toks_of (Nat.le_refl _) (T.done (X.blk s3 Hc scope ce fp) rfl rfl rfl hc i [] s5 _ H5 (fun _ _ => False) I5 (still I5 n5) st5 stop) |> fun z => wpAny_mono z (fun _ _ q => q) fun _ _ q => q.2) fun r s6 ⟨le6, hr, I6⟩ => ?_
      subst hr
      have I7 : Inv X pins σ H5 s6 := I3.call' (ch := fp) I6.os I6.base I6.hok I6.bare fun b hb => let z := (f3 b hb).1; ⟨z.2.2.2.1, z.2.1, z.2.2.2.2.1, z.2.2.2.2.2⟩
      have nCl : H5 s3.heap.objs.size = none := by
        rw [← cL]
        exact I6.free
      obtain ⟨m, hn, _⟩ := I6.loc
      have hn : s6.heap.Ns s3.heap.objs.size m := by
        rw [← cL]
        exact hn
      obtain ⟨f0, f1, f2', f4, f5, f6⟩ := I3.fpOk (Nat.le_refl _) nCl
      refine ⟨m, hn, fun h7 sb => ⟨⟨.ref D, H5, I7.turned (t' := s6.toks) (fun b o hb e => (sb.2 b hb).trans e) f0 f1 f4 f5 f6, rfl, fin⟩, fun c hm => ?_⟩⟩
      refine (good I6 (Nat.le_trans le5 le6) c hm).keep (Nat.le_refl _) fun o e => ⟨o.slots, ?_⟩
      exact (sb.2 c (Nat.ne_of_lt (g3 c hm).lt)).trans e
    · refine thnF (PySem.wpAny_toks_of (Nat.le_refl _) (T.item (X.blk s3 Hc scope ce fp) rfl rfl rfl hc i [] s5 _ H5 (fun _ _ => False) I5 (still I5 n5) st5 go) |> fun z => wpAny_mono z (fun _ _ q => q) fun _ _ q => q.2) fun r s6 ⟨le6, u, hr, h6⟩ => ?_
      subst hr
      refine thnF (PySem.wpAny_toks_of (Nat.le_refl _) h6 |> fun z => wpAny_mono z (fun _ _ q => q) fun _ _ q => q.2) fun _ s7 ⟨le7, x, H7, I7, r7, y7, st7, n7⟩ => ?_
      have I7' := I7.pinned (still I7 n7) (T.obj _ _ st7)
      refine thnF (PySem.wpAny_toks_of (Nat.le_refl _) (pg.run _ s7 _ H7 x u _ I7' r7 (step x H7 y7)) |> fun z => wpAny_mono z (fun _ _ q => q) fun _ _ q => q.2) fun _ s8 ⟨le8, σ8, H8, I8, hw8, q8⟩ => ?_
      refine thnF (PySem.wpAny_toks_of (Nat.le_refl _) (pt.run _ s8 σ8 H8 _ I8 q8) |> fun z => wpAny_mono z (fun _ _ q => q) fun _ _ q => q.2) fun b s9 ⟨le9, H9, I9, q9⟩ => ?_
      have fin : ∀ {s' : Shared} {H' : Hp}, Inv (X.blk s3 Hc scope ce fp) ([] ++ pinsAt fp s7.heap) σ8 H' s' → s3.toks ≤ s'.toks → Nx H' → ∃ m, m < n ∧ ∃ (i : Nat) (H' : Hp), Inv (X.blk s3 Hc scope ce fp) [] (wipe σ (own.map (·.2))) H' s' ∧ tn i s'.heap ∧ (∀ b ∈ fp, H' b = none) ∧ s3.toks ≤ s'.toks ∧ W i m H' := fun {s' H'} I' hle nx => by
        obtain ⟨mm, hm, ww⟩ := hNx H' nx
        have same : ∀ b ∈ fp, ∀ o, s7.heap.get? b = some o → s'.heap.get? b = some o ∧ H' b = none := fun b hb o e =>
          let z := I'.pin (b, o) (List.mem_append_right _ (List.mem_append_right _ (mem_pinsAt hb e))); ⟨z.1, z.2.1⟩
        refine ⟨mm, hm, i + 1, H', (I'.unpinned (pins := [])).weak (by rw [← hw8, wipe_length]) (fun j v e => ?_), T.keep _ _ _ st7 fun b hb o e => (same b hb o e).1, fun b hb => ?_, hle, ww⟩
        · rw [← hw8] at e
          exact (wipe_some e).1
        · obtain ⟨ob, eb, _⟩ := T.obj _ _ st7 b hb
          exact (same b hb ob eb).2
      have le39 : s3.toks ≤ s9.toks := by omega
      cases b with
      | false =>
        rw [if_neg Bool.false_ne_true] at q9 ⊢
        exact fin I9 le39 q9
      | true =>
        rw [if_pos rfl] at q9 ⊢
        refine thnF (PySem.wpAny_toks_of (Nat.le_refl _) (pe _ s9 σ8 H9 _ (good I9 le39) I9 q9) |> fun z => wpAny_mono z (fun _ _ q => q) fun _ _ q => q.2) fun z s10 ⟨le10, yv, H10, I10, r10, acc, hD10, hz10, nx⟩ => ?_
        refine thnF (PySem.wpAny_toks_of (Nat.le_refl _) (app_ok (X := X.blk s3 Hc scope ce fp) (E := fun _ _ => False) (Q := fun _ s' => ∃ H', Inv (X.blk s3 Hc scope ce fp) ([] ++ pinsAt fp s7.heap) σ8 H' s' ∧ Nx H') I10 hD10 hz10 r10 fun s11 I11 => ⟨_, I11, nx⟩) |> fun z => wpAny_mono z (fun _ _ q => q) fun _ _ q => q.2) fun _ s11 ⟨le11, H11, I11, nx11⟩ => fin I11 (by omega) nx11
  exact codeAny_compStart_list run (T.self X.A 0 _ _ _ st4 run)
end
end R1
namespace Pdl
open PySem L2 PyProof.Rows PySem.Spec
def XEq (X : Cx) (μ : Md) (G : Shared → Prop) (e : Expr) (Γ : En) (Q : QE) : Prop :=
  ∀ (pins : List (Addr × Obj)) (s : Shared) (σ : L2.St) (H : Hp) (q : VK), G s → Inv X pins σ H s → tD X.K μ Γ Q σ H q → wpAny (model X.prog X.w) X.A (eval e X.env) (EP X pins σ q) X.xe s
def XAq (X : Cx) (μ : Md) (G : Shared → Prop) (es : List Expr) (Γ : En) (Q : List D → En → Prop) : Prop :=
  ∀ (pos : Pos) (pins : List (Addr × Obj)) (s : Shared) (σ : L2.St) (H : Hp) (q : List V → Hp → Prop), G s → Inv X pins σ H s → tAD X.K μ Γ Q σ H q → wpAny (model X.prog X.w) X.A (spliced (backTo pos (starEach es X.env))) (AP X pins σ q) X.xe s
def XBq (X : Cx) (μ : Md) (G : Shared → Prop) (sts : List Stmt) (Γ : En) (P : Po) : Prop :=
  ∀ (pins : List (Addr × Obj)) (s : Shared) (σ : L2.St) (H : Hp) (D : Ends), G s → Inv X pins σ H s → tSD X.K μ Γ P D σ H → wpAny (model X.prog X.w) X.A (execs sts X.env) (SP X pins D) X.xe s
section
variable {X : Cx} {μ : Md} {Γ : En} {Q : QE} {P : Po} {G : Shared → Prop} {a b e o : Expr} {es : List Expr} {pos : Pos} {sts : List Stmt}
theorem xbq_of (h : XB X μ sts Γ P) : XBq X μ G sts Γ P := fun pins s σ H D _ I z => h.run pins s σ H D I z
theorem xaq_one {Q : List D → En → Prop} (h : XEq X μ G e Γ fun d Γ1 => XA X μ es Γ1 fun ds Γ2 => Q (d :: ds) Γ2) (hs : starEach (e :: es) X.env = (false, eval e X.env) :: starEach es X.env := by rfl) : XAq X μ G (e :: es) Γ Q := by
  intro pos pins s σ H q g I ⟨R, kk⟩
  rw [hs]
  show wpAny _ _ (spliced ((false, eval e X.env) :: backTo pos (starEach es X.env))) _ _ s
  refine Calls.spliced_cons (thn (h pins s σ H (fun v H1 => ∃ d Γ1, Γ1.s = Γ.s ∧ Fw Γ.c Γ1.c H H1 ∧ Rel X.K μ H1 σ Γ1 ∧ Rp X.K (Vw μ Γ1 H1) v d ∧ XA X μ es Γ1 fun ds Γ2 => Q (d :: ds) Γ2) g I ⟨R, fun v H1 d Γ1 s1 f1 R1 r1 hq => ⟨d, Γ1, s1, f1, R1, r1, hq⟩⟩) fun u s1 ⟨v, H1, I1, rv, d, Γ1, e1, f1, R1, r1, hq⟩ => ?_)
  refine thn (hq.run pos pins s1 σ H1 (fun vs H2 => q (v :: vs) H2) I1 ⟨R1, fun vs H2 ds Γ2 s2 f2 R2 r2 hq2 => kk (v :: vs) H2 (d :: ds) Γ2 (s2.trans e1) (f1.trans f2) R2 (.cons (r1.mono f2.sub) r2) hq2⟩) fun us s2 ⟨vs, H2, I2, rvs, q2⟩ => ?_
  exact ⟨v :: vs, H2, I2, .cons rv rvs, q2⟩
end
/-- the context of a comprehension's block, its cells as they are laid -/
abbrev BlkC (X : Cx) (scope : Scope) (F : Cx → Prop) : Prop := ∀ (s : Shared) (H : Hp) (C : Addr) (fp : List Addr), F (X.blk s H scope (compEnvC scope (cellsFrom (C + 1) scope.names (cloFrom X.env.cells scope.names [])) C X.env) fp)
def uPr (Pr : TE → Prop) : TE := fun σ H q => ∃ t, Pr t ∧ t σ H q
def QLq (X : Cx) (scope : Scope) (ifs : List Expr) (Pr : TE → Prop) (i : Nat) (Q : QE) : List D → En → Prop := fun ds Γ1 => ∃ I : Nat → List D → Cs → Prop, I 0 [] Γ1.c ∧
      (∀ k d acc c2, ds[k]? = some d → I k acc c2 → ∀ μ', Blk X scope fun Y => XTl Y μ' ifs ⟨Γ1.s.set i (some d), c2⟩ fun b Γ3 => if b = true then Pr (tD X.K μ' Γ3 fun y Γ4 => I (k + 1) (acc ++ [y]) Γ4.c) else I (k + 1) acc Γ3.c) ∧
      ds.length ≤ 100000 ∧ ∀ acc c2, I ds.length acc c2 → Q (.lst acc) ⟨Γ1.s, c2⟩
section
variable {X : Cx} {μ : Md} {Γ : En} {Q : QE} {a b c e o it tg elt : Expr} {es ifs : List Expr} {pos apos cpos tpos : Pos} {x y d : D} {m : Addr → Bool} {H : Hp} {P : Po} {scope : Scope}
theorem lcDq {i : Nat} {Pr : TE → Prop} (σ : L2.St) (H : Hp) (q : VK) (h : tD X.K μ Γ Q σ H q) : tLc (tID X.K μ Γ (QLq X scope ifs Pr i Q)) (gName i) (uBT X scope ifs) (uPr Pr) [i] σ H q := by
  obtain ⟨R, k⟩ := h
  refine ⟨R, fun J H1 ds Γ1 s1 f1 R1 wk ⟨I, h0, ht, hlen, hd⟩ p hp => ?_⟩
  have hpm : tot μ.m Γ1.c p = false := R1.fresh hp
  let μ' : Md := { m := fun a => μ.m a || a == p, c0 := Γ1.c, H0 := H1, E := fun _ _ => False }
  have mp : μ'.m p = true := by show (μ.m p || p == p) = true; simp
  have mne : ∀ {a}, a ≠ p → μ'.m a = μ.m a := fun {a} h => by show (μ.m a || a == p) = _; rw [beq_eq_false_iff_ne.mpr h]; simp
  have tp : ∀ cs, tot μ'.m cs p = true := fun cs => by unfold tot; rw [mp]; rfl
  have less : ∀ (cs : Cs) (H' : Hp), Sub (hid (tot μ'.m cs) H') (hid (tot μ.m cs) H') := fun cs H' => hid_mono fun a o h e => by
    obtain ⟨h1, h2⟩ := tot_false.mp h
    have hne : a ≠ p := fun z => by rw [z, mp] at h1; cases h1
    rw [mne hne] at h1
    exact ⟨tot_false.mpr ⟨h1, h2⟩, e⟩
  have near : ∀ {cs : Cs} {H' : Hp}, Fw Γ1.c cs H1 H' → Sub (hid (tot μ.m Γ1.c) H1) (hid (tot μ'.m cs) H') := fun {cs H'} f => hid_mono fun a o h e => by
    obtain ⟨h1, h2⟩ := tot_false.mp h
    obtain ⟨h3, h4⟩ := f a o h2 e
    have hne : a ≠ p := ne_of_none e hp
    exact ⟨tot_false.mpr ⟨by rw [mne hne]; exact h1, h4⟩, h3⟩
  refine ⟨fun k' n H' => n = ds.length - k' ∧ k' ≤ ds.length ∧ ∃ (acc : List D) (vs : List V) (c' : Cs), H' p = some (.lst vs) ∧ RpA X.K (hid (tot μ'.m c') H') vs acc ∧ Fw Γ1.c c' H1 H' ∧
    Rel X.K μ' H' (σ.set i none) ⟨Γ1.s.set i none, c'⟩ ∧ acc.length ≤ k' ∧ I k' acc c', ⟨ds.length, by simp, Nat.zero_le _, [], [], Γ1.c, upd_same, .nil, Fw.of_sub (sub_upd hp), ?_, Nat.le_refl _, h0⟩, ?_⟩
  · have f0 : Fw Γ1.c Γ1.c H1 (upd H1 p (.lst [])) := Fw.of_sub (sub_upd hp)
    refine ⟨⟨fun a h => ?_, R1.co.nd, fun r hr => ?_, fun r hr => ?_⟩, (R1.slots.unset i).mono (near f0), f0⟩
    · by_cases e : a = p
      · subst e; exact ⟨_, upd_same, rfl⟩
      · rw [mne e] at h
        obtain ⟨o, ho, z⟩ := R1.co.dom a h
        exact ⟨o, sub_upd hp _ _ ho, z⟩
    · have hne : r.1 ≠ p := fun z => by
        have := (tot_false.mp hpm).2
        rw [← z, inC_of hr] at this
        cases this
      rw [mne hne]
      exact R1.co.off r hr
    · have z := R1.co.cells r hr
      obtain ⟨u, hu⟩ := z.some
      show CellRp X.K _ (upd H1 p _ r.1) r.2
      rw [upd_ne (ne_of_none hu hp)]
      exact z.mono (near f0)
  · rintro k' n H' ⟨rfl, hk, acc, vs, c', hD, ra, f', R', hl, hI⟩
    obtain ⟨w1, w2⟩ := wk k' H' (tot μ'.m c') (near f') R'.domT
    by_cases hlt : k' < ds.length
    · obtain ⟨go, yl⟩ := w1 ds[k'] (by simp [hlt])
      refine .inr ⟨go, fun H2 => ∃ (acc : List D) (vs : List V) (c' : Cs), H2 p = some (.lst vs) ∧ RpA X.K (hid (tot μ'.m c') H2) vs acc ∧ Fw Γ1.c c' H1 H2 ∧
        Rel X.K μ' H2 (σ.set i none) ⟨Γ1.s.set i none, c'⟩ ∧ acc.length ≤ k' + 1 ∧ I (k' + 1) acc c', fun H2 q2 => ⟨ds.length - (k' + 1), by omega, rfl, hlt, q2⟩, fun v H2 y => ?_⟩
      obtain ⟨e2, r2⟩ := yl v H2 y
      have f2 : Fw c' c' H' H2 := Fw.of_sub e2
      have R2 : Rel X.K μ' H2 ((σ.set i none).set i (some v)) ⟨Γ1.s.set i (some ds[k']), c'⟩ := by
        have z := (R'.more e2).set i r2
        have ez : (Γ1.s.set i none).set i (some ds[k']) = Γ1.s.set i (some ds[k']) := List.set_set ..
        have z' : Rel X.K μ' H2 ((σ.set i none).set i (some v)) ⟨(Γ1.s.set i none).set i (some ds[k']), c'⟩ := z
        rw [ez] at z'
        exact z'
      have npc : ∀ {cs : Cs} {G : Hp} {σ' : L2.St} {sl : List (Option D)}, Rel X.K μ' G σ' ⟨sl, cs⟩ → inC cs p = false := fun {cs G σ' sl} R => by
        cases e : inC cs p with
        | false => rfl
        | true =>
          obtain ⟨r, hr, er⟩ := of_inC e
          have := R.co.off r hr
          rw [er, mp] at this
          cases this
      refine ⟨?_, ?_⟩
      · show ((σ.set i none).set i (some v)).set i none = σ.set i none
        rw [List.set_set, List.set_set]
      · refine ⟨tTD X.K μ' _ _, ht k' ds[k'] acc c' (by simp [hlt]) hI μ', R2, fun H3 b Γ3 s3 f3 R3 hq => ?_⟩
        obtain ⟨sl3, c3⟩ := Γ3
        have s3 : sl3 = Γ1.s.set i (some ds[k']) := s3
        subst s3
        have hD2 : H2 p = some (.lst vs) := e2 _ _ hD
        have hD3 : H3 p = some (.lst vs) := (f3 _ _ (npc R2) hD2).1
        have unset : ∀ {G : Hp} {cs : Cs}, Rel X.K μ' G ((σ.set i none).set i (some v)) ⟨Γ1.s.set i (some ds[k']), cs⟩ → Rel X.K μ' G (σ.set i none) ⟨Γ1.s.set i none, cs⟩ := fun {G cs} R => by
          refine ⟨R.co, ?_, R.fw⟩
          have z := R.slots.unset i
          have z' : SlotRp X.K (hid (tot μ'.m cs) G) (((σ.set i none).set i (some v)).set i none) ((Γ1.s.set i (some ds[k'])).set i none) := z
          rw [List.set_set, List.set_set, List.set_set] at z'
          exact z'
        cases b with
        | false =>
          rw [if_neg Bool.false_ne_true] at hq
          exact iteF ⟨acc, vs, c3, hD3, ra.mono (f2.sub.trans f3.sub), (f'.trans f2).trans f3, unset R3, Nat.le_succ_of_le hl, hq⟩
        | true =>
          rw [if_pos rfl] at hq
          refine iteT ⟨tD X.K μ' _ _, hq, R3, fun y H4 d4 Γ4 s4 f4 R4 r4 hI4 => ?_⟩
          obtain ⟨sl4, c4⟩ := Γ4
          have s4 : sl4 = Γ1.s.set i (some ds[k']) := s4
          subst s4
          have hD4 : H4 p = some (.lst vs) := (f4 _ _ (npc R3) hD3).1
          have lv : vs.length ≤ k' := by rw [ra.length]; exact hl
          refine ⟨vs, hD4, Nat.lt_of_le_of_lt (Nat.le_trans lv (Nat.le_trans hk hlen)) (by decide), acc ++ [d4], vs ++ [y], c4, upd_same, ?_, ?_, ?_, by rw [List.length_append]; exact Nat.succ_le_succ hl, hI4⟩
          · rw [hid_msk (tp c4)]
            exact (ra.mono ((f2.sub.trans f3.sub).trans f4.sub)).app (.cons r4 .nil)
          · intro a o ha e
            obtain ⟨z1, z2⟩ := (((f'.trans f2).trans f3).trans f4) a o ha e
            exact ⟨by rw [upd_ne (ne_of_none e hp)]; exact z1, z2⟩
          · have R5 := unset R4
            refine ⟨⟨fun a h => ?_, R5.co.nd, R5.co.off, fun r hr => ?_⟩, ?_, fun a o ha e => ?_⟩
            · by_cases ea : a = p
              · subst ea; exact ⟨_, upd_same, rfl⟩
              · obtain ⟨o, ho, z⟩ := R5.co.dom a h
                exact ⟨o, by rw [upd_ne ea]; exact ho, z⟩
            · have hne : r.1 ≠ p := fun z => by
                have := R5.co.off r hr
                rw [z, mp] at this
                cases this
              show CellRp X.K (hid (tot μ'.m c4) (upd H4 p _)) (upd H4 p _ r.1) r.2
              rw [hid_msk (tp c4), upd_ne hne]
              exact R5.co.cells r hr
            · show SlotRp X.K (hid (tot μ'.m c4) (upd H4 p _)) _ _
              rw [hid_msk (tp c4)]
              exact R5.slots
            · obtain ⟨z1, z2⟩ := R5.fw a o ha e
              exact ⟨by rw [upd_ne (ne_of_none e hp)]; exact z1, z2⟩
    · have e : k' = ds.length := by omega
      subst e
      refine .inl ⟨w2 (Nat.le_refl _), k _ H' (.lst acc) ⟨Γ1.s, c'⟩ s1 (f1.trans f') ⟨⟨fun a h => R'.co.dom a ?_, R'.co.nd, fun r hr => ?_, fun r hr => (R'.co.cells r hr).mono (less c' H')⟩, R1.slots.mono f'.sub, R1.fw.trans f'⟩ (.lst (.of ?_) (ra.mono (less c' H'))) (hd acc c' hI)⟩
      · show (μ.m a || a == p) = true
        rw [h]; rfl
      · have z : (μ.m r.1 || r.1 == p) = false := R'.co.off r hr
        exact (Bool.or_eq_false_iff.mp z).1
      · refine hid_some.mpr ⟨tot_false.mpr ⟨(tot_false.mp hpm).1, ?_⟩, hD⟩
        cases e : inC c' p with
        | false => rfl
        | true =>
          obtain ⟨r, hr, er⟩ := of_inC e
          have := R'.co.off r hr
          rw [er, mp] at this
          cases this
end
section
variable {X : Cx} {μ : Md} {Γ : En} {Q : QE} {pos : Pos} {scope : Scope}
theorem cel_push {c : Addr} {s : Shared} {o : Obj} (g : R1.CelG c s) : R1.CelG c { s with heap := s.heap.push o } := g.keep (Nat.le_refl _) fun o e => ⟨o.slots, Heap.get?_push_of_some _ e⟩
/-- what a name that holds a tuple or a text begins: the cells stay -/
theorem itg_name {cs : List Addr} {tg : Expr} {wi : TI} {pins : List (Addr × Obj)} {s : Shared} {σ : L2.St} {H : Hp} {Rr : It → Hp → Prop} {xl : Str} {pl : Pos} {il : Nat} {d : D} (h : PI X tg (.Name xl pl) wi) (R : Rel X.K μ H σ Γ) (hil : X.N[il]? = some xl) (vl : Vis X.env.scope xl) (sl : Γ.s[il]? = some (some d)) (hd : (∃ xs, d = .tup xs) ∨ ∃ z, d = .str z)
    (g : ∀ c ∈ cs, R1.CelG c s) (I : Inv X pins σ H s) (hw : wi σ H Rr) (dl : (xl == ("__debug__" : Str)) = false := by decide) (cl' : (xl == ("__classdict__" : Str)) = false := by decide) : R1.ItG X cs tg (.Name xl pl) pins σ Rr s := by
  unfold R1.ItG
  obtain ⟨v0, ev, rv⟩ := R.slots.2 il _ sl
  have h2 : wpAny (model X.prog X.w) X.A (eval (.Name xl pl) X.env) (fun v s1 => RelV v0 v ∧ s1 = s) X.xe s := L2.raw_name hil vl I ev (fun u ru => ⟨ru, rfl⟩) dl cl'
  refine wpAny_mono (R1.wpAny_both (h.run pins s σ H Rr I hw) h2) (fun v s1 ⟨q1, ru, es⟩ => ?_) fun _ _ z => z.1
  subst es
  have h3 : wpAny (model X.prog X.w) X.A (pyIter v) (fun _ s2 => ∀ c ∈ cs, R1.CelG c s2) X.xe s1 := by
    rcases hd with ⟨xs, rfl⟩ | ⟨z, rfl⟩
    · cases rv with
      | @tup a vs _ w1 w2 =>
        cases (show v = Value.ref a from ru)
        obtain ⟨its, _, p, _⟩ := I.tuple ((hid_sub _ _).sqT w1.sq)
        exact wpAny_pyIter_tuple (show s1.heap.IsTuple a its.toArray from p) fun c hc => cel_push (g c hc)
    · cases rv
      obtain ⟨t, rfl⟩ := ru
      refine R1.raw_iter fun ty h' _ _ kp _ c hc => (g c hc).keep (Nat.le_refl _) fun o e => ⟨o.slots, kp c o e⟩
  exact wpAny_mono (R1.wpAny_both q1 h3) (fun _ _ q => q) fun _ _ z => z.1
end
theorem cell_one {s : Shared} {c : Addr} {u v : Value} (h1 : s.heap.IsCell c (some u)) (h2 : s.heap.IsCell c (some v)) : u = v := by
  obtain ⟨o, e, d⟩ := h1
  obtain ⟨o2, e2, d2⟩ := h2
  rw [e] at e2
  cases e2
  rw [d] at d2
  cases d2
  rfl
section
variable {Y : Cx} {μ : Md} {Γ : En} {Q : QE}
/-- what a captured name's cell holds, by the walk -/
theorem cel_val {pins : List (Addr × Obj)} {s : Shared} {σ : L2.St} {H : Hp} {x : Str} {i : Nat} {c : Addr} {z : Str} (I : Inv Y pins σ H s) (g : R1.CelG c s) (hi : Y.N[i]? = some x) (hk : Y.env.kindOf x = some .free ∨ Y.env.kindOf x = some .cell) (hl : Y.env.cells.lookup x = some c) (hv : Vis Y.env.scope x) (e : σ[i]? = some (some (.str z))) :
    ∃ t : Tok, s.heap.IsCell c (some (.str z t)) ∧ 1 ≤ (t : Nat) ∧ (t : Nat) < s.toks := by
  obtain ⟨u, hc, z1, t, e1, e2, e3⟩ := g
  obtain ⟨m, hn, hlk⟩ := I.loc
  obtain ⟨u2, r2, l2⟩ := hlk i x _ hi e hv
  obtain ⟨t2, e4⟩ := r2
  rcases l2 with ⟨k2, _⟩ | ⟨_, c2, h2, hc2⟩
  · rcases hk with k | k <;> (rw [k] at k2; cases k2)
  · rw [hl] at h2
    cases h2
    have := cell_one hc hc2
    subst this
    rw [e4] at e1 hc
    cases e1
    exact ⟨_, hc, e2, e3⟩
/-- y.replace(x, ""), x captured -/
theorem pec_repl {cs : List Addr} {c : Addr} (hc : c ∈ cs) {xl x y0 : Str} {il i p : Nat} {l : List Nat} {pl pp c0 apos pos : Pos} {j0 : Nat} (hil : Y.N[il]? = some xl) (vl : Vis Y.env.scope xl) (sl : Γ.s[il]? = some (some (.str (S l)))) (hi : Y.N[i]? = some x) (hk : Y.env.kindOf x = some .free ∨ Y.env.kindOf x = some .cell) (hcl : Y.env.cells.lookup x = some c) (hv : Vis Y.env.scope x)
    (sx : Γ.s[i]? = some (some (.str (S [p])))) (hl : l.length ≤ 100000) (h : Q (.str (S (repL p [] l))) Γ) (hy : y0 = S [] := by rfl)
    (dl : (xl == ("__debug__" : Str)) = false := by decide) (cl' : (xl == ("__classdict__" : Str)) = false := by decide) (dx : (x == ("__debug__" : Str)) = false := by decide) (cx : (x == ("__classdict__" : Str)) = false := by decide)
    (hst : starEach [.Name x pp, .Constant (.str y0) j0 c0] Y.env = [(false, eval (.Name x pp) Y.env), (false, eval (.Constant (.str y0) j0 c0) Y.env)] := by rfl)
    (hbase : attributeBase (.Name xl pl) "replace" Y.env (eval (.Name xl pl) Y.env) = eval (.Name xl pl) Y.env := by rfl) (hline : (apos.endLine == pos.line) = true := by rfl) :
    R1.PEc Y cs (.Call (.Attribute (.Name xl pl) "replace" apos) [.Name x pp, .Constant (.str y0) j0 c0] [] pos) (tD Y.K μ Γ Q) := by
  subst hy
  intro pins s σ H q g I ⟨R, kk⟩
  obtain ⟨v1, e1, r1⟩ := R.slots.2 il _ sl
  cases r1
  obtain ⟨v2, e2, r2⟩ := R.slots.2 i _ sx
  cases r2
  obtain ⟨t, hcell, t1, t2⟩ := cel_val I (g c hc) hi hk hcl hv e2
  refine wpAny_Call_method_lateS hbase (by rw [hst]; rfl) hline (L2.raw_name hil vl I e1 (fun u ru => ?_) dl cl')
  obtain ⟨tl, rfl⟩ := ru
  refine ⟨"str", _, PySem.F.plainAttrs_str, PySem.F.slot_str_replace, PySem.F.type_str_replace, typeIs_str _ _ _, (fun _ e => nomatch e), Calls.callWith_builtin rfl (Calls.evalArgs_plain ?_)⟩
  show wpAny _ _ (spliced ((false, eval (.Name x pp) Y.env) :: backTo pos (starEach [.Constant (.str (S [])) j0 c0] Y.env))) _ _ s
  have ld : ∀ {Qv : Value → Shared → Prop}, Qv (.str (S [p]) t) s → wpAny (model Y.prog Y.w) Y.A (loadName Y.env x) Qv Y.xe s := fun {Qv} hq => by
    rcases hk with hk | hk
    · exact PySem.wpAny_loadName_free I.ok.kind hk hcl hcell hq cx
    · exact PySem.wpAny_loadName_cell I.ok.kind hk hcl hcell hq
  refine Calls.spliced_cons (wpAny_Name (ld ?_) dx)
  show wpAny _ _ (spliced ((false, eval (.Constant (.str (S [])) j0 c0) Y.env) :: backTo pos (starEach [] Y.env))) _ _ s
  refine Calls.spliced_cons (Calls.Constant_str (Calls.spliced_nil ?_))
  have n1 : t ≠ 0 := Nat.ne_of_gt t1
  have n2 : s.toks ≠ 0 := Nat.ne_of_gt (Nat.lt_of_lt_of_le t1 (Nat.le_of_lt t2))
  have n3 : t ≠ s.toks := Nat.ne_of_lt t2
  refine PySem.SC.replace n1 n2 n3 (by rw [beq_eq_false_iff_ne]; intro e; have := congrArg (fun z : Str => z.cps.toList) e; simp [S] at this) (by rw [S_len, S_len]; simp; omega) fun t' k' => ?_
  rw [replace_S]
  exact ⟨.str (S (repL p [] l)), H, I.tok k', ⟨t', rfl⟩, kk _ H _ Γ rfl (Fw.refl _ _) R (.str _) h⟩
end
end Pdl
namespace Pdl
open PySem L2 PyProof.Rows PySem.Spec
end Pdl
namespace Pdl
open PySem L2 PyProof.Rows
end Pdl
namespace Pdl
open PySem L2 PyProof.Rows PySem.Spec
end Pdl
namespace Pdl
open PySem L2 PyProof.Rows PySem.Spec
end Pdl
namespace Pdl
open PySem L2 PyProof.Rows PySem.Spec
end Pdl
namespace Pdl
open PySem L2 PyProof.Rows PySem.Spec
end Pdl
namespace Pdl
open PySem L2 PyProof.Rows PySem.Spec
end Pdl
namespace Pdl
open PySem L2 PyProof.Rows PySem.Spec
end Pdl
namespace Pdl
open PySem L2 PyProof.Rows PySem.Spec
end Pdl
namespace Pdl
open PySem L2 PyProof.Rows PySem.Spec
end Pdl
namespace Pdl
open PySem L2 PyProof.Rows PySem.Spec
end Pdl
namespace Pdl
open PySem L2 PyProof.Rows PySem.Spec PySem.W L2.DX
end Pdl
namespace Pdl
open PySem L2 PyProof.Rows PySem.Spec
end Pdl
namespace Pdl
open PySem L2 PyProof.Rows PySem.Spec
abbrev Sf := List Nat → List Nat
def itf (f : Sf) : Nat → Sf
  | 0, s => s
  | n + 1, s => f (itf f n s)
theorem itf_add (f : Sf) (m n : Nat) (s : List Nat) : itf f (m + n) s = itf f m (itf f n s) := by
  induction m with
  | zero => rw [Nat.zero_add]; rfl
  | succ m ih =>
    rw [Nat.succ_add]
    show f (itf f (m + n) s) = f (itf f m (itf f n s))
    rw [ih]
theorem itf_comm (f : Sf) (m n : Nat) (s : List Nat) : itf f m (itf f n s) = itf f n (itf f m s) := by
  rw [← itf_add, ← itf_add, Nat.add_comm]
def perG (f : Sf) (s : List Nat) : Nat → Nat → Nat
  | 0, _ => 0
  | k + 1, m => if itf f m s = s then m else perG f s k (m + 1)
theorem perG_some {f : Sf} {s : List Nat} : ∀ {k m : Nat}, perG f s k m ≠ 0 → m ≤ perG f s k m ∧ perG f s k m < m + k ∧ itf f (perG f s k m) s = s ∧ ∀ j, m ≤ j → j < perG f s k m → itf f j s ≠ s
  | 0, m, h => absurd rfl h
  | k + 1, m, h => by
    unfold perG at h ⊢
    split
    · rename_i e
      exact ⟨Nat.le_refl _, by omega, e, fun j h1 h2 => by omega⟩
    · rename_i e
      rw [if_neg e] at h
      obtain ⟨h1, h2, h3, h4⟩ := perG_some h
      refine ⟨by omega, by omega, h3, fun j h5 h6 => ?_⟩
      rcases Nat.eq_or_lt_of_le h5 with h7 | h7
      · rw [← h7]; exact e
      · exact h4 j h7 h6
theorem perG_none {f : Sf} {s : List Nat} : ∀ {k m : Nat}, 1 ≤ m → perG f s k m = 0 → ∀ j, m ≤ j → j < m + k → itf f j s ≠ s
  | 0, m, _, _ => fun j h1 h2 => by omega
  | k + 1, m, hm, h => by
    unfold perG at h
    intro j h1 h2
    split at h
    · omega
    · rename_i e
      rcases Nat.eq_or_lt_of_le h1 with h7 | h7
      · rw [← h7]; exact e
      · exact perG_none (by omega) h j h7 (by omega)
theorem perG_first {f : Sf} {s : List Nat} : ∀ {k m p : Nat}, m ≤ p → p < m + k → itf f p s = s → (∀ j, m ≤ j → j < p → itf f j s ≠ s) → perG f s k m = p
  | 0, m, p, h1, h2, _, _ => by omega
  | k + 1, m, p, h1, h2, h3, h4 => by
    unfold perG
    rcases Nat.eq_or_lt_of_le h1 with h7 | h7
    · rw [h7, if_pos h3]
    · rw [if_neg (h4 m (Nat.le_refl _) h7)]
      exact perG_first h7 (by omega) h3 fun j h5 h6 => h4 j (by omega) h6
/-- after how many steps a stand comes again, 0 if it does not within n -/
def per (f : Sf) (n : Nat) (s : List Nat) : Nat := perG f s n 1
/-- the stands that come again -/
def rst (f : Sf) (A : List (List Nat)) : List (List Nat) := A.filter fun s => decide (per f A.length s ≠ 0)
structure FunA (f : Sf) (A : List (List Nat)) : Prop where
  nd : A.Nodup
  cl : ∀ s ∈ A, f s ∈ A
section
variable {f : Sf} {A : List (List Nat)} {s : List Nat}
theorem FunA.it (F : FunA f A) (hs : s ∈ A) : ∀ n, itf f n s ∈ A
  | 0 => hs
  | n + 1 => F.cl _ (FunA.it F hs n)
theorem pigeon {l m : List (List Nat)} (h : m.length < l.length) (hs : ∀ x ∈ l, x ∈ m) : ¬ l.Nodup := fun hn => by
  have := nodup_len hn hs
  omega
theorem not_nodup_map {g : Nat → List Nat} {n : Nat} (h : ¬ ((List.range n).map g).Nodup) : ∃ i j, i < j ∧ j < n ∧ g i = g j := by
  by_cases hx : ∃ i j, i < j ∧ j < n ∧ g i = g j
  · exact hx
  · refine absurd ?_ h
    rw [List.nodup_iff_pairwise_ne, List.pairwise_map]
    refine (List.pairwise_lt_range (n := n)).imp_of_mem fun {i j} hi hj hlt e => hx ⟨i, j, hlt, List.mem_range.mp hj, e⟩
/-- within an injective part all come again soon -/
theorem inj_per {L : List (List Nat)} (hcl : ∀ x ∈ L, f x ∈ L) (hinj : ∀ x ∈ L, ∀ y ∈ L, f x = f y → x = y) (hs : s ∈ L) : ∃ m, 1 ≤ m ∧ m ≤ L.length ∧ itf f m s = s := by
  have hin : ∀ n, itf f n s ∈ L := fun n => by
    induction n with
    | zero => exact hs
    | succ n ih => exact hcl _ ih
  obtain ⟨i, j, hij, hj, e⟩ := not_nodup_map (g := fun n => itf f n s) (n := L.length + 1) (pigeon (m := L) (by simp) fun x hx => by
    obtain ⟨n, _, rfl⟩ := List.mem_map.mp hx
    exact hin n)
  have back : ∀ i j, itf f i s = itf f (i + j) s → s = itf f j s := fun i => by
    induction i with
    | zero => intro j h; rw [Nat.zero_add] at h; exact h
    | succ i ih =>
      intro j h
      refine ih j (hinj _ (hin i) _ (hin (i + j)) ?_)
      rw [Nat.succ_add] at h
      exact h
  refine ⟨j - i, by omega, by omega, (back i (j - i) ?_).symm⟩
  rw [show i + (j - i) = j by omega]
  exact e
theorem per_some {n : Nat} (h : per f n s ≠ 0) : 1 ≤ per f n s ∧ per f n s ≤ n ∧ itf f (per f n s) s = s ∧ ∀ j, 1 ≤ j → j < per f n s → itf f j s ≠ s := by
  obtain ⟨h1, h2, h3, h4⟩ := perG_some h
  exact ⟨h1, by show perG f s n 1 ≤ n; omega, h3, h4⟩
theorem per_none {n : Nat} (h : per f n s = 0) : ∀ j, 1 ≤ j → j ≤ n → itf f j s ≠ s := fun j h1 h2 => perG_none (Nat.le_refl _) h j h1 (by omega)
theorem per_first {n p : Nat} (h1 : 1 ≤ p) (h2 : p ≤ n) (h3 : itf f p s = s) (h4 : ∀ j, 1 ≤ j → j < p → itf f j s ≠ s) : per f n s = p := perG_first h1 (by omega) h3 h4
theorem per_ne {n m : Nat} (h1 : 1 ≤ m) (h2 : m ≤ n) (h3 : itf f m s = s) : per f n s ≠ 0 := fun e => per_none e m h1 h2 h3
/-- steps from a stand on a ring: on the same ring -/
theorem FunA.per_it (F : FunA f A) (hs : s ∈ A) (hp : per f A.length s ≠ 0) (i : Nat) : per f A.length (itf f i s) = per f A.length s := by
  obtain ⟨h1, h2, h3, h4⟩ := per_some hp
  -- back to s
  have loop : ∀ k, itf f (k * per f A.length s) s = s := fun k => by
    induction k with
    | zero => rw [Nat.zero_mul]; rfl
    | succ k ih => rw [Nat.succ_mul, itf_add, h3, ih]
  have back : itf f (i * per f A.length s - i) (itf f i s) = s := by
    rw [← itf_add, show i * per f A.length s - i + i = i * per f A.length s by
      have : i * 1 ≤ i * per f A.length s := Nat.mul_le_mul_left i h1
      omega]
    exact loop i
  have iff : ∀ k, itf f k (itf f i s) = itf f i s ↔ itf f k s = s := fun k => by
    constructor
    · intro h
      have := congrArg (itf f (i * per f A.length s - i)) h
      rw [itf_comm, back] at this
      exact this
    · intro h
      rw [itf_comm, h]
  exact per_first h1 h2 ((iff _).mpr h3) fun j h5 h6 h7 => h4 j h5 h6 ((iff j).mp h7)
theorem mem_rst {x : List Nat} : x ∈ rst f A ↔ x ∈ A ∧ per f A.length x ≠ 0 := by
  unfold rst
  rw [List.mem_filter]
  simp
theorem FunA.rst_it (F : FunA f A) (hs : s ∈ rst f A) (i : Nat) : itf f i s ∈ rst f A := by
  obtain ⟨h1, h2⟩ := mem_rst.mp hs
  exact mem_rst.mpr ⟨F.it h1 i, by rw [F.per_it h1 h2]; exact h2⟩
structure OnR (f : Sf) (A L : List (List Nat)) : Prop where
  nd : L.Nodup
  sub : ∀ x ∈ L, x ∈ A
  cl : ∀ x ∈ L, f x ∈ L
  has : ∀ x ∈ rst f A, x ∈ L
theorem OnR.first (F : FunA f A) : OnR f A A := ⟨F.nd, fun _ h => h, F.cl, fun x h => (mem_rst.mp h).1⟩
theorem OnR.next (F : FunA f A) {L : List (List Nat)} (R : OnR f A L) : OnR f A (usL (L.map f)) := by
  refine ⟨usL_nodup _, fun x hx => ?_, fun x hx => ?_, fun x hx => ?_⟩
  · obtain ⟨y, hy, rfl⟩ := List.mem_map.mp (mem_usL.mp hx)
    exact F.cl _ (R.sub y hy)
  · obtain ⟨y, hy, rfl⟩ := List.mem_map.mp (mem_usL.mp hx)
    exact mem_usL.mpr (List.mem_map_of_mem (R.cl y hy))
  · obtain ⟨h1, h2⟩ := mem_rst.mp hx
    obtain ⟨p1, p2, p3, p4⟩ := per_some h2
    have e : f (itf f (per f A.length x - 1) x) = x := by
      show itf f (per f A.length x - 1 + 1) x = x
      rw [show per f A.length x - 1 + 1 = per f A.length x by omega]
      exact p3
    rw [← e]
    exact mem_usL.mpr (List.mem_map_of_mem (R.has _ (F.rst_it hx _)))
theorem OnR.stop (F : FunA f A) {L : List (List Nat)} (R : OnR f A L) (h : ¬ (usL (L.map f)).length < L.length) : ∀ x, x ∈ L ↔ x ∈ rst f A := by
  have hinj : ∀ x ∈ L, ∀ y ∈ L, f x = f y → x = y := fun x hx y hy e => by
    by_cases hxy : x = y
    · exact hxy
    · exfalso
      have hsub : ∀ z ∈ usL (L.map f), z ∈ (L.erase x).map f := fun z hz => by
        obtain ⟨w, hw, rfl⟩ := List.mem_map.mp (mem_usL.mp hz)
        by_cases hwx : w = x
        · rw [hwx, e]
          exact List.mem_map_of_mem ((List.mem_erase_of_ne (Ne.symm hxy)).mpr hy)
        · exact List.mem_map_of_mem ((List.mem_erase_of_ne hwx).mpr hw)
      have h1 := nodup_len (usL_nodup (L.map f)) hsub
      rw [List.length_map, List.length_erase_of_mem hx] at h1
      have : 0 < L.length := List.length_pos_of_mem hx
      omega
  refine fun x => ⟨fun hx => ?_, R.has x⟩
  obtain ⟨m, h1, h2, h3⟩ := inj_per R.cl hinj hx
  exact mem_rst.mpr ⟨R.sub x hx, per_ne h1 (Nat.le_trans h2 (nodup_len R.nd R.sub)) h3⟩
def updN (c : Nat → Nat) (m v : Nat) : Nat → Nat := fun k => if k = m then v else c k
def addN (ks : List Nat) (m : Nat) : List Nat := if m ∈ ks then ks else ks ++ [m]
theorem addN_nodup {ks : List Nat} {m : Nat} (h : ks.Nodup) : (addN ks m).Nodup := by
  unfold addN
  split
  · exact h
  · rename_i hm
    rw [List.nodup_append]
    refine ⟨h, by simp, fun x hx y hy => ?_⟩
    rw [List.mem_singleton.mp hy]
    exact fun e => hm (e ▸ hx)
theorem mem_addN {ks : List Nat} {m k : Nat} : k ∈ addN ks m ↔ k = m ∨ k ∈ ks := by
  unfold addN
  split
  · rename_i h
    constructor
    · exact .inr
    · rintro (rfl | h2)
      · exact h
      · exact h2
  · simp [or_comm]
/-- the stands from one on -/
def orb (f : Sf) (s : List Nat) (m : Nat) : List (List Nat) := (List.range m).map fun i => itf f i s
theorem orb_len (m : Nat) : (orb f s m).length = m := by simp [orb]
/-- rings gone round: what is known, how many there are of each length -/
structure Bts (f : Sf) (A K : List (List Nat)) (ks : List Nat) (c : Nat → Nat) (j : Nat) : Prop where
  nd : K.Nodup
  sub : ∀ x ∈ K, x ∈ rst f A
  cl : ∀ x ∈ K, f x ∈ K
  got : ∀ x ∈ (rst f A).take j, x ∈ K
  knd : ks.Nodup
  zeroK : 0 ∉ ks
  keys : ∀ m, m ∈ ks ↔ 0 < c m
  cnt : ∀ m, m * c m = (K.filter fun s => decide (per f A.length s = m)).length
theorem Bts.zero : Bts f A [] [] (fun _ => 0) 0 := ⟨List.nodup_nil, by simp, by simp, by simp, List.nodup_nil, by simp, by simp, by simp⟩
theorem Bts.next (F : FunA f A) {K : List (List Nat)} {ks : List Nat} {c : Nat → Nat} {j : Nat} {x : List Nat} (B : Bts f A K ks c j) (hx : (rst f A)[j]? = some x) (hk : x ∉ K) :
    Bts f A (K ++ orb f x (per f A.length x)) (addN ks (per f A.length x)) (updN c (per f A.length x) (c (per f A.length x) + 1)) (j + 1) := by
  have hxr := List.mem_of_getElem? hx
  obtain ⟨hxA, hxp⟩ := mem_rst.mp hxr
  obtain ⟨p1, p2, p3, p4⟩ := per_some hxp
  have back : ∀ i, i < per f A.length x → itf f (per f A.length x - i) (itf f i x) = x := fun i hi => by
    rw [← itf_add, show per f A.length x - i + i = per f A.length x by omega]
    exact p3
  have itK : ∀ y ∈ K, ∀ n, itf f n y ∈ K := fun y hy n => by
    induction n with
    | zero => exact hy
    | succ n ih => exact B.cl _ ih
  have ond : (orb f x (per f A.length x)).Nodup := by
    by_cases h : (orb f x (per f A.length x)).Nodup
    · exact h
    · exfalso
      obtain ⟨i, k, hik, hk2, e⟩ := not_nodup_map h
      refine p4 (per f A.length x - k + i) (by omega) (by omega) ?_
      rw [itf_add]
      have e : itf f i x = itf f k x := e
      rw [e]
      exact back k hk2
  have disj : ∀ y ∈ K, ∀ z ∈ orb f x (per f A.length x), y ≠ z := fun y hy z hz e => by
    obtain ⟨i, hi, rfl⟩ := List.mem_map.mp hz
    refine hk ?_
    rw [← back i (List.mem_range.mp hi), ← e]
    exact itK y hy _
  have oper : ∀ z ∈ orb f x (per f A.length x), per f A.length z = per f A.length x := fun z hz => by
    obtain ⟨i, hi, rfl⟩ := List.mem_map.mp hz
    exact F.per_it hxA hxp i
  refine ⟨List.nodup_append.mpr ⟨B.nd, ond, disj⟩, fun y hy => ?_, fun y hy => ?_, fun y hy => ?_, addN_nodup B.knd, fun h => (mem_addN.mp h).elim (fun e => by omega) B.zeroK, fun m => ?_, fun m => ?_⟩
  · rcases List.mem_append.mp hy with hy | hy
    · exact B.sub y hy
    · obtain ⟨i, _, rfl⟩ := List.mem_map.mp hy
      exact F.rst_it hxr i
  · rcases List.mem_append.mp hy with hy | hy
    · exact List.mem_append_left _ (B.cl y hy)
    · obtain ⟨i, hi, rfl⟩ := List.mem_map.mp hy
      have hi := List.mem_range.mp hi
      refine List.mem_append_right _ ?_
      show itf f (i + 1) x ∈ _
      by_cases h : i + 1 < per f A.length x
      · exact List.mem_map.mpr ⟨i + 1, List.mem_range.mpr h, rfl⟩
      · rw [show i + 1 = per f A.length x by omega, p3]
        exact List.mem_map.mpr ⟨0, List.mem_range.mpr (by omega), rfl⟩
  · rw [List.take_add_one, hx] at hy
    rcases List.mem_append.mp hy with hy | hy
    · exact List.mem_append_left _ (B.got y hy)
    · rw [show y = x by simpa using hy]
      exact List.mem_append_right _ (List.mem_map.mpr ⟨0, List.mem_range.mpr (by omega), rfl⟩)
  · rw [mem_addN]
    unfold updN
    by_cases h : m = per f A.length x
    · subst h
      simp
    · rw [if_neg h, ← B.keys m]
      simp [h]
  · rw [List.filter_append, List.length_append, ← B.cnt m]
    unfold updN
    by_cases h : m = per f A.length x
    · subst h
      rw [if_pos rfl, List.filter_eq_self.mpr fun z hz => by simp [oper z hz], orb_len, Nat.mul_add, Nat.mul_one]
    · rw [if_neg h, List.filter_eq_nil_iff.mpr fun z hz => by rw [oper z hz]; simpa using Ne.symm h]
      rfl
end
end Pdl
namespace Pdl
open PySem L2 PyProof.Rows PySem.Spec
theorem fm_mapA {α β : Type} (g : α → β) : ∀ l : List α, (l.filterMap fun x => some (g x)) = l.map g
  | [] => rfl
  | a :: l => by rw [List.filterMap_cons, List.map_cons, fm_mapA g l]
/-- how many of the first j come again after m steps -/
structure Lcn (f : Sf) (A : List (List Nat)) (ks : List Nat) (c : Nat → Nat) (j : Nat) : Prop where
  knd : ks.Nodup
  zeroK : 0 ∉ ks
  keys : ∀ m, m ∈ ks ↔ 0 < c m
  cnt : ∀ m, m ≠ 0 → c m = ((A.take j).filter fun s => decide (per f A.length s = m)).length
theorem Lcn.zero {f : Sf} {A : List (List Nat)} : Lcn f A [] (fun _ => 0) 0 := ⟨List.nodup_nil, by simp, by simp, by simp⟩
theorem Lcn.next {f : Sf} {A : List (List Nat)} {ks : List Nat} {c : Nat → Nat} {j : Nat} {x : List Nat} (L : Lcn f A ks c j) (hx : A[j]? = some x) (hp : per f A.length x ≠ 0) :
    Lcn f A (addN ks (per f A.length x)) (updN c (per f A.length x) (c (per f A.length x) + 1)) (j + 1) := by
  refine ⟨addN_nodup L.knd, fun h => (mem_addN.mp h).elim (fun e => hp e.symm) L.zeroK, fun m => ?_, fun m hm => ?_⟩
  · rw [mem_addN]
    unfold updN
    by_cases h : m = per f A.length x
    · subst h
      simp
    · rw [if_neg h, ← L.keys m]
      simp [h]
  · rw [List.take_add_one, hx, List.filter_append, List.length_append, ← L.cnt m hm]
    show _ = _ + (([x] : List (List Nat)).filter fun s => decide (per f A.length s = m)).length
    unfold updN
    by_cases h : m = per f A.length x
    · subst h
      rw [if_pos rfl]
      simp
    · rw [if_neg h]
      have : (([x] : List (List Nat)).filter fun s => decide (per f A.length s = m)) = [] := List.filter_eq_nil_iff.mpr fun z hz => by
        rw [List.mem_singleton.mp hz]
        simpa using Ne.symm h
      rw [this]
      rfl
end Pdl
namespace Pdl
open PySem L2 PyProof.Rows PySem.Spec PySem.W
section
variable {X : Cx} {μ : Md} {Γ : En} {Q : QE} {a b e tg it elt : Expr} {es ifs : List Expr} {pos tpos : Pos} {scope : Scope} {k n : Nat} {P : Po} {sts : List Stmt}
/-- for x in y, y a text, x a name that blocks look at: its cell's token is out in the body, which may break -/
theorem xbt_forC {body : List Stmt} {x xl : Str} {i il cx : Nat} {z : List Nat} {px p1 : Pos} (hp : PassesOwn (model X.prog X.w) X.A X.env X.xe) (hc : X.calm = true) (hN : X.N.Nodup) (hi : X.N[i]? = some x) (hx : X.env.scope.names.lookup x = some .cell) (hcl : X.env.cells.lookup x = some cx) (hf : X.fn x = true ∨ X.env.scope.names.lookup x = some .local)
    (hil : X.N[il]? = some xl) (vl : Vis X.env.scope xl) (sl : Γ.s[il]? = some (some (.str (S z))))
    (J : Nat → En → Prop) (Bk : En → Prop) (j0 : J 0 Γ) (step : ∀ k c Γ2, z[k]? = some c → J k Γ2 → XBq X μ (R1.CelG cx) body { Γ2 with s := Γ2.s.set i (some (.str (S [c]))) } { nx := J (k + 1), ct := J (k + 1), bk := Bk, rt := P.rt })
    (done : ∀ Γ2, J z.length Γ2 ∨ Bk Γ2 → XBT X μ sts Γ2 P) (dl : (xl == ("__debug__" : Str)) = false := by decide) (cl : (xl == ("__classdict__" : Str)) = false := by decide)
    (hs : ∀ v, foldedSetIterable (.Name xl p1) X.env v = pure v := by intro _; rfl) : XBT X μ (.For (.Name x px) (.Name xl p1) body [] pos :: sts) Γ P := by
  intro pins s σ H D h0 I ⟨R, k1, k2, k3, k4⟩
  obtain ⟨vl', el, rl⟩ := R.slots.2 il _ sl
  cases rl
  refine wpAny_execs_cons (wpAny_For (L2.raw_name hil vl I el (fun u ru => ?_) dl cl) hs)
  obtain ⟨tl, rfl⟩ := ru
  refine R1.raw_iter fun ty h1 hty st1 kp lt1 => ?_
  obtain ⟨it, hit⟩ : ∃ it, it = s.heap.objs.size := ⟨_, rfl⟩
  rw [← hit] at st1 lt1 ⊢
  have I1 : Inv X pins σ H { s with heap := h1 } := I.kept (t' := s.toks) kp
  have fpI : FpOk X pins H it := I.fpOk (by rw [hit]; exact Nat.le_refl _) (I.hok.fresh (by rw [hit]; exact Nat.le_refl _))
  refine codeAny_forLoop_any (fun m s' => ∃ k σ' H' Γ', 1 ≤ s'.toks ∧ Inv X pins σ' H' s' ∧ s'.heap.IsStrIter it ty (S z) tl k ∧ H' it = none ∧ Fw Γ.c Γ'.c H H' ∧ Rel X.K μ H' σ' Γ' ∧ J k Γ' ∧ m = z.length - k ∧ k ≤ z.length) ?_ z.length
    ⟨0, σ, H, Γ, h0, I1, st1, fpI.1, Fw.refl _ _, R, j0, by simp, Nat.zero_le _⟩
  rintro m s3 ⟨k, σ3, H3, Γ3, t3, I3, st3, n3, f3, R3, j3, rfl, hk⟩
  have hsz : (S z).cps.size = z.length := by rw [← Array.length_toList, S_cps]
  by_cases hlt : k < z.length
  · obtain ⟨c, hc2⟩ : ∃ c, z[k]? = some c := ⟨_, List.getElem?_eq_getElem hlt⟩
    have hc3 : (S z).cps[k]? = some c := by rw [← Array.getElem?_toList, S_cps]; exact hc2
    refine R1.raw_next hty st3 hc3 fun h4 st4 sb4 => ?_
    have I4 : Inv X pins σ3 H3 { s3 with heap := h4, toks := s3.toks + 1 } := I3.turned (t' := s3.toks + 1) (fun b o hb e => (sb4.2 b hb).trans e) n3 fpI.2.1 fpI.2.2.2.1 fpI.2.2.2.2.1 fpI.2.2.2.2.2
    refine R1.raw_go hty st4 ?_
    obtain ⟨o4, e4, cl4, da4⟩ := id st4
    have I5 : Inv X (pins ++ [(it, o4)]) σ3 H3 { s3 with heap := h4, toks := s3.toks + 1 } := I4.pins_of fun p hp => by
      rcases List.mem_append.mp hp with hp | hp
      · exact I4.pin p (List.mem_append_right _ hp)
      · rw [List.mem_singleton.mp hp]
        exact ⟨e4, n3, fpI.2.1, fpI.2.2.1, fun v q => by rw [da4] at q; cases q⟩
    obtain ⟨m5, hn5, _⟩ := I5.loc
    refine wpAny_assign_Name (wpAny_passesOwn hp (wpAny_mono (R1.wpAny_both (M := model X.prog X.w) (A := X.A) (E1 := X.xe) (E2 := X.xe)
      (store_ok2 (v := .str (S [c])) (u := .str ⟨#[c]⟩ s3.toks) (Q := fun _ s' => Inv X (pins ++ [(it, o4)]) (σ3.set i (some (.str (S [c])))) H3 s') I5 hN hi (.inr hx) ⟨s3.toks, rfl⟩ (fun s' I' _ => I') hf)
      (wpAny_storeName_cell (v := .str ⟨#[c]⟩ s3.toks) (Q := fun _ s' => R1.CelG cx s' ∧ s3.toks ≤ s'.toks) I5.ok.kind hx hcl (I5.cell x cx hcl).choose_spec fun h' hcv hs' => ⟨⟨_, hcv, S [c], s3.toks, rfl, t3, by show s3.toks < s3.toks + 1; omega⟩, by show s3.toks ≤ s3.toks + 1; omega⟩))
      (fun _ s6 q => ?_) fun _ _ q => q.1))
    obtain ⟨I6, g6, le6⟩ := q
    refine wpAny_passesOwn hp (wpAny_mono (PySem.wpAny_toks (step k c Γ3 hc2 j3 _ s6 _ H3 { nx := fun σ7 H7 => ∃ Γ7, Fw Γ.c Γ7.c H H7 ∧ Rel X.K μ H7 σ7 Γ7 ∧ J (k + 1) Γ7, ct := fun σ7 H7 => ∃ Γ7, Fw Γ.c Γ7.c H H7 ∧ Rel X.K μ H7 σ7 Γ7 ∧ J (k + 1) Γ7, bk := fun σ7 H7 => ∃ Γ7, Fw Γ.c Γ7.c H H7 ∧ Rel X.K μ H7 σ7 Γ7 ∧ Bk Γ7, rt := D.rt } g6 I6
      ⟨R3.set i (.str (S [c])), fun σ7 H7 Γ7 f7 R7 z => ⟨Γ7, f3.trans f7, R7, z⟩, fun v σ7 H7 d Γ7 f7 R7 r z => k2 v σ7 H7 d Γ7 (f3.trans f7) R7 r z, fun σ7 H7 Γ7 f7 R7 z => ⟨Γ7, f3.trans f7, R7, z⟩, fun σ7 H7 Γ7 f7 R7 z => ⟨Γ7, f3.trans f7, R7, z⟩⟩)) (fun fl s7 q => ?_) fun _ _ z => z.2)
    obtain ⟨le7, q⟩ := q
    have again : ∀ {σ7 : L2.St} {H7 : Hp}, Inv X (pins ++ [(it, o4)]) σ7 H7 s7 → (∃ Γ7, Fw Γ.c Γ7.c H H7 ∧ Rel X.K μ H7 σ7 Γ7 ∧ J (k + 1) Γ7) → ∃ m, m < z.length - k ∧ ∃ k' σ' H' Γ', 1 ≤ s7.toks ∧ Inv X pins σ' H' s7 ∧ s7.heap.IsStrIter it ty (S z) tl k' ∧ H' it = none ∧ Fw Γ.c Γ'.c H H' ∧ Rel X.K μ H' σ' Γ' ∧ J k' Γ' ∧ m = z.length - k' ∧ k' ≤ z.length := fun {σ7 H7} I7 ⟨Γ7, f7, R7, j7⟩ => by
      have a1 := I7.pin (it, o4) (List.mem_append_right _ (List.mem_append_right _ (by simp)))
      exact ⟨z.length - (k + 1), by omega, k + 1, σ7, H7, Γ7, by omega, I7.unpinned, ⟨o4, a1.1, cl4, da4⟩, a1.2.1, f7, R7, j7, rfl, hlt⟩
    cases fl with
    | next => obtain ⟨σ7, H7, I7, q⟩ := q; exact again I7 q
    | cont => obtain ⟨σ7, H7, I7, q⟩ := q; exact again I7 q
    | brk =>
      obtain ⟨σ7, H7, I7, Γ7, f7, R7, q⟩ := q
      exact done Γ7 (.inr q) pins s7 σ7 H7 D (by omega) I7.unpinned ⟨R7, fun σ2 H2 Γ2 f2 R2 z => k1 σ2 H2 Γ2 (f7.trans f2) R2 z, fun v σ2 H2 d Γ2 f2 R2 r z => k2 v σ2 H2 d Γ2 (f7.trans f2) R2 r z, fun σ2 H2 Γ2 f2 R2 z => k3 σ2 H2 Γ2 (f7.trans f2) R2 z, fun σ2 H2 Γ2 f2 R2 z => k4 σ2 H2 Γ2 (f7.trans f2) R2 z⟩
    | ret v => obtain ⟨x7, σ7, H7, I7, r7, q⟩ := q; exact ⟨x7, σ7, H7, I7.unpinned, r7, q⟩
  · have hkk : k = z.length := by omega
    subst hkk
    refine R1.raw_stop (I3.ok.hd hc) hty st3 (Array.getElem?_eq_none (by rw [hsz]; exact Nat.le_refl _)) fun h4 sb4 => ?_
    have I4 : Inv X pins σ3 H3 { s3 with heap := h4 } := I3.turned (t' := s3.toks) (fun b o hb e => sb4 b o hb e) n3 fpI.2.1 fpI.2.2.2.1 fpI.2.2.2.2.1 fpI.2.2.2.2.2
    exact wpAny_execs_nil (done Γ3 (.inl j3) pins _ σ3 H3 D t3 I4 ⟨R3, fun σ2 H2 Γ2 f2 R2 z => k1 σ2 H2 Γ2 (f3.trans f2) R2 z, fun v σ2 H2 d Γ2 f2 R2 r z => k2 v σ2 H2 d Γ2 (f3.trans f2) R2 r z, fun σ2 H2 Γ2 f2 R2 z => k3 σ2 H2 Γ2 (f3.trans f2) R2 z, fun σ2 H2 Γ2 f2 R2 z => k4 σ2 H2 Γ2 (f3.trans f2) R2 z⟩)
/-- if [..] == []: .., where a cell's token is out, in the branches too -/
theorem xbc_ifNil {c : Addr} {i il : Nat} {xn xl : Str} {pl p0 p1 p2 p3 : Pos} {d : D} {A B : List Stmt} (hcl : ∃ x, X.env.cells.lookup x = some c) (hu : X.A.units + 64 < cLine) (hc : X.calm = true) (hN : X.N.Nodup) (hi : X.N[i]? = some xn) (hb : blkC X.N X.env.scope scope [(xn, i)] = true)
    (hx : Blk X scope fun Y => Loc Y.env.scope xn) (hf : Blk X scope fun Y => Y.fn xn = true ∨ Y.env.scope.names.lookup xn = some .local) (hil : X.N[il]? = some xl) (vl : Vis X.env.scope xl) (sl : Γ.s[il]? = some (some d)) (hd : (∃ xs, d = .tup xs) ∨ ∃ z, d = .str z)
    (h : XI X μ (.Name xn tpos) (.Name xl pl) Γ (QLc X scope ifs elt i fun d0 Γ1 => ∃ xs, d0 = .lst xs ∧ okD (.lst xs) = true ∧ dpD (.lst xs) ≤ 64 ∧ if xs = [] then XBq X μ (R1.CelG c) A Γ1 P else XBq X μ (R1.CelG c) B Γ1 P))
    (hs : ∀ x, foldedSetIterable (.Name xl pl) X.env x = pure x := by intro _; rfl) (dl : (xl == ("__debug__" : Str)) = false := by decide) (cl' : (xl == ("__classdict__" : Str)) = false := by decide) (hm : behindInMarks .Eq (.List [] p2) = false := by rfl) :
    XBq X μ (R1.CelG c) [.If (.Compare (.ListComp elt [⟨.Name xn tpos, .Name xl pl, ifs, 0⟩] scope p0) [.Eq] [.List [] p2] p1) A B p3] Γ P := by
  intro pins s σ H D g I ⟨R, k1, k2, k3, k4⟩
  obtain ⟨q, hqe⟩ : ∃ q : VK, q = fun v H1 => ∃ d0 Γ1, Γ1.s = Γ.s ∧ Fw Γ.c Γ1.c H H1 ∧ Rel X.K μ H1 σ Γ1 ∧ Rp X.K (Vw μ Γ1 H1) v d0 ∧ ∃ xs, d0 = .lst xs ∧ okD (.lst xs) = true ∧ dpD (.lst xs) ≤ 64 ∧ if xs = [] then XBq X μ (R1.CelG c) A Γ1 P else XBq X μ (R1.CelG c) B Γ1 P := ⟨_, rfl⟩
  have z : tD X.K μ Γ (fun d0 Γ1 => ∃ xs, d0 = .lst xs ∧ okD (.lst xs) = true ∧ dpD (.lst xs) ≤ 64 ∧ if xs = [] then XBq X μ (R1.CelG c) A Γ1 P else XBq X μ (R1.CelG c) B Γ1 P) σ H q :=
    ⟨R, fun v H1 d Γ1 s1 f1 R1 r1 hq => by rw [hqe]; exact ⟨d, Γ1, s1, f1, R1, r1, hq⟩⟩
  have h3 : XI X μ (.Name xn tpos) (.Name xl pl) Γ (QLq X scope ifs (fun t => BlkC X scope fun Y => R1.PEc Y [c] elt t) i fun d0 Γ1 => ∃ xs, d0 = .lst xs ∧ okD (.lst xs) = true ∧ dpD (.lst xs) ≤ 64 ∧ if xs = [] then XBq X μ (R1.CelG c) A Γ1 P else XBq X μ (R1.CelG c) B Γ1 P) := h.imp fun ds Γ1 ⟨J, h0, ht, hl, hq⟩ =>
    ⟨J, h0, fun k d acc c2 hd hJ μ' s H C cl fp => ⟨fun pins s' σ' H' q' I' ⟨R', k'⟩ => (ht k d acc c2 hd hJ μ' s H C cl fp).run pins s' σ' H' q' I' ⟨R', fun H3 b Γ3 s3 f3 R3 z => k' H3 b Γ3 s3 f3 R3 (by
      cases b with
      | false => exact z
      | true => exact fun s2 H2 C2 fp2 => R1.PEc.of (z s2 H2 C2 _ fp2))⟩⟩, hl, hq⟩
  have hw3 := lcDq (scope := scope) (ifs := ifs) (Pr := fun t => BlkC X scope fun Y => R1.PEc Y [c] elt t) (i := i) σ H q z
  have hcs : ∀ c' ∈ [c], ∃ x, X.env.cells.lookup x = some c' := fun c' hc' => by rw [List.mem_singleton.mp hc']; exact hcl
  have hg1 : ∀ c' ∈ [c], R1.CelG c' s := fun c' hc' => by rw [List.mem_singleton.mp hc']; exact g
  have lc := R1.lc_G (Q := q) (g := gName i) (tt := uBT X scope ifs) (te := uPr fun t => BlkC X scope fun Y => R1.PEc Y [c] elt t) (own := [(xn, i)]) (pos := p0) [c] hcs hc hN I (blkOk_by hb) (fun s H C cl fp => pg_name hN hi (hx s H C cl fp) (hf s H C cl fp))
    (fun s H C cl fp => ⟨fun pins s' σ H' q I ⟨t, ht, hq⟩ => (ht s H C cl fp).run pins s' σ H' q I hq⟩) (fun s H C fp pins s' σ' H' q' g' I' ⟨t, ht, hq⟩ => ht s H C fp pins s' σ' H' q' g' I' hq) hs
    (itg_name (wi := tID X.K μ Γ (QLq X scope ifs (fun t => BlkC X scope fun Y => R1.PEc Y [c] elt t) i _)) h3 R hil vl sl hd hg1 I hw3 dl cl')
  refine wpAny_execs_cons (wpAny_If (wpAny_isTrue_Compare1 (wpAny_mono lc (fun v s1 ⟨⟨w, H1, I1, rw1, hq⟩, gc⟩ => ?_) fun _ _ z => z) hm))
  rw [hqe] at hq
  obtain ⟨d0, Γ1, e1, f1, R1', r1, xs, hd0, hok, hdp, hq⟩ := hq
  subst hd0
  have gc := gc c (by simp)
  refine wpAny_List_spliced (Calls.spliced_nil ⟨by show 0 ≤ sizeLine; decide, ?_⟩)
  have fresh : H1 s1.heap.objs.size = none := I1.hok.fresh (Nat.le_refl _)
  have up := sub_upd (o := .lst []) fresh
  have I2 : Inv X pins σ (upd H1 s1.heap.objs.size (.lst [])) { s1 with heap := s1.heap.push { cls := .type "list", data := .seq ([] : List Value).toArray } } :=
    I1.laid (t' := s1.toks) (fun b u e => Heap.get?_push_of_some _ e) (Nat.le_refl _) ⟨Nat.zero_le _, [], 0, .nil, Heap.get?_push_size _ rfl⟩
  have g2 : R1.CelG c { s1 with heap := s1.heap.push { cls := .type "list", data := .seq ([] : List Value).toArray } } := cel_push gc
  have ra : Rp X.K (upd H1 s1.heap.objs.size (.lst [])) w (.lst xs) := (r1.mono (hid_sub _ _)).mono up
  have rb : Rp X.K (upd H1 s1.heap.objs.size (.lst [])) (.ref s1.heap.objs.size) (.lst []) := .lst (.of upd_same) .nil
  obtain ⟨as1, q1⟩ := Dp.reads I2 (toPy (.lst xs)) w v (ra.dp (ok_py _ hok)) rw1
  obtain ⟨bs1, q2⟩ := Dp.reads I2 (toPy (.lst [])) (.ref s1.heap.objs.size) (.ref s1.heap.objs.size) (rb.dp rfl) rfl
  refine SeqAt.compareEq_shaped q1 q2 (shaped_ok hok hdp) (shaped_ok (d := .lst []) rfl (by decide)) hu ?_
  refine wpAny_truthy_bool ?_
  have R2 := R1'.more up
  have fin : ∀ {C : List Stmt}, XBq X μ (R1.CelG c) C Γ1 P → wpAny (model X.prog X.w) X.A (execs C X.env) (fun f s' => match f with
      | Flow.next => wpAny (model X.prog X.w) X.A (execs [] X.env) (SP X pins D) X.xe s'
      | f => SP X pins D f s') X.xe { s1 with heap := s1.heap.push { cls := .type "list", data := .seq ([] : List Value).toArray } } := fun {C} hC =>
    wpAny_mono (hC pins _ σ _ D g2 I2 ⟨R2, fun σ2 H2 Γ2 f2 R2 z => k1 σ2 H2 Γ2 ((f1.trans (Fw.of_sub up)).trans f2) R2 z, fun v σ2 H2 d Γ2 f2 R2 r z => k2 v σ2 H2 d Γ2 ((f1.trans (Fw.of_sub up)).trans f2) R2 r z, fun σ2 H2 Γ2 f2 R2 z => k3 σ2 H2 Γ2 ((f1.trans (Fw.of_sub up)).trans f2) R2 z, fun σ2 H2 Γ2 f2 R2 z => k4 σ2 H2 Γ2 ((f1.trans (Fw.of_sub up)).trans f2) R2 z⟩)
      (fun f s2 q => by
        cases f with
        | next => exact wpAny_execs_nil q
        | cont => exact q
        | brk => exact q
        | ret v => exact q) fun _ _ z => z
  cases xs with
  | nil =>
    rw [if_pos rfl] at hq
    exact iteT (fin hq)
  | cons y ys =>
    rw [if_neg (by simp)] at hq
    rw [if_neg (by simp [toPy, toPyL, PyData.eqv, PyData.eqvAll])]
    exact fin hq
/-- a, b = .., what a cell holds is used in the first; the rest as ever -/
theorem xbq_tup {G : Shared → Prop} {tg : Expr} {kt : Nat} {pt pos : Pos} (h : XAq X μ G es Γ fun ds Γ1 => ds.length ≤ 100000 ∧ XG X μ tg (.tup ds) Γ1 fun Γ2 => XB X μ sts Γ2 P) (hs : swapsWithSole [tg] (.Tuple es kt pt) pos.line X.env = pure false := by rfl) (hw : swappedStores [tg] (.Tuple es kt pt) X.env = pure none := by rfl)
    (h1 : (assignEach [tg] X.env).map (·.2) = [assign tg X.env] := by rfl) (he : starEach es X.env = starEach es X.env := by rfl) : XBq X μ G (.Assign [tg] (.Tuple es kt pt) pos :: sts) Γ P := by
  intro pins s σ H D g I ⟨R, k1, k2, k3, k4⟩
  refine wpAny_execs_cons (wpAny_Assign_stores (wpAny_Tuple_spliced (thn (h pt pins s σ H (fun vs H1 => ∃ ds Γ1, Γ1.s = Γ.s ∧ Fw Γ.c Γ1.c H H1 ∧ Rel X.K μ H1 σ Γ1 ∧ RpA X.K (Vw μ Γ1 H1) vs ds ∧ ds.length ≤ 100000 ∧ XG X μ tg (.tup ds) Γ1 fun Γ2 => XB X μ sts Γ2 P) g I ⟨R, fun vs H1 ds Γ1 s1 f1 R1 r1 hq => ⟨ds, Γ1, s1, f1, R1, r1, hq⟩⟩) fun us s1 ⟨vs, H1, I1, rvs, ds, Γ1, e1, f1, R1', r1, hl, hq⟩ => ?_)) hs hw)
  have hz : vs.length ≤ sizeLine := by
    rw [r1.length]
    exact Nat.le_trans hl (by decide)
  have fresh : H1 s1.heap.objs.size = none := I1.hok.fresh (Nat.le_refl _)
  have up := sub_upd (o := .tup vs) fresh
  have I2 : Inv X pins σ (upd H1 s1.heap.objs.size (.tup vs)) { s1 with heap := s1.heap.push { cls := .type "tuple", data := .seq us.toArray } } :=
    I1.laid (t' := s1.toks) (fun b u e => Heap.get?_push_of_some _ e) (Nat.le_refl _) ⟨hz, us, rvs, ⟨_, Heap.get?_push_size _ rfl, rfl, _, rfl⟩⟩
  refine ⟨by rw [← rvs.length]; exact hz, ?_⟩
  rw [h1]
  refine thn (hq.run pins _ σ _ (.ref s1.heap.objs.size) _ (fun σ2 H2 => ∃ Γ2, Fw Γ1.c Γ2.c (upd H1 s1.heap.objs.size (.tup vs)) H2 ∧ Rel X.K μ H2 σ2 Γ2 ∧ XB X μ sts Γ2 P) I2 rfl ⟨R1'.more up, .tup (.of (hid_upd (R1'.fresh fresh))) (r1.mono (Fw.of_sub (c := Γ1.c) up).sub), fun σ2 H2 Γ2 f2 R2 hq => ⟨Γ2, f2, R2, hq⟩⟩) fun _ s2 ⟨σ2, H2, I3, Γ2, f2, R2, hq2⟩ => ?_
  exact hq2.run pins s2 σ2 H2 D I3 ⟨R2, fun σ3 H3 Γ3 f3 R3 z => k1 σ3 H3 Γ3 (((f1.trans (Fw.of_sub up)).trans f2).trans f3) R3 z, fun v σ3 H3 d Γ3 f3 R3 r z => k2 v σ3 H3 d Γ3 (((f1.trans (Fw.of_sub up)).trans f2).trans f3) R3 r z, fun σ3 H3 Γ3 f3 R3 z => k3 σ3 H3 Γ3 (((f1.trans (Fw.of_sub up)).trans f2).trans f3) R3 z, fun σ3 H3 Γ3 f3 R3 z => k4 σ3 H3 Γ3 (((f1.trans (Fw.of_sub up)).trans f2).trans f3) R3 z⟩
/-- y.replace(x, ""), both names that blocks look at -/
theorem xeq_replC {c : Addr} {xl x y0 : Str} {il i p : Nat} {l : List Nat} {pl pp c0 apos pos : Pos} {j0 : Nat} (hil : X.N[il]? = some xl) (vl : Vis X.env.scope xl) (sl : Γ.s[il]? = some (some (.str (S l)))) (hi : X.N[i]? = some x) (hk : X.env.kindOf x = some .free ∨ X.env.kindOf x = some .cell) (hcl : X.env.cells.lookup x = some c) (hv : Vis X.env.scope x)
    (sx : Γ.s[i]? = some (some (.str (S [p])))) (hl : l.length ≤ 100000) (h : Q (.str (S (repL p [] l))) Γ) (hy : y0 = S [] := by rfl)
    (dl : (xl == ("__debug__" : Str)) = false := by decide) (cl' : (xl == ("__classdict__" : Str)) = false := by decide) (dx : (x == ("__debug__" : Str)) = false := by decide) (cx : (x == ("__classdict__" : Str)) = false := by decide)
    (hst : starEach [.Name x pp, .Constant (.str y0) j0 c0] X.env = [(false, eval (.Name x pp) X.env), (false, eval (.Constant (.str y0) j0 c0) X.env)] := by rfl)
    (hbase : attributeBase (.Name xl pl) "replace" X.env (eval (.Name xl pl) X.env) = eval (.Name xl pl) X.env := by rfl) (hline : (apos.endLine == pos.line) = true := by rfl) :
    XEq X μ (R1.CelG c) (.Call (.Attribute (.Name xl pl) "replace" apos) [.Name x pp, .Constant (.str y0) j0 c0] [] pos) Γ Q := fun pins s σ H q g I z =>
  pec_repl (cs := [c]) (by simp) hil vl sl hi hk hcl hv sx hl h hy dl cl' dx cx hst hbase hline pins s σ H q (fun c' hc' => by rw [List.mem_singleton.mp hc']; exact g) I z
end
end Pdl
namespace Pdl
open PySem L2 PyProof.Rows PySem.Spec PySem.W
def kI (ns : List Int) : List Key := ns.map Sum.inl
theorem mem_kI {ns : List Int} {x : Int} : (Sum.inl x : Key) ∈ kI ns ↔ x ∈ ns := by
  unfold kI
  rw [List.mem_map]
  exact ⟨fun ⟨y, hy, e⟩ => Sum.inl.inj e ▸ hy, fun hx => ⟨x, hx, rfl⟩⟩
theorem perm_keysI {ns : List Int} {ks : List Key} (h : ∀ k, k ∈ kI ns ↔ k ∈ ks) : ∃ ms : List Int, ks = kI ms ∧ ∀ x, x ∈ ms ↔ x ∈ ns := by
  have h1 : ∀ k ∈ ks, ∃ l ∈ ns, k = Sum.inl l := fun k hk => by
    obtain ⟨l, hl, e⟩ := List.mem_map.mp ((h k).mpr hk)
    exact ⟨l, hl, e.symm⟩
  have ex : ∃ ms : List Int, ks = kI ms := by
    clear h
    induction ks with
    | nil => exact ⟨[], rfl⟩
    | cons k ks ih =>
      obtain ⟨ms, e⟩ := ih fun q hq => h1 q (List.mem_cons_of_mem _ hq)
      obtain ⟨l, _, rfl⟩ := h1 k List.mem_cons_self
      exact ⟨l :: ms, by rw [e]; rfl⟩
  obtain ⟨ms, rfl⟩ := ex
  exact ⟨ms, rfl, fun x => by rw [← mem_kI (ns := ms), ← mem_kI (ns := ns), h]⟩
theorem kI_nodup {ms : List Int} (h : (kI ms).Nodup) : ms.Nodup := List.Pairwise.of_map (fun l : Int => (Sum.inl l : Key)) (fun _ _ hne e => hne (by rw [e])) h
theorem vals_keysI : ∀ {vs : List Value} {ms : List Int}, (∀ v ∈ vs, keyIs (kOf (0, v)) v = true) → vs.map (fun v => kOf (0, v)) = kI ms → Vals (ms.map V.int) vs
  | [], [], _, _ => .nil
  | [], _ :: _, _, e => by cases e
  | _ :: _, [], _, e => by cases e
  | v :: vs, m :: ms, h, e => by
    have e' : kOf (0, v) :: vs.map (fun v => kOf (0, v)) = Sum.inl m :: kI ms := e
    injection e' with e1 e2
    have hv := h v List.mem_cons_self
    rw [e1] at hv
    rcases keyIs_shape hv with ⟨j, t, ej, rfl⟩ | ⟨x, t, ex, _⟩
    · cases ej
      exact .cons ⟨t, rfl⟩ (vals_keysI (fun u hu => h u (List.mem_cons_of_mem _ hu)) e2)
    · cases ex
def jD (i : Int) : D := .int i
theorem jD_kinj (l : List Int) : KInj jD l := fun a _ b _ h => by
  have h : keyToks (.int a) = keyToks (.int b) := h
  simp only [keyToks, List.cons.injEq, Sum.inl.injEq, and_true] at h
  exact h
theorem jD_le {a b : Int} (h : a < b) : leE jD a b = true := by
  have e : leE jD = fun a b => decide (a ≤ b) := dataLe_int (fun i : Int => i)
  rw [e]
  exact decide_eq_true (by omega)
theorem jD_sorted {l m : List Int} (hs : m.Pairwise (· < ·)) (hp : m.Perm l) : srtD (l.map D.int) = m.map D.int := by
  have := srtD_map jD l
  rw [srtE_eq (jD_kinj l) (hs.imp fun h => jD_le h) hp] at this
  exact this
theorem jD_sortOk {l : List Int} (hl : l.length ≤ 100000) : SortOk (l.map D.int) := by
  have hpy : toPyL (l.map D.int) = l.map fun a : Int => PyData.int a := by rw [toPyL_map, List.map_map]; rfl
  refine ⟨?_, ?_, ?_, fun d hd => ?_, by simpa using hl⟩
  · rw [isPyL_all, List.all_eq_true]
    intro d hd
    obtain ⟨a, _, rfl⟩ := List.mem_map.mp hd
    rfl
  · rw [hpy]
    intro d hd d' hd'
    obtain ⟨a, _, rfl⟩ := List.mem_map.mp hd
    obtain ⟨b, _, rfl⟩ := List.mem_map.mp hd'
    simp [alike]
  · rw [hpy]
    exact Sortable.others (enc := fun a : Int => PyData.int a) fun b => ⟨fun h => (nomatch h), fun xs h => (nomatch h)⟩
  · obtain ⟨a, _, rfl⟩ := List.mem_map.mp hd
    show (PyData.int a).depth ≤ 50
    simp [PyData.depth]
section
variable {X : Cx}
theorem cd_setI {ns : List Int} (hc : X.calm = true) (hl : ns.length ≤ 4000) : CallD X (.type "set") [.lst (ns.map D.int)] (.set X.w (kI ns)) := fun pins s σ H vs us q I rv ⟨m, hm, h1, k⟩ => by
  obtain ⟨v, rfl, r⟩ := h1.one
  obtain ⟨u, rfl, ru⟩ := rv.one
  have hfew : (kI ns).length + 1 < scanBound := by
    unfold kI scanBound
    rw [List.length_map]
    omega
  cases r with
  | lst s1 r1 =>
    rw [r1.of_ints] at s1
    cases ru
    obtain ⟨its, rw', pl, hz⟩ := I.list ((hid_sub m H).sqL s1)
    have hlen := rw'.length
    rw [List.length_map] at hlen
    refine call_set_by (ks := kI ns) (fun hA hR => up_list (I.ok.hd hc) pl.isList (fun i v hv => ?_) (by simp [kI, hlen]) hfew hA hR) fun h' tk hq hk => set_end I hm k hq hk
    have hv' : its[i]? = some v := by simpa using hv
    have hi' : i < its.length := (List.getElem?_eq_some_iff.mp hv').1
    have hli : i < ns.length := by omega
    obtain ⟨u, hu, ru⟩ := rw'.get (i := i) (x := V.int ns[i]) (by simp [hli])
    rw [hv'] at hu
    cases hu
    obtain ⟨t, rfl⟩ := ru
    exact ⟨Sum.inl ns[i], by simp [kI, hli], keyIs_int _ _⟩
theorem cd_sorted_setI {ns zs : List Int} (hc : X.calm = true) (hu : X.A.units + 64 < cLine) (hl : ns.length ≤ 4000) (hz : zs.Pairwise (· < ·)) (hm0 : ∀ x, x ∈ zs ↔ x ∈ ns) : CallD X (.builtin "sorted") [.set X.w (kI ns)] (.lst (zs.map D.int)) := fun pins s σ H vs us q I rv ⟨m, hm, h1, k⟩ => by
  obtain ⟨v, rfl, r⟩ := h1.one
  obtain ⟨u, rfl, ru⟩ := rv.one
  cases r with
  | set ha =>
    cases ru
    obtain ⟨hq, _⟩ := I.hok _ _ (hid_sub m H _ _ ha)
    obtain ⟨o, es, ep, t, ho, hex, hd, g, nd, hmem, hz2, hf, hr, hled⟩ := id hq
    have hb : es.size < scanBound := by
      unfold scanBound
      have : (kI ns).length = ns.length := by simp [kI]
      omega
    refine sorted_by (R := fun v (b : V × D) => RelV b.1 v) (enc := fun b => toPy b.2) ?_
    refine collect_set (A := X.A.in1) (I.ok.hd hc) ⟨o, ho, hex.1, hd⟩ hf hb hr hled fun s1 out k1 hz1 g1 o1 pm => ?_
    have I1 : Inv X pins σ H s1 := I.call' (ch := []) o1 (Un.kept k1) (I.hok.kept k1) (by rw [g1]; exact I.bare) (fun b z => nomatch z)
    have pk : (out.map fun v => kOf (0, v)).Perm (es.toList.map kOf) := by
      have z := pm.map fun v => kOf (0, v)
      rw [List.map_map] at z
      exact z
    obtain ⟨ms, ems, hms⟩ := perm_keysI (ns := ns) (ks := out.map fun v => kOf (0, v)) fun kk => by rw [hmem, pk.mem_iff]
    have hnd : ms.Nodup := kI_nodup (by rw [← ems]; exact pk.nodup_iff.mpr nd)
    have hvs : Vals (ms.map V.int) out := vals_keysI (fun v hv => by
      obtain ⟨e, he, rfl⟩ := List.mem_map.mp (pm.mem_iff.mp hv)
      exact (g e he).1) ems
    have hle : ms.length ≤ 4096 := by
      have e1 := congrArg List.length ems
      rw [List.length_map] at e1
      have e2 : (kI ms).length = ms.length := by simp [kI]
      have e3 : out.length = es.size := by rw [pm.length_eq, List.length_map, Array.length_toList]
      unfold scanBound at hb
      omega
    have hzn : zs.Nodup := List.nodup_iff_pairwise_ne.mpr (hz.imp fun h e => by omega)
    have hzm : zs.Perm ms := (List.perm_ext_iff_of_nodup hzn hnd).mpr fun x => by rw [hm0, hms]
    have er : srtD (ms.map D.int) = zs.map D.int := jD_sorted hz hzm
    refine sorted_end I1 hu (jD_sortOk (by omega)) hm (RpA.ints _) hvs ?_
    rw [er]
    exact k
end
end Pdl
namespace Pdl
open PySem L2 PyProof.Rows PySem.Spec PySem.W
/-- no arrow leads from what is left to p -/
def headB (as : List (List Nat)) (left : List Nat) (p : Nat) : Bool := as.all fun l => !(decide (snd2 l = p) && decide (fst2 l ∈ left))
theorem headB_iff {as : List (List Nat)} {left : List Nat} {p : Nat} (h2 : Two as) : headB as left p = true ↔ ∀ a, [a, p] ∈ as → a ∉ left := by
  unfold headB
  rw [List.all_eq_true]
  constructor
  · intro h a ha hal
    have := h _ ha
    simp [fst2, snd2, hal] at this
  · intro h l hl
    obtain ⟨a, b, rfl⟩ := h2 l hl
    by_cases hb : b = p
    · subst hb
      have := h a hl
      simp [fst2, snd2, this]
    · simp [fst2, snd2, hb]
structure OrdI (as : List (List Nat)) (left found : List Nat) : Prop where
  pm : (found ++ left).Perm (us as.flatten)
  fw : ∀ a b, [a, b] ∈ as → b ∈ found → a ∈ found ∧ idx found a < idx found b
theorem OrdI.start (as : List (List Nat)) : OrdI as (us as.flatten) [] := ⟨.refl _, fun a b _ h => by simp at h⟩
theorem repL_nil (c : Nat) : ∀ l : List Nat, repL c [] l = l.filter fun x => decide (x ≠ c)
  | [] => rfl
  | a :: l => by
    show (if a = c then [] else [a]) ++ repL c [] l = _
    rw [repL_nil c l, List.filter_cons]
    by_cases h : a = c <;> simp [h]
theorem OrdI.some {as : List (List Nat)} {left found : List Nat} (O : OrdI as left found) (ha : Arrs as) (hl : left ≠ []) : ∃ p ∈ left, headB as left p = true := by
  obtain ⟨r, hr⟩ := ha.rk
  have : ∀ (n : Nat) (l : List Nat), l.length = n → l ≠ [] → ∃ p ∈ l, ∀ q ∈ l, r p ≤ r q := fun n => by
    induction n with
    | zero => intro l h1 h2; exact absurd (List.length_eq_zero_iff.mp h1) h2
    | succ n ih =>
      intro l h1 h2
      cases l with
      | nil => simp at h1
      | cons a l =>
        cases hl : l with
        | nil => exact ⟨a, by simp, fun q hq => by simp at hq; rw [hq]; exact Nat.le_refl _⟩
        | cons b l' =>
          obtain ⟨p, hp, hm⟩ := ih l (by simpa using h1) (by rw [hl]; simp)
          rw [← hl]
          by_cases h : r a ≤ r p
          · refine ⟨a, List.mem_cons_self, fun q hq => ?_⟩
            rcases List.mem_cons.mp hq with rfl | hq
            · exact Nat.le_refl _
            · exact Nat.le_trans h (hm q hq)
          · refine ⟨p, List.mem_cons_of_mem _ hp, fun q hq => ?_⟩
            rcases List.mem_cons.mp hq with rfl | hq
            · omega
            · exact hm q hq
  obtain ⟨p, hp, hm⟩ := this _ left rfl hl
  refine ⟨p, hp, (headB_iff ha.two).mpr fun a h1 h2 => ?_⟩
  have := hr a p h1
  have := hm a h2
  omega
theorem OrdI.nd {as : List (List Nat)} {left found : List Nat} (O : OrdI as left found) : (found ++ left).Nodup := O.pm.nodup_iff.mpr (us_nodup _)
theorem OrdI.next {as : List (List Nat)} {left found : List Nat} (O : OrdI as left found) (ha : Arrs as) {p : Nat} (hp : p ∈ left) (hh : headB as left p = true) : OrdI as (repL p [] left) (found ++ [p]) := by
  have hnd := O.nd
  obtain ⟨nf, nl, dj⟩ := List.nodup_append.mp hnd
  have hpf : p ∉ found := fun h => dj p h p hp rfl
  rw [repL_nil]
  have hpl : (p :: left.filter fun x => decide (x ≠ p)).Perm left := by
    refine (List.perm_ext_iff_of_nodup ?_ nl).mpr fun x => ?_
    · exact List.nodup_cons.mpr ⟨by simp, nl.sublist List.filter_sublist⟩
    · rw [List.mem_cons, List.mem_filter]
      constructor
      · rintro (rfl | ⟨h, _⟩)
        · exact hp
        · exact h
      · intro h
        by_cases e : x = p
        · exact .inl e
        · exact .inr ⟨h, by simpa using e⟩
  refine ⟨?_, fun a b hab hb => ?_⟩
  · rw [List.append_assoc]
    exact (hpl.append_left found).trans O.pm
  · rcases List.mem_append.mp hb with hb | hb
    · obtain ⟨h1, h2⟩ := O.fw a b hab hb
      refine ⟨List.mem_append_left _ h1, ?_⟩
      rw [idx_app h1, idx_app hb]
      exact h2
    · have e : b = p := by simpa using hb
      subst e
      have hal := (headB_iff ha.two).mp hh a hab
      have haP : a ∈ us as.flatten := mem_us.mpr (List.mem_flatten.mpr ⟨_, hab, by simp⟩)
      have haf : a ∈ found := (List.mem_append.mp (O.pm.mem_iff.mpr haP)).resolve_right hal
      refine ⟨List.mem_append_left _ haf, ?_⟩
      rw [idx_app haf, idx_new hpf]
      exact idx_lt_len haf
theorem OrdI.row {as : List (List Nat)} {found : List Nat} (O : OrdI as [] found) (ha : Arrs as) : Row as found as := by
  have hpm : found.Perm (us as.flatten) := by have := O.pm; rwa [List.append_nil] at this
  have hal : (as.map pr2).map (lay found) = as := by
    rw [List.map_map]
    refine (List.map_congr_left fun l hl => ?_).trans (List.map_id as)
    obtain ⟨a, b, rfl⟩ := ha.two l hl
    have hb : b ∈ found := hpm.mem_iff.mpr (mem_us.mpr (List.mem_flatten.mpr ⟨_, hl, by simp⟩))
    exact lay_of (O.fw a b hl hb).2
  have hfl : ∀ x, x ∈ found ↔ x ∈ (as.map pr2).flatten := fun x => by
    rw [hpm.mem_iff, mem_us]
    have := lay_flat (o := found) ha.ties (x := x)
    rw [hal] at this
    exact this
  have h := rot_row ha.ties hfl (hpm.nodup_iff.mpr (us_nodup _)) found.length (Nat.le_refl _)
  have e : rot found found.length = found := by simp [rot]
  rw [e, hal, List.take_length] at h
  exact h
theorem ixd_tupx {X : Cx} {d : D} {xs : List D} {i : Int} (h : atI xs i = some d) : IxD X (.tupx xs) (.int i) d := fun value slice pins s σ H x y v u Q I rx ry ⟨m, hm, h1, h2, k⟩ hs => by
  cases h1 with
  | tupx s1 r1 =>
    cases h2
    obtain ⟨z, hz, rz⟩ := atI_rp r1 h
    exact ix_tup value slice pins s σ H _ _ v u Q I rx ry ⟨_, _, _, z, rfl, rfl, (hid_sub m H).sqT s1, hz, k z H (Sub.refl H) rz⟩ hs
def sLorder : PSp := fun ds Q => ∃ as, ds = [.tup (SL as)] ∧ Arrs as ∧ ∀ row, Row as row as → row.length ≤ 10 → Q (.str (S row))
end Pdl
namespace Pdl
open PySem L2 PyProof.Rows
local macro_rules | `(tactic| walk_at "xv") => `(tactic| first | ((with_reducible show XE _ _ (Expr.Name (Str.ofString "k") _) _ _); (first | refine xe_var (i := 0) rfl (.inl rfl) rfl ?_ | refine xe_var (i := 0) rfl (.inr (.inl rfl)) rfl ?_ | refine xe_var (i := 0) rfl (.inr (.inr rfl)) rfl ?_)) | ((with_reducible show XE _ _ (Expr.Name (Str.ofString "self") _) _ _); (first | refine xe_var (i := 0) rfl (.inl rfl) rfl ?_ | refine xe_var (i := 0) rfl (.inr (.inl rfl)) rfl ?_ | refine xe_var (i := 0) rfl (.inr (.inr rfl)) rfl ?_)) | ((with_reducible show XE _ _ (Expr.Name (Str.ofString "given") _) _ _); (first | refine xe_var (i := 1) rfl (.inl rfl) rfl ?_ | refine xe_var (i := 1) rfl (.inr (.inl rfl)) rfl ?_ | refine xe_var (i := 1) rfl (.inr (.inr rfl)) rfl ?_)) | ((with_reducible show XE _ _ (Expr.Name (Str.ofString "index") _) _ _); (first | refine xe_var (i := 1) rfl (.inl rfl) rfl ?_ | refine xe_var (i := 1) rfl (.inr (.inl rfl)) rfl ?_ | refine xe_var (i := 1) rfl (.inr (.inr rfl)) rfl ?_ | refine xe_var (i := 2) rfl (.inl rfl) rfl ?_ | refine xe_var (i := 2) rfl (.inr (.inl rfl)) rfl ?_ | refine xe_var (i := 2) rfl (.inr (.inr rfl)) rfl ?_ | refine xe_var (i := 4) rfl (.inl rfl) rfl ?_ | refine xe_var (i := 4) rfl (.inr (.inl rfl)) rfl ?_ | refine xe_var (i := 4) rfl (.inr (.inr rfl)) rfl ?_)) | ((with_reducible show XE _ _ (Expr.Name (Str.ofString "value") _) _ _); (first | refine xe_var (i := 0) rfl (.inl rfl) rfl ?_ | refine xe_var (i := 0) rfl (.inr (.inl rfl)) rfl ?_ | refine xe_var (i := 0) rfl (.inr (.inr rfl)) rfl ?_ | refine xe_var (i := 1) rfl (.inl rfl) rfl ?_ | refine xe_var (i := 1) rfl (.inr (.inl rfl)) rfl ?_ | refine xe_var (i := 1) rfl (.inr (.inr rfl)) rfl ?_)) | ((with_reducible show XE _ _ (Expr.Name (Str.ofString "one") _) _ _); (first | refine xe_var (i := 0) rfl (.inl rfl) rfl ?_ | refine xe_var (i := 0) rfl (.inr (.inl rfl)) rfl ?_ | refine xe_var (i := 0) rfl (.inr (.inr rfl)) rfl ?_ | refine xe_var (i := 1) rfl (.inl rfl) rfl ?_ | refine xe_var (i := 1) rfl (.inr (.inl rfl)) rfl ?_ | refine xe_var (i := 1) rfl (.inr (.inr rfl)) rfl ?_ | refine xe_var (i := 7) rfl (.inl rfl) rfl ?_ | refine xe_var (i := 7) rfl (.inr (.inl rfl)) rfl ?_ | refine xe_var (i := 7) rfl (.inr (.inr rfl)) rfl ?_)) | ((with_reducible show XE _ _ (Expr.Name (Str.ofString "other") _) _ _); (first | refine xe_var (i := 1) rfl (.inl rfl) rfl ?_ | refine xe_var (i := 1) rfl (.inr (.inl rfl)) rfl ?_ | refine xe_var (i := 1) rfl (.inr (.inr rfl)) rfl ?_ | refine xe_var (i := 2) rfl (.inl rfl) rfl ?_ | refine xe_var (i := 2) rfl (.inr (.inl rfl)) rfl ?_ | refine xe_var (i := 2) rfl (.inr (.inr rfl)) rfl ?_ | refine xe_var (i := 4) rfl (.inl rfl) rfl ?_ | refine xe_var (i := 4) rfl (.inr (.inl rfl)) rfl ?_ | refine xe_var (i := 4) rfl (.inr (.inr rfl)) rfl ?_ | refine xe_var (i := 6) rfl (.inl rfl) rfl ?_ | refine xe_var (i := 6) rfl (.inr (.inl rfl)) rfl ?_ | refine xe_var (i := 6) rfl (.inr (.inr rfl)) rfl ?_)) | ((with_reducible show XE _ _ (Expr.Name (Str.ofString "ties") _) _ _); (first | refine xe_var (i := 0) rfl (.inl rfl) rfl ?_ | refine xe_var (i := 0) rfl (.inr (.inl rfl)) rfl ?_ | refine xe_var (i := 0) rfl (.inr (.inr rfl)) rfl ?_ | refine xe_var (i := 1) rfl (.inl rfl) rfl ?_ | refine xe_var (i := 1) rfl (.inr (.inl rfl)) rfl ?_ | refine xe_var (i := 1) rfl (.inr (.inr rfl)) rfl ?_)) | ((with_reducible show XE _ _ (Expr.Name (Str.ofString "places") _) _ _); (first | refine xe_var (i := 1) rfl (.inl rfl) rfl ?_ | refine xe_var (i := 1) rfl (.inr (.inl rfl)) rfl ?_ | refine xe_var (i := 1) rfl (.inr (.inr rfl)) rfl ?_ | refine xe_var (i := 2) rfl (.inl rfl) rfl ?_ | refine xe_var (i := 2) rfl (.inr (.inl rfl)) rfl ?_ | refine xe_var (i := 2) rfl (.inr (.inr rfl)) rfl ?_)) | ((with_reducible show XE _ _ (Expr.Name (Str.ofString "met") _) _ _); (first | refine xe_var (i := 2) rfl (.inl rfl) rfl ?_ | refine xe_var (i := 2) rfl (.inr (.inl rfl)) rfl ?_ | refine xe_var (i := 2) rfl (.inr (.inr rfl)) rfl ?_)) | ((with_reducible show XE _ _ (Expr.Name (Str.ofString "later") _) _ _); (first | refine xe_var (i := 2) rfl (.inl rfl) rfl ?_ | refine xe_var (i := 2) rfl (.inr (.inl rfl)) rfl ?_ | refine xe_var (i := 2) rfl (.inr (.inr rfl)) rfl ?_ | refine xe_var (i := 3) rfl (.inl rfl) rfl ?_ | refine xe_var (i := 3) rfl (.inr (.inl rfl)) rfl ?_ | refine xe_var (i := 3) rfl (.inr (.inr rfl)) rfl ?_)) | ((with_reducible show XE _ _ (Expr.Name (Str.ofString "tie") _) _ _); (first | refine xe_var (i := 3) rfl (.inl rfl) rfl ?_ | refine xe_var (i := 3) rfl (.inr (.inl rfl)) rfl ?_ | refine xe_var (i := 3) rfl (.inr (.inr rfl)) rfl ?_ | refine xe_var (i := 4) rfl (.inl rfl) rfl ?_ | refine xe_var (i := 4) rfl (.inr (.inl rfl)) rfl ?_ | refine xe_var (i := 4) rfl (.inr (.inr rfl)) rfl ?_)) | ((with_reducible show XE _ _ (Expr.Name (Str.ofString "text") _) _ _); (first | refine xe_var (i := 0) rfl (.inl rfl) rfl ?_ | refine xe_var (i := 0) rfl (.inr (.inl rfl)) rfl ?_ | refine xe_var (i := 0) rfl (.inr (.inr rfl)) rfl ?_ | refine xe_var (i := 1) rfl (.inl rfl) rfl ?_ | refine xe_var (i := 1) rfl (.inr (.inl rfl)) rfl ?_ | refine xe_var (i := 1) rfl (.inr (.inr rfl)) rfl ?_)) | ((with_reducible show XE _ _ (Expr.Name (Str.ofString "cls") _) _ _); (first | refine xe_var (i := 0) rfl (.inl rfl) rfl ?_ | refine xe_var (i := 0) rfl (.inr (.inl rfl)) rfl ?_ | refine xe_var (i := 0) rfl (.inr (.inr rfl)) rfl ?_)) | ((with_reducible show XE _ _ (Expr.Name (Str.ofString "found") _) _ _); (first | refine xe_var (i := 2) rfl (.inl rfl) rfl ?_ | refine xe_var (i := 2) rfl (.inr (.inl rfl)) rfl ?_ | refine xe_var (i := 2) rfl (.inr (.inr rfl)) rfl ?_)) | ((with_reducible show XE _ _ (Expr.Name (Str.ofString "place") _) _ _); (first | refine xe_var (i := 1) rfl (.inl rfl) rfl ?_ | refine xe_var (i := 1) rfl (.inr (.inl rfl)) rfl ?_ | refine xe_var (i := 1) rfl (.inr (.inr rfl)) rfl ?_ | refine xe_var (i := 2) rfl (.inl rfl) rfl ?_ | refine xe_var (i := 2) rfl (.inr (.inl rfl)) rfl ?_ | refine xe_var (i := 2) rfl (.inr (.inr rfl)) rfl ?_ | refine xe_var (i := 6) rfl (.inl rfl) rfl ?_ | refine xe_var (i := 6) rfl (.inr (.inl rfl)) rfl ?_ | refine xe_var (i := 6) rfl (.inr (.inr rfl)) rfl ?_)) | ((with_reducible show XE _ _ (Expr.Name (Str.ofString "pair") _) _ _); (first | refine xe_var (i := 1) rfl (.inl rfl) rfl ?_ | refine xe_var (i := 1) rfl (.inr (.inl rfl)) rfl ?_ | refine xe_var (i := 1) rfl (.inr (.inr rfl)) rfl ?_)) | ((with_reducible show XE _ _ (Expr.Name (Str.ofString "left") _) _ _); (first | refine xe_var (i := 1) rfl (.inl rfl) rfl ?_ | refine xe_var (i := 1) rfl (.inr (.inl rfl)) rfl ?_ | refine xe_var (i := 1) rfl (.inr (.inr rfl)) rfl ?_ | refine xe_var (i := 2) rfl (.inl rfl) rfl ?_ | refine xe_var (i := 2) rfl (.inr (.inl rfl)) rfl ?_ | refine xe_var (i := 2) rfl (.inr (.inr rfl)) rfl ?_)) | ((with_reducible show XE _ _ (Expr.Name (Str.ofString "web") _) _ _); (first | refine xe_var (i := 0) rfl (.inl rfl) rfl ?_ | refine xe_var (i := 0) rfl (.inr (.inl rfl)) rfl ?_ | refine xe_var (i := 0) rfl (.inr (.inr rfl)) rfl ?_)) | ((with_reducible show XE _ _ (Expr.Name (Str.ofString "arrows") _) _ _); (first | refine xe_var (i := 0) rfl (.inl rfl) rfl ?_ | refine xe_var (i := 0) rfl (.inr (.inl rfl)) rfl ?_ | refine xe_var (i := 0) rfl (.inr (.inr rfl)) rfl ?_ | refine xe_var (i := 1) rfl (.inl rfl) rfl ?_ | refine xe_var (i := 1) rfl (.inr (.inl rfl)) rfl ?_ | refine xe_var (i := 1) rfl (.inr (.inr rfl)) rfl ?_)) | ((with_reducible show XE _ _ (Expr.Name (Str.ofString "arrow") _) _ _); (first | refine xe_var (i := 0) rfl (.inl rfl) rfl ?_ | refine xe_var (i := 0) rfl (.inr (.inl rfl)) rfl ?_ | refine xe_var (i := 0) rfl (.inr (.inr rfl)) rfl ?_ | refine xe_var (i := 1) rfl (.inl rfl) rfl ?_ | refine xe_var (i := 1) rfl (.inr (.inl rfl)) rfl ?_ | refine xe_var (i := 1) rfl (.inr (.inr rfl)) rfl ?_ | refine xe_var (i := 2) rfl (.inl rfl) rfl ?_ | refine xe_var (i := 2) rfl (.inr (.inl rfl)) rfl ?_ | refine xe_var (i := 2) rfl (.inr (.inr rfl)) rfl ?_ | refine xe_var (i := 3) rfl (.inl rfl) rfl ?_ | refine xe_var (i := 3) rfl (.inr (.inl rfl)) rfl ?_ | refine xe_var (i := 3) rfl (.inr (.inr rfl)) rfl ?_ | refine xe_var (i := 4) rfl (.inl rfl) rfl ?_ | refine xe_var (i := 4) rfl (.inr (.inl rfl)) rfl ?_ | refine xe_var (i := 4) rfl (.inr (.inr rfl)) rfl ?_ | refine xe_var (i := 5) rfl (.inl rfl) rfl ?_ | refine xe_var (i := 5) rfl (.inr (.inl rfl)) rfl ?_ | refine xe_var (i := 5) rfl (.inr (.inr rfl)) rfl ?_)) | ((with_reducible show XE _ _ (Expr.Name (Str.ofString "row") _) _ _); (first | refine xe_var (i := 1) rfl (.inl rfl) rfl ?_ | refine xe_var (i := 1) rfl (.inr (.inl rfl)) rfl ?_ | refine xe_var (i := 1) rfl (.inr (.inr rfl)) rfl ?_)) | ((with_reducible show XE _ _ (Expr.Name (Str.ofString "here") _) _ _); (first | refine xe_var (i := 3) rfl (.inl rfl) rfl ?_ | refine xe_var (i := 3) rfl (.inr (.inl rfl)) rfl ?_ | refine xe_var (i := 3) rfl (.inr (.inr rfl)) rfl ?_)) | ((with_reducible show XE _ _ (Expr.Name (Str.ofString "way") _) _ _); (first | refine xe_var (i := 0) rfl (.inl rfl) rfl ?_ | refine xe_var (i := 0) rfl (.inr (.inl rfl)) rfl ?_ | refine xe_var (i := 0) rfl (.inr (.inr rfl)) rfl ?_)) | ((with_reducible show XE _ _ (Expr.Name (Str.ofString "slip") _) _ _); (first | refine xe_var (i := 2) rfl (.inl rfl) rfl ?_ | refine xe_var (i := 2) rfl (.inr (.inl rfl)) rfl ?_ | refine xe_var (i := 2) rfl (.inr (.inr rfl)) rfl ?_)) | ((with_reducible show XE _ _ (Expr.Name (Str.ofString "others") _) _ _); (first | refine xe_var (i := 1) rfl (.inl rfl) rfl ?_ | refine xe_var (i := 1) rfl (.inr (.inl rfl)) rfl ?_ | refine xe_var (i := 1) rfl (.inr (.inr rfl)) rfl ?_)) | ((with_reducible show XE _ _ (Expr.Name (Str.ofString "turn") _) _ _); (first | refine xe_var (i := 3) rfl (.inl rfl) rfl ?_ | refine xe_var (i := 3) rfl (.inr (.inl rfl)) rfl ?_ | refine xe_var (i := 3) rfl (.inr (.inr rfl)) rfl ?_)) | ((with_reducible show XE _ _ (Expr.Name (Str.ofString "known") _) _ _); (first | refine xe_var (i := 4) rfl (.inl rfl) rfl ?_ | refine xe_var (i := 4) rfl (.inr (.inl rfl)) rfl ?_ | refine xe_var (i := 4) rfl (.inr (.inr rfl)) rfl ?_)) | ((with_reducible show XE _ _ (Expr.Name (Str.ofString "two") _) _ _); (first | refine xe_var (i := 8) rfl (.inl rfl) rfl ?_ | refine xe_var (i := 8) rfl (.inr (.inl rfl)) rfl ?_ | refine xe_var (i := 8) rfl (.inr (.inr rfl)) rfl ?_)) | ((with_reducible show XE _ _ (Expr.Name (Str.ofString "near") _) _ _); (first | refine xe_var (i := 9) rfl (.inl rfl) rfl ?_ | refine xe_var (i := 9) rfl (.inr (.inl rfl)) rfl ?_ | refine xe_var (i := 9) rfl (.inr (.inr rfl)) rfl ?_)) | ((with_reducible show XE _ _ (Expr.Name (Str.ofString "far") _) _ _); (first | refine xe_var (i := 10) rfl (.inl rfl) rfl ?_ | refine xe_var (i := 10) rfl (.inr (.inl rfl)) rfl ?_ | refine xe_var (i := 10) rfl (.inr (.inr rfl)) rfl ?_)) | ((with_reducible show XE _ _ (Expr.Name (Str.ofString "base") _) _ _); (first | refine xe_var (i := 11) rfl (.inl rfl) rfl ?_ | refine xe_var (i := 11) rfl (.inr (.inl rfl)) rfl ?_ | refine xe_var (i := 11) rfl (.inr (.inr rfl)) rfl ?_)) | ((with_reducible show XE _ _ (Expr.Name (Str.ofString "entry") _) _ _); (first | refine xe_var (i := 3) rfl (.inl rfl) rfl ?_ | refine xe_var (i := 3) rfl (.inr (.inl rfl)) rfl ?_ | refine xe_var (i := 3) rfl (.inr (.inr rfl)) rfl ?_ | refine xe_var (i := 5) rfl (.inl rfl) rfl ?_ | refine xe_var (i := 5) rfl (.inr (.inl rfl)) rfl ?_ | refine xe_var (i := 5) rfl (.inr (.inr rfl)) rfl ?_ | refine xe_var (i := 12) rfl (.inl rfl) rfl ?_ | refine xe_var (i := 12) rfl (.inr (.inl rfl)) rfl ?_ | refine xe_var (i := 12) rfl (.inr (.inr rfl)) rfl ?_)) | ((with_reducible show XE _ _ (Expr.Name (Str.ofString "numbers") _) _ _); (first | refine xe_var (i := 2) rfl (.inl rfl) rfl ?_ | refine xe_var (i := 2) rfl (.inr (.inl rfl)) rfl ?_ | refine xe_var (i := 2) rfl (.inr (.inr rfl)) rfl ?_)) | ((with_reducible show XE _ _ (Expr.Name (Str.ofString "other_way") _) _ _); (first | refine xe_var (i := 1) rfl (.inl rfl) rfl ?_ | refine xe_var (i := 1) rfl (.inr (.inl rfl)) rfl ?_ | refine xe_var (i := 1) rfl (.inr (.inr rfl)) rfl ?_)) | ((with_reducible show XE _ _ (Expr.Name (Str.ofString "least") _) _ _); (first | refine xe_var (i := 3) rfl (.inl rfl) rfl ?_ | refine xe_var (i := 3) rfl (.inr (.inl rfl)) rfl ?_ | refine xe_var (i := 3) rfl (.inr (.inr rfl)) rfl ?_)) | ((with_reducible show XE _ _ (Expr.Name (Str.ofString "told") _) _ _); (first | refine xe_var (i := 2) rfl (.inl rfl) rfl ?_ | refine xe_var (i := 2) rfl (.inr (.inl rfl)) rfl ?_ | refine xe_var (i := 2) rfl (.inr (.inr rfl)) rfl ?_ | refine xe_var (i := 4) rfl (.inl rfl) rfl ?_ | refine xe_var (i := 4) rfl (.inr (.inl rfl)) rfl ?_ | refine xe_var (i := 4) rfl (.inr (.inr rfl)) rfl ?_)) | ((with_reducible show XE _ _ (Expr.Name (Str.ofString "number") _) _ _); (first | refine xe_var (i := 7) rfl (.inl rfl) rfl ?_ | refine xe_var (i := 7) rfl (.inr (.inl rfl)) rfl ?_ | refine xe_var (i := 7) rfl (.inr (.inr rfl)) rfl ?_)) | ((with_reducible show XE _ _ (Expr.Name (Str.ofString "_law_script") _) _ _); (first | refine xe_var (i := 0) rfl (.inl rfl) rfl ?_ | refine xe_var (i := 0) rfl (.inr (.inl rfl)) rfl ?_ | refine xe_var (i := 0) rfl (.inr (.inr rfl)) rfl ?_)) | ((with_reducible show XE _ _ (Expr.Name (Str.ofString "_law_k") _) _ _); (first | refine xe_var (i := 1) rfl (.inl rfl) rfl ?_ | refine xe_var (i := 1) rfl (.inr (.inl rfl)) rfl ?_ | refine xe_var (i := 1) rfl (.inr (.inr rfl)) rfl ?_ | refine xe_var (i := 4) rfl (.inl rfl) rfl ?_ | refine xe_var (i := 4) rfl (.inr (.inl rfl)) rfl ?_ | refine xe_var (i := 4) rfl (.inr (.inr rfl)) rfl ?_ | refine xe_var (i := 5) rfl (.inl rfl) rfl ?_ | refine xe_var (i := 5) rfl (.inr (.inl rfl)) rfl ?_ | refine xe_var (i := 5) rfl (.inr (.inr rfl)) rfl ?_ | refine xe_var (i := 13) rfl (.inl rfl) rfl ?_ | refine xe_var (i := 13) rfl (.inr (.inl rfl)) rfl ?_ | refine xe_var (i := 13) rfl (.inr (.inr rfl)) rfl ?_)) | ((with_reducible show XE _ _ (Expr.Name (Str.ofString "_law_churned") _) _ _); (first | refine xe_var (i := 2) rfl (.inl rfl) rfl ?_ | refine xe_var (i := 2) rfl (.inr (.inl rfl)) rfl ?_ | refine xe_var (i := 2) rfl (.inr (.inr rfl)) rfl ?_)) | ((with_reducible show XE _ _ (Expr.Name (Str.ofString "_law_cell") _) _ _); (first | refine xe_var (i := 3) rfl (.inl rfl) rfl ?_ | refine xe_var (i := 3) rfl (.inr (.inl rfl)) rfl ?_ | refine xe_var (i := 3) rfl (.inr (.inr rfl)) rfl ?_)) | ((with_reducible show XE _ _ (Expr.Name (Str.ofString "_law_base") _) _ _); (first | refine xe_var (i := 4) rfl (.inl rfl) rfl ?_ | refine xe_var (i := 4) rfl (.inr (.inl rfl)) rfl ?_ | refine xe_var (i := 4) rfl (.inr (.inr rfl)) rfl ?_)) | ((with_reducible show XE _ _ (Expr.Name (Str.ofString "_law_digits") _) _ _); (first | refine xe_var (i := 5) rfl (.inl rfl) rfl ?_ | refine xe_var (i := 5) rfl (.inr (.inl rfl)) rfl ?_ | refine xe_var (i := 5) rfl (.inr (.inr rfl)) rfl ?_)) | ((with_reducible show XE _ _ (Expr.Name (Str.ofString "_law_jar_here") _) _ _); (first | refine xe_var (i := 0) rfl (.inl rfl) rfl ?_ | refine xe_var (i := 0) rfl (.inr (.inl rfl)) rfl ?_ | refine xe_var (i := 0) rfl (.inr (.inr rfl)) rfl ?_)) | ((with_reducible show XE _ _ (Expr.Name (Str.ofString "_law_wide") _) _ _); (first | refine xe_var (i := 1) rfl (.inl rfl) rfl ?_ | refine xe_var (i := 1) rfl (.inr (.inl rfl)) rfl ?_ | refine xe_var (i := 1) rfl (.inr (.inr rfl)) rfl ?_)) | ((with_reducible show XE _ _ (Expr.Name (Str.ofString "_law_digit") _) _ _); (first | refine xe_var (i := 2) rfl (.inl rfl) rfl ?_ | refine xe_var (i := 2) rfl (.inr (.inl rfl)) rfl ?_ | refine xe_var (i := 2) rfl (.inr (.inr rfl)) rfl ?_)) | ((with_reducible show XE _ _ (Expr.Name (Str.ofString "_law_seed") _) _ _); (first | refine xe_var (i := 3) rfl (.inl rfl) rfl ?_ | refine xe_var (i := 3) rfl (.inr (.inl rfl)) rfl ?_ | refine xe_var (i := 3) rfl (.inr (.inr rfl)) rfl ?_)) | ((with_reducible show XE _ _ (Expr.Name (Str.ofString "_law_menu") _) _ _); (first | refine xe_var (i := 1) rfl (.inl rfl) rfl ?_ | refine xe_var (i := 1) rfl (.inr (.inl rfl)) rfl ?_ | refine xe_var (i := 1) rfl (.inr (.inr rfl)) rfl ?_)) | ((with_reducible show XE _ _ (Expr.Name (Str.ofString "_law_at") _) _ _); (first | refine xe_var (i := 2) rfl (.inl rfl) rfl ?_ | refine xe_var (i := 2) rfl (.inr (.inl rfl)) rfl ?_ | refine xe_var (i := 2) rfl (.inr (.inr rfl)) rfl ?_)) | ((with_reducible show XE _ _ (Expr.Name (Str.ofString "_law_many") _) _ _); (first | refine xe_var (i := 1) rfl (.inl rfl) rfl ?_ | refine xe_var (i := 1) rfl (.inr (.inl rfl)) rfl ?_ | refine xe_var (i := 1) rfl (.inr (.inr rfl)) rfl ?_ | refine xe_var (i := 2) rfl (.inl rfl) rfl ?_ | refine xe_var (i := 2) rfl (.inr (.inl rfl)) rfl ?_ | refine xe_var (i := 2) rfl (.inr (.inr rfl)) rfl ?_)) | ((with_reducible show XE _ _ (Expr.Name (Str.ofString "_law_rest") _) _ _); (first | refine xe_var (i := 2) rfl (.inl rfl) rfl ?_ | refine xe_var (i := 2) rfl (.inr (.inl rfl)) rfl ?_ | refine xe_var (i := 2) rfl (.inr (.inr rfl)) rfl ?_ | refine xe_var (i := 3) rfl (.inl rfl) rfl ?_ | refine xe_var (i := 3) rfl (.inr (.inl rfl)) rfl ?_ | refine xe_var (i := 3) rfl (.inr (.inr rfl)) rfl ?_)) | ((with_reducible show XE _ _ (Expr.Name (Str.ofString "_law_found") _) _ _); (first | refine xe_var (i := 2) rfl (.inl rfl) rfl ?_ | refine xe_var (i := 2) rfl (.inr (.inl rfl)) rfl ?_ | refine xe_var (i := 2) rfl (.inr (.inr rfl)) rfl ?_ | refine xe_var (i := 3) rfl (.inl rfl) rfl ?_ | refine xe_var (i := 3) rfl (.inr (.inl rfl)) rfl ?_ | refine xe_var (i := 3) rfl (.inr (.inr rfl)) rfl ?_ | refine xe_var (i := 4) rfl (.inl rfl) rfl ?_ | refine xe_var (i := 4) rfl (.inr (.inl rfl)) rfl ?_ | refine xe_var (i := 4) rfl (.inr (.inr rfl)) rfl ?_)) | ((with_reducible show XE _ _ (Expr.Name (Str.ofString "_law_one") _) _ _); (first | refine xe_var (i := 0) rfl (.inl rfl) rfl ?_ | refine xe_var (i := 0) rfl (.inr (.inl rfl)) rfl ?_ | refine xe_var (i := 0) rfl (.inr (.inr rfl)) rfl ?_ | refine xe_var (i := 7) rfl (.inl rfl) rfl ?_ | refine xe_var (i := 7) rfl (.inr (.inl rfl)) rfl ?_ | refine xe_var (i := 7) rfl (.inr (.inr rfl)) rfl ?_)) | ((with_reducible show XE _ _ (Expr.Name (Str.ofString "_law_other") _) _ _); (first | refine xe_var (i := 1) rfl (.inl rfl) rfl ?_ | refine xe_var (i := 1) rfl (.inr (.inl rfl)) rfl ?_ | refine xe_var (i := 1) rfl (.inr (.inr rfl)) rfl ?_ | refine xe_var (i := 10) rfl (.inl rfl) rfl ?_ | refine xe_var (i := 10) rfl (.inr (.inl rfl)) rfl ?_ | refine xe_var (i := 10) rfl (.inr (.inr rfl)) rfl ?_)) | ((with_reducible show XE _ _ (Expr.Name (Str.ofString "_law_most") _) _ _); (first | refine xe_var (i := 1) rfl (.inl rfl) rfl ?_ | refine xe_var (i := 1) rfl (.inr (.inl rfl)) rfl ?_ | refine xe_var (i := 1) rfl (.inr (.inr rfl)) rfl ?_ | refine xe_var (i := 2) rfl (.inl rfl) rfl ?_ | refine xe_var (i := 2) rfl (.inr (.inl rfl)) rfl ?_ | refine xe_var (i := 2) rfl (.inr (.inr rfl)) rfl ?_)) | ((with_reducible show XE _ _ (Expr.Name (Str.ofString "_law_glyphs") _) _ _); (first | refine xe_var (i := 2) rfl (.inl rfl) rfl ?_ | refine xe_var (i := 2) rfl (.inr (.inl rfl)) rfl ?_ | refine xe_var (i := 2) rfl (.inr (.inr rfl)) rfl ?_ | refine xe_var (i := 3) rfl (.inl rfl) rfl ?_ | refine xe_var (i := 3) rfl (.inr (.inl rfl)) rfl ?_ | refine xe_var (i := 3) rfl (.inr (.inr rfl)) rfl ?_ | refine xe_var (i := 4) rfl (.inl rfl) rfl ?_ | refine xe_var (i := 4) rfl (.inr (.inl rfl)) rfl ?_ | refine xe_var (i := 4) rfl (.inr (.inr rfl)) rfl ?_)) | ((with_reducible show XE _ _ (Expr.Name (Str.ofString "_law_every") _) _ _); (first | refine xe_var (i := 6) rfl (.inl rfl) rfl ?_ | refine xe_var (i := 6) rfl (.inr (.inl rfl)) rfl ?_ | refine xe_var (i := 6) rfl (.inr (.inr rfl)) rfl ?_)) | ((with_reducible show XE _ _ (Expr.Name (Str.ofString "_law_turn") _) _ _); (first | refine xe_var (i := 1) rfl (.inl rfl) rfl ?_ | refine xe_var (i := 1) rfl (.inr (.inl rfl)) rfl ?_ | refine xe_var (i := 1) rfl (.inr (.inr rfl)) rfl ?_ | refine xe_var (i := 3) rfl (.inl rfl) rfl ?_ | refine xe_var (i := 3) rfl (.inr (.inl rfl)) rfl ?_ | refine xe_var (i := 3) rfl (.inr (.inr rfl)) rfl ?_ | refine xe_var (i := 5) rfl (.inl rfl) rfl ?_ | refine xe_var (i := 5) rfl (.inr (.inl rfl)) rfl ?_ | refine xe_var (i := 5) rfl (.inr (.inr rfl)) rfl ?_ | refine xe_var (i := 8) rfl (.inl rfl) rfl ?_ | refine xe_var (i := 8) rfl (.inr (.inl rfl)) rfl ?_ | refine xe_var (i := 8) rfl (.inr (.inr rfl)) rfl ?_)) | ((with_reducible show XE _ _ (Expr.Name (Str.ofString "_law_tie") _) _ _); (first | refine xe_var (i := 5) rfl (.inl rfl) rfl ?_ | refine xe_var (i := 5) rfl (.inr (.inl rfl)) rfl ?_ | refine xe_var (i := 5) rfl (.inr (.inr rfl)) rfl ?_ | refine xe_var (i := 9) rfl (.inl rfl) rfl ?_ | refine xe_var (i := 9) rfl (.inr (.inl rfl)) rfl ?_ | refine xe_var (i := 9) rfl (.inr (.inr rfl)) rfl ?_)) | ((with_reducible show XE _ _ (Expr.Name (Str.ofString "_law_ties_here") _) _ _); (first | refine xe_var (i := 0) rfl (.inl rfl) rfl ?_ | refine xe_var (i := 0) rfl (.inr (.inl rfl)) rfl ?_ | refine xe_var (i := 0) rfl (.inr (.inr rfl)) rfl ?_ | refine xe_var (i := 1) rfl (.inl rfl) rfl ?_ | refine xe_var (i := 1) rfl (.inr (.inl rfl)) rfl ?_ | refine xe_var (i := 1) rfl (.inr (.inr rfl)) rfl ?_ | refine xe_var (i := 2) rfl (.inl rfl) rfl ?_ | refine xe_var (i := 2) rfl (.inr (.inl rfl)) rfl ?_ | refine xe_var (i := 2) rfl (.inr (.inr rfl)) rfl ?_)) | ((with_reducible show XE _ _ (Expr.Name (Str.ofString "_law_order_here") _) _ _); (first | refine xe_var (i := 4) rfl (.inl rfl) rfl ?_ | refine xe_var (i := 4) rfl (.inr (.inl rfl)) rfl ?_ | refine xe_var (i := 4) rfl (.inr (.inr rfl)) rfl ?_)) | ((with_reducible show XE _ _ (Expr.Name (Str.ofString "_law_arrows_here") _) _ _); (first | refine xe_var (i := 0) rfl (.inl rfl) rfl ?_ | refine xe_var (i := 0) rfl (.inr (.inl rfl)) rfl ?_ | refine xe_var (i := 0) rfl (.inr (.inr rfl)) rfl ?_ | refine xe_var (i := 1) rfl (.inl rfl) rfl ?_ | refine xe_var (i := 1) rfl (.inr (.inl rfl)) rfl ?_ | refine xe_var (i := 1) rfl (.inr (.inr rfl)) rfl ?_ | refine xe_var (i := 4) rfl (.inl rfl) rfl ?_ | refine xe_var (i := 4) rfl (.inr (.inl rfl)) rfl ?_ | refine xe_var (i := 4) rfl (.inr (.inr rfl)) rfl ?_)) | ((with_reducible show XE _ _ (Expr.Name (Str.ofString "_law_glyph") _) _ _); (first | refine xe_var (i := 1) rfl (.inl rfl) rfl ?_ | refine xe_var (i := 1) rfl (.inr (.inl rfl)) rfl ?_ | refine xe_var (i := 1) rfl (.inr (.inr rfl)) rfl ?_ | refine xe_var (i := 4) rfl (.inl rfl) rfl ?_ | refine xe_var (i := 4) rfl (.inr (.inl rfl)) rfl ?_ | refine xe_var (i := 4) rfl (.inr (.inr rfl)) rfl ?_ | refine xe_var (i := 6) rfl (.inl rfl) rfl ?_ | refine xe_var (i := 6) rfl (.inr (.inl rfl)) rfl ?_ | refine xe_var (i := 6) rfl (.inr (.inr rfl)) rfl ?_)) | ((with_reducible show XE _ _ (Expr.Name (Str.ofString "_law_arrow") _) _ _); (first | refine xe_var (i := 2) rfl (.inl rfl) rfl ?_ | refine xe_var (i := 2) rfl (.inr (.inl rfl)) rfl ?_ | refine xe_var (i := 2) rfl (.inr (.inr rfl)) rfl ?_ | refine xe_var (i := 5) rfl (.inl rfl) rfl ?_ | refine xe_var (i := 5) rfl (.inr (.inl rfl)) rfl ?_ | refine xe_var (i := 5) rfl (.inr (.inr rfl)) rfl ?_)) | ((with_reducible show XE _ _ (Expr.Name (Str.ofString "_law_row") _) _ _); (first | refine xe_var (i := 3) rfl (.inl rfl) rfl ?_ | refine xe_var (i := 3) rfl (.inr (.inl rfl)) rfl ?_ | refine xe_var (i := 3) rfl (.inr (.inr rfl)) rfl ?_)) | ((with_reducible show XE _ _ (Expr.Name (Str.ofString "_law_each") _) _ _); (first | refine xe_var (i := 7) rfl (.inl rfl) rfl ?_ | refine xe_var (i := 7) rfl (.inr (.inl rfl)) rfl ?_ | refine xe_var (i := 7) rfl (.inr (.inr rfl)) rfl ?_ | refine xe_var (i := 14) rfl (.inl rfl) rfl ?_ | refine xe_var (i := 14) rfl (.inr (.inl rfl)) rfl ?_ | refine xe_var (i := 14) rfl (.inr (.inr rfl)) rfl ?_)) | ((with_reducible show XE _ _ (Expr.Name (Str.ofString "_law_left") _) _ _); (first | refine xe_var (i := 1) rfl (.inl rfl) rfl ?_ | refine xe_var (i := 1) rfl (.inr (.inl rfl)) rfl ?_ | refine xe_var (i := 1) rfl (.inr (.inr rfl)) rfl ?_)) | ((with_reducible show XE _ _ (Expr.Name (Str.ofString "_law_mine") _) _ _); (first | refine xe_var (i := 5) rfl (.inl rfl) rfl ?_ | refine xe_var (i := 5) rfl (.inr (.inl rfl)) rfl ?_ | refine xe_var (i := 5) rfl (.inr (.inr rfl)) rfl ?_)) | ((with_reducible show XE _ _ (Expr.Name (Str.ofString "_law_later") _) _ _); (first | refine xe_var (i := 6) rfl (.inl rfl) rfl ?_ | refine xe_var (i := 6) rfl (.inr (.inl rfl)) rfl ?_ | refine xe_var (i := 6) rfl (.inr (.inr rfl)) rfl ?_)) | ((with_reducible show XE _ _ (Expr.Name (Str.ofString "_law_third") _) _ _); (first | refine xe_var (i := 7) rfl (.inl rfl) rfl ?_ | refine xe_var (i := 7) rfl (.inr (.inl rfl)) rfl ?_ | refine xe_var (i := 7) rfl (.inr (.inr rfl)) rfl ?_)) | ((with_reducible show XE _ _ (Expr.Name (Str.ofString "_law_mate") _) _ _); (first | refine xe_var (i := 8) rfl (.inl rfl) rfl ?_ | refine xe_var (i := 8) rfl (.inr (.inl rfl)) rfl ?_ | refine xe_var (i := 8) rfl (.inr (.inr rfl)) rfl ?_)) | ((with_reducible show XE _ _ (Expr.Name (Str.ofString "_law_last") _) _ _); (first | refine xe_var (i := 9) rfl (.inl rfl) rfl ?_ | refine xe_var (i := 9) rfl (.inr (.inl rfl)) rfl ?_ | refine xe_var (i := 9) rfl (.inr (.inr rfl)) rfl ?_)) | ((with_reducible show XE _ _ (Expr.Name (Str.ofString "_law_forth") _) _ _); (first | refine xe_var (i := 10) rfl (.inl rfl) rfl ?_ | refine xe_var (i := 10) rfl (.inr (.inl rfl)) rfl ?_ | refine xe_var (i := 10) rfl (.inr (.inr rfl)) rfl ?_)) | ((with_reducible show XE _ _ (Expr.Name (Str.ofString "_law_back") _) _ _); (first | refine xe_var (i := 11) rfl (.inl rfl) rfl ?_ | refine xe_var (i := 11) rfl (.inr (.inl rfl)) rfl ?_ | refine xe_var (i := 11) rfl (.inr (.inr rfl)) rfl ?_)) | ((with_reducible show XE _ _ (Expr.Name (Str.ofString "_law_sums") _) _ _); (first | refine xe_var (i := 12) rfl (.inl rfl) rfl ?_ | refine xe_var (i := 12) rfl (.inr (.inl rfl)) rfl ?_ | refine xe_var (i := 12) rfl (.inr (.inr rfl)) rfl ?_)))
local macro_rules | `(tactic| walk_at "xset") => `(tactic| first | ((with_reducible show XS _ _ (Stmt.Assign [Expr.Name (Str.ofString "k") _] _ _) _ _); (first | refine xs_set (i := 0) (by assumption) rfl (.inl rfl) ?_ | refine xs_set (i := 0) (by assumption) rfl (.inr rfl) ?_)) | ((with_reducible show XS _ _ (Stmt.Assign [Expr.Name (Str.ofString "self") _] _ _) _ _); (first | refine xs_set (i := 0) (by assumption) rfl (.inl rfl) ?_ | refine xs_set (i := 0) (by assumption) rfl (.inr rfl) ?_)) | ((with_reducible show XS _ _ (Stmt.Assign [Expr.Name (Str.ofString "given") _] _ _) _ _); (first | refine xs_set (i := 1) (by assumption) rfl (.inl rfl) ?_ | refine xs_set (i := 1) (by assumption) rfl (.inr rfl) ?_)) | ((with_reducible show XS _ _ (Stmt.Assign [Expr.Name (Str.ofString "index") _] _ _) _ _); (first | refine xs_set (i := 1) (by assumption) rfl (.inl rfl) ?_ | refine xs_set (i := 1) (by assumption) rfl (.inr rfl) ?_ | refine xs_set (i := 2) (by assumption) rfl (.inl rfl) ?_ | refine xs_set (i := 2) (by assumption) rfl (.inr rfl) ?_ | refine xs_set (i := 4) (by assumption) rfl (.inl rfl) ?_ | refine xs_set (i := 4) (by assumption) rfl (.inr rfl) ?_)) | ((with_reducible show XS _ _ (Stmt.Assign [Expr.Name (Str.ofString "value") _] _ _) _ _); (first | refine xs_set (i := 0) (by assumption) rfl (.inl rfl) ?_ | refine xs_set (i := 0) (by assumption) rfl (.inr rfl) ?_ | refine xs_set (i := 1) (by assumption) rfl (.inl rfl) ?_ | refine xs_set (i := 1) (by assumption) rfl (.inr rfl) ?_)) | ((with_reducible show XS _ _ (Stmt.Assign [Expr.Name (Str.ofString "one") _] _ _) _ _); (first | refine xs_set (i := 0) (by assumption) rfl (.inl rfl) ?_ | refine xs_set (i := 0) (by assumption) rfl (.inr rfl) ?_ | refine xs_set (i := 1) (by assumption) rfl (.inl rfl) ?_ | refine xs_set (i := 1) (by assumption) rfl (.inr rfl) ?_ | refine xs_set (i := 7) (by assumption) rfl (.inl rfl) ?_ | refine xs_set (i := 7) (by assumption) rfl (.inr rfl) ?_)) | ((with_reducible show XS _ _ (Stmt.Assign [Expr.Name (Str.ofString "other") _] _ _) _ _); (first | refine xs_set (i := 1) (by assumption) rfl (.inl rfl) ?_ | refine xs_set (i := 1) (by assumption) rfl (.inr rfl) ?_ | refine xs_set (i := 2) (by assumption) rfl (.inl rfl) ?_ | refine xs_set (i := 2) (by assumption) rfl (.inr rfl) ?_ | refine xs_set (i := 4) (by assumption) rfl (.inl rfl) ?_ | refine xs_set (i := 4) (by assumption) rfl (.inr rfl) ?_ | refine xs_set (i := 6) (by assumption) rfl (.inl rfl) ?_ | refine xs_set (i := 6) (by assumption) rfl (.inr rfl) ?_)) | ((with_reducible show XS _ _ (Stmt.Assign [Expr.Name (Str.ofString "ties") _] _ _) _ _); (first | refine xs_set (i := 0) (by assumption) rfl (.inl rfl) ?_ | refine xs_set (i := 0) (by assumption) rfl (.inr rfl) ?_ | refine xs_set (i := 1) (by assumption) rfl (.inl rfl) ?_ | refine xs_set (i := 1) (by assumption) rfl (.inr rfl) ?_)) | ((with_reducible show XS _ _ (Stmt.Assign [Expr.Name (Str.ofString "places") _] _ _) _ _); (first | refine xs_set (i := 1) (by assumption) rfl (.inl rfl) ?_ | refine xs_set (i := 1) (by assumption) rfl (.inr rfl) ?_ | refine xs_set (i := 2) (by assumption) rfl (.inl rfl) ?_ | refine xs_set (i := 2) (by assumption) rfl (.inr rfl) ?_)) | ((with_reducible show XS _ _ (Stmt.Assign [Expr.Name (Str.ofString "met") _] _ _) _ _); (first | refine xs_set (i := 2) (by assumption) rfl (.inl rfl) ?_ | refine xs_set (i := 2) (by assumption) rfl (.inr rfl) ?_)) | ((with_reducible show XS _ _ (Stmt.Assign [Expr.Name (Str.ofString "later") _] _ _) _ _); (first | refine xs_set (i := 2) (by assumption) rfl (.inl rfl) ?_ | refine xs_set (i := 2) (by assumption) rfl (.inr rfl) ?_ | refine xs_set (i := 3) (by assumption) rfl (.inl rfl) ?_ | refine xs_set (i := 3) (by assumption) rfl (.inr rfl) ?_)) | ((with_reducible show XS _ _ (Stmt.Assign [Expr.Name (Str.ofString "tie") _] _ _) _ _); (first | refine xs_set (i := 3) (by assumption) rfl (.inl rfl) ?_ | refine xs_set (i := 3) (by assumption) rfl (.inr rfl) ?_ | refine xs_set (i := 4) (by assumption) rfl (.inl rfl) ?_ | refine xs_set (i := 4) (by assumption) rfl (.inr rfl) ?_)) | ((with_reducible show XS _ _ (Stmt.Assign [Expr.Name (Str.ofString "text") _] _ _) _ _); (first | refine xs_set (i := 0) (by assumption) rfl (.inl rfl) ?_ | refine xs_set (i := 0) (by assumption) rfl (.inr rfl) ?_ | refine xs_set (i := 1) (by assumption) rfl (.inl rfl) ?_ | refine xs_set (i := 1) (by assumption) rfl (.inr rfl) ?_)) | ((with_reducible show XS _ _ (Stmt.Assign [Expr.Name (Str.ofString "cls") _] _ _) _ _); (first | refine xs_set (i := 0) (by assumption) rfl (.inl rfl) ?_ | refine xs_set (i := 0) (by assumption) rfl (.inr rfl) ?_)) | ((with_reducible show XS _ _ (Stmt.Assign [Expr.Name (Str.ofString "found") _] _ _) _ _); (first | refine xs_set (i := 2) (by assumption) rfl (.inl rfl) ?_ | refine xs_set (i := 2) (by assumption) rfl (.inr rfl) ?_)) | ((with_reducible show XS _ _ (Stmt.Assign [Expr.Name (Str.ofString "place") _] _ _) _ _); (first | refine xs_set (i := 1) (by assumption) rfl (.inl rfl) ?_ | refine xs_set (i := 1) (by assumption) rfl (.inr rfl) ?_ | refine xs_set (i := 2) (by assumption) rfl (.inl rfl) ?_ | refine xs_set (i := 2) (by assumption) rfl (.inr rfl) ?_ | refine xs_set (i := 6) (by assumption) rfl (.inl rfl) ?_ | refine xs_set (i := 6) (by assumption) rfl (.inr rfl) ?_)) | ((with_reducible show XS _ _ (Stmt.Assign [Expr.Name (Str.ofString "pair") _] _ _) _ _); (first | refine xs_set (i := 1) (by assumption) rfl (.inl rfl) ?_ | refine xs_set (i := 1) (by assumption) rfl (.inr rfl) ?_)) | ((with_reducible show XS _ _ (Stmt.Assign [Expr.Name (Str.ofString "left") _] _ _) _ _); (first | refine xs_set (i := 1) (by assumption) rfl (.inl rfl) ?_ | refine xs_set (i := 1) (by assumption) rfl (.inr rfl) ?_ | refine xs_set (i := 2) (by assumption) rfl (.inl rfl) ?_ | refine xs_set (i := 2) (by assumption) rfl (.inr rfl) ?_)) | ((with_reducible show XS _ _ (Stmt.Assign [Expr.Name (Str.ofString "web") _] _ _) _ _); (first | refine xs_set (i := 0) (by assumption) rfl (.inl rfl) ?_ | refine xs_set (i := 0) (by assumption) rfl (.inr rfl) ?_)) | ((with_reducible show XS _ _ (Stmt.Assign [Expr.Name (Str.ofString "arrows") _] _ _) _ _); (first | refine xs_set (i := 0) (by assumption) rfl (.inl rfl) ?_ | refine xs_set (i := 0) (by assumption) rfl (.inr rfl) ?_ | refine xs_set (i := 1) (by assumption) rfl (.inl rfl) ?_ | refine xs_set (i := 1) (by assumption) rfl (.inr rfl) ?_)) | ((with_reducible show XS _ _ (Stmt.Assign [Expr.Name (Str.ofString "arrow") _] _ _) _ _); (first | refine xs_set (i := 0) (by assumption) rfl (.inl rfl) ?_ | refine xs_set (i := 0) (by assumption) rfl (.inr rfl) ?_ | refine xs_set (i := 1) (by assumption) rfl (.inl rfl) ?_ | refine xs_set (i := 1) (by assumption) rfl (.inr rfl) ?_ | refine xs_set (i := 2) (by assumption) rfl (.inl rfl) ?_ | refine xs_set (i := 2) (by assumption) rfl (.inr rfl) ?_ | refine xs_set (i := 3) (by assumption) rfl (.inl rfl) ?_ | refine xs_set (i := 3) (by assumption) rfl (.inr rfl) ?_ | refine xs_set (i := 4) (by assumption) rfl (.inl rfl) ?_ | refine xs_set (i := 4) (by assumption) rfl (.inr rfl) ?_ | refine xs_set (i := 5) (by assumption) rfl (.inl rfl) ?_ | refine xs_set (i := 5) (by assumption) rfl (.inr rfl) ?_)) | ((with_reducible show XS _ _ (Stmt.Assign [Expr.Name (Str.ofString "row") _] _ _) _ _); (first | refine xs_set (i := 1) (by assumption) rfl (.inl rfl) ?_ | refine xs_set (i := 1) (by assumption) rfl (.inr rfl) ?_)) | ((with_reducible show XS _ _ (Stmt.Assign [Expr.Name (Str.ofString "here") _] _ _) _ _); (first | refine xs_set (i := 3) (by assumption) rfl (.inl rfl) ?_ | refine xs_set (i := 3) (by assumption) rfl (.inr rfl) ?_)) | ((with_reducible show XS _ _ (Stmt.Assign [Expr.Name (Str.ofString "way") _] _ _) _ _); (first | refine xs_set (i := 0) (by assumption) rfl (.inl rfl) ?_ | refine xs_set (i := 0) (by assumption) rfl (.inr rfl) ?_)) | ((with_reducible show XS _ _ (Stmt.Assign [Expr.Name (Str.ofString "slip") _] _ _) _ _); (first | refine xs_set (i := 2) (by assumption) rfl (.inl rfl) ?_ | refine xs_set (i := 2) (by assumption) rfl (.inr rfl) ?_)) | ((with_reducible show XS _ _ (Stmt.Assign [Expr.Name (Str.ofString "others") _] _ _) _ _); (first | refine xs_set (i := 1) (by assumption) rfl (.inl rfl) ?_ | refine xs_set (i := 1) (by assumption) rfl (.inr rfl) ?_)) | ((with_reducible show XS _ _ (Stmt.Assign [Expr.Name (Str.ofString "turn") _] _ _) _ _); (first | refine xs_set (i := 3) (by assumption) rfl (.inl rfl) ?_ | refine xs_set (i := 3) (by assumption) rfl (.inr rfl) ?_)) | ((with_reducible show XS _ _ (Stmt.Assign [Expr.Name (Str.ofString "known") _] _ _) _ _); (first | refine xs_set (i := 4) (by assumption) rfl (.inl rfl) ?_ | refine xs_set (i := 4) (by assumption) rfl (.inr rfl) ?_)) | ((with_reducible show XS _ _ (Stmt.Assign [Expr.Name (Str.ofString "two") _] _ _) _ _); (first | refine xs_set (i := 8) (by assumption) rfl (.inl rfl) ?_ | refine xs_set (i := 8) (by assumption) rfl (.inr rfl) ?_)) | ((with_reducible show XS _ _ (Stmt.Assign [Expr.Name (Str.ofString "near") _] _ _) _ _); (first | refine xs_set (i := 9) (by assumption) rfl (.inl rfl) ?_ | refine xs_set (i := 9) (by assumption) rfl (.inr rfl) ?_)) | ((with_reducible show XS _ _ (Stmt.Assign [Expr.Name (Str.ofString "far") _] _ _) _ _); (first | refine xs_set (i := 10) (by assumption) rfl (.inl rfl) ?_ | refine xs_set (i := 10) (by assumption) rfl (.inr rfl) ?_)) | ((with_reducible show XS _ _ (Stmt.Assign [Expr.Name (Str.ofString "base") _] _ _) _ _); (first | refine xs_set (i := 11) (by assumption) rfl (.inl rfl) ?_ | refine xs_set (i := 11) (by assumption) rfl (.inr rfl) ?_)) | ((with_reducible show XS _ _ (Stmt.Assign [Expr.Name (Str.ofString "entry") _] _ _) _ _); (first | refine xs_set (i := 3) (by assumption) rfl (.inl rfl) ?_ | refine xs_set (i := 3) (by assumption) rfl (.inr rfl) ?_ | refine xs_set (i := 5) (by assumption) rfl (.inl rfl) ?_ | refine xs_set (i := 5) (by assumption) rfl (.inr rfl) ?_ | refine xs_set (i := 12) (by assumption) rfl (.inl rfl) ?_ | refine xs_set (i := 12) (by assumption) rfl (.inr rfl) ?_)) | ((with_reducible show XS _ _ (Stmt.Assign [Expr.Name (Str.ofString "numbers") _] _ _) _ _); (first | refine xs_set (i := 2) (by assumption) rfl (.inl rfl) ?_ | refine xs_set (i := 2) (by assumption) rfl (.inr rfl) ?_)) | ((with_reducible show XS _ _ (Stmt.Assign [Expr.Name (Str.ofString "other_way") _] _ _) _ _); (first | refine xs_set (i := 1) (by assumption) rfl (.inl rfl) ?_ | refine xs_set (i := 1) (by assumption) rfl (.inr rfl) ?_)) | ((with_reducible show XS _ _ (Stmt.Assign [Expr.Name (Str.ofString "least") _] _ _) _ _); (first | refine xs_set (i := 3) (by assumption) rfl (.inl rfl) ?_ | refine xs_set (i := 3) (by assumption) rfl (.inr rfl) ?_)) | ((with_reducible show XS _ _ (Stmt.Assign [Expr.Name (Str.ofString "told") _] _ _) _ _); (first | refine xs_set (i := 2) (by assumption) rfl (.inl rfl) ?_ | refine xs_set (i := 2) (by assumption) rfl (.inr rfl) ?_ | refine xs_set (i := 4) (by assumption) rfl (.inl rfl) ?_ | refine xs_set (i := 4) (by assumption) rfl (.inr rfl) ?_)) | ((with_reducible show XS _ _ (Stmt.Assign [Expr.Name (Str.ofString "number") _] _ _) _ _); (first | refine xs_set (i := 7) (by assumption) rfl (.inl rfl) ?_ | refine xs_set (i := 7) (by assumption) rfl (.inr rfl) ?_)) | ((with_reducible show XS _ _ (Stmt.Assign [Expr.Name (Str.ofString "_law_script") _] _ _) _ _); (first | refine xs_set (i := 0) (by assumption) rfl (.inl rfl) ?_ | refine xs_set (i := 0) (by assumption) rfl (.inr rfl) ?_)) | ((with_reducible show XS _ _ (Stmt.Assign [Expr.Name (Str.ofString "_law_k") _] _ _) _ _); (first | refine xs_set (i := 1) (by assumption) rfl (.inl rfl) ?_ | refine xs_set (i := 1) (by assumption) rfl (.inr rfl) ?_ | refine xs_set (i := 4) (by assumption) rfl (.inl rfl) ?_ | refine xs_set (i := 4) (by assumption) rfl (.inr rfl) ?_ | refine xs_set (i := 5) (by assumption) rfl (.inl rfl) ?_ | refine xs_set (i := 5) (by assumption) rfl (.inr rfl) ?_ | refine xs_set (i := 13) (by assumption) rfl (.inl rfl) ?_ | refine xs_set (i := 13) (by assumption) rfl (.inr rfl) ?_)) | ((with_reducible show XS _ _ (Stmt.Assign [Expr.Name (Str.ofString "_law_churned") _] _ _) _ _); (first | refine xs_set (i := 2) (by assumption) rfl (.inl rfl) ?_ | refine xs_set (i := 2) (by assumption) rfl (.inr rfl) ?_)) | ((with_reducible show XS _ _ (Stmt.Assign [Expr.Name (Str.ofString "_law_cell") _] _ _) _ _); (first | refine xs_set (i := 3) (by assumption) rfl (.inl rfl) ?_ | refine xs_set (i := 3) (by assumption) rfl (.inr rfl) ?_)) | ((with_reducible show XS _ _ (Stmt.Assign [Expr.Name (Str.ofString "_law_base") _] _ _) _ _); (first | refine xs_set (i := 4) (by assumption) rfl (.inl rfl) ?_ | refine xs_set (i := 4) (by assumption) rfl (.inr rfl) ?_)) | ((with_reducible show XS _ _ (Stmt.Assign [Expr.Name (Str.ofString "_law_digits") _] _ _) _ _); (first | refine xs_set (i := 5) (by assumption) rfl (.inl rfl) ?_ | refine xs_set (i := 5) (by assumption) rfl (.inr rfl) ?_)) | ((with_reducible show XS _ _ (Stmt.Assign [Expr.Name (Str.ofString "_law_jar_here") _] _ _) _ _); (first | refine xs_set (i := 0) (by assumption) rfl (.inl rfl) ?_ | refine xs_set (i := 0) (by assumption) rfl (.inr rfl) ?_)) | ((with_reducible show XS _ _ (Stmt.Assign [Expr.Name (Str.ofString "_law_wide") _] _ _) _ _); (first | refine xs_set (i := 1) (by assumption) rfl (.inl rfl) ?_ | refine xs_set (i := 1) (by assumption) rfl (.inr rfl) ?_)) | ((with_reducible show XS _ _ (Stmt.Assign [Expr.Name (Str.ofString "_law_digit") _] _ _) _ _); (first | refine xs_set (i := 2) (by assumption) rfl (.inl rfl) ?_ | refine xs_set (i := 2) (by assumption) rfl (.inr rfl) ?_)) | ((with_reducible show XS _ _ (Stmt.Assign [Expr.Name (Str.ofString "_law_seed") _] _ _) _ _); (first | refine xs_set (i := 3) (by assumption) rfl (.inl rfl) ?_ | refine xs_set (i := 3) (by assumption) rfl (.inr rfl) ?_)) | ((with_reducible show XS _ _ (Stmt.Assign [Expr.Name (Str.ofString "_law_menu") _] _ _) _ _); (first | refine xs_set (i := 1) (by assumption) rfl (.inl rfl) ?_ | refine xs_set (i := 1) (by assumption) rfl (.inr rfl) ?_)) | ((with_reducible show XS _ _ (Stmt.Assign [Expr.Name (Str.ofString "_law_at") _] _ _) _ _); (first | refine xs_set (i := 2) (by assumption) rfl (.inl rfl) ?_ | refine xs_set (i := 2) (by assumption) rfl (.inr rfl) ?_)) | ((with_reducible show XS _ _ (Stmt.Assign [Expr.Name (Str.ofString "_law_many") _] _ _) _ _); (first | refine xs_set (i := 1) (by assumption) rfl (.inl rfl) ?_ | refine xs_set (i := 1) (by assumption) rfl (.inr rfl) ?_ | refine xs_set (i := 2) (by assumption) rfl (.inl rfl) ?_ | refine xs_set (i := 2) (by assumption) rfl (.inr rfl) ?_)) | ((with_reducible show XS _ _ (Stmt.Assign [Expr.Name (Str.ofString "_law_rest") _] _ _) _ _); (first | refine xs_set (i := 2) (by assumption) rfl (.inl rfl) ?_ | refine xs_set (i := 2) (by assumption) rfl (.inr rfl) ?_ | refine xs_set (i := 3) (by assumption) rfl (.inl rfl) ?_ | refine xs_set (i := 3) (by assumption) rfl (.inr rfl) ?_)) | ((with_reducible show XS _ _ (Stmt.Assign [Expr.Name (Str.ofString "_law_found") _] _ _) _ _); (first | refine xs_set (i := 2) (by assumption) rfl (.inl rfl) ?_ | refine xs_set (i := 2) (by assumption) rfl (.inr rfl) ?_ | refine xs_set (i := 3) (by assumption) rfl (.inl rfl) ?_ | refine xs_set (i := 3) (by assumption) rfl (.inr rfl) ?_ | refine xs_set (i := 4) (by assumption) rfl (.inl rfl) ?_ | refine xs_set (i := 4) (by assumption) rfl (.inr rfl) ?_)) | ((with_reducible show XS _ _ (Stmt.Assign [Expr.Name (Str.ofString "_law_one") _] _ _) _ _); (first | refine xs_set (i := 0) (by assumption) rfl (.inl rfl) ?_ | refine xs_set (i := 0) (by assumption) rfl (.inr rfl) ?_ | refine xs_set (i := 7) (by assumption) rfl (.inl rfl) ?_ | refine xs_set (i := 7) (by assumption) rfl (.inr rfl) ?_)) | ((with_reducible show XS _ _ (Stmt.Assign [Expr.Name (Str.ofString "_law_other") _] _ _) _ _); (first | refine xs_set (i := 1) (by assumption) rfl (.inl rfl) ?_ | refine xs_set (i := 1) (by assumption) rfl (.inr rfl) ?_ | refine xs_set (i := 10) (by assumption) rfl (.inl rfl) ?_ | refine xs_set (i := 10) (by assumption) rfl (.inr rfl) ?_)) | ((with_reducible show XS _ _ (Stmt.Assign [Expr.Name (Str.ofString "_law_most") _] _ _) _ _); (first | refine xs_set (i := 1) (by assumption) rfl (.inl rfl) ?_ | refine xs_set (i := 1) (by assumption) rfl (.inr rfl) ?_ | refine xs_set (i := 2) (by assumption) rfl (.inl rfl) ?_ | refine xs_set (i := 2) (by assumption) rfl (.inr rfl) ?_)) | ((with_reducible show XS _ _ (Stmt.Assign [Expr.Name (Str.ofString "_law_glyphs") _] _ _) _ _); (first | refine xs_set (i := 2) (by assumption) rfl (.inl rfl) ?_ | refine xs_set (i := 2) (by assumption) rfl (.inr rfl) ?_ | refine xs_set (i := 3) (by assumption) rfl (.inl rfl) ?_ | refine xs_set (i := 3) (by assumption) rfl (.inr rfl) ?_ | refine xs_set (i := 4) (by assumption) rfl (.inl rfl) ?_ | refine xs_set (i := 4) (by assumption) rfl (.inr rfl) ?_)) | ((with_reducible show XS _ _ (Stmt.Assign [Expr.Name (Str.ofString "_law_every") _] _ _) _ _); (first | refine xs_set (i := 6) (by assumption) rfl (.inl rfl) ?_ | refine xs_set (i := 6) (by assumption) rfl (.inr rfl) ?_)) | ((with_reducible show XS _ _ (Stmt.Assign [Expr.Name (Str.ofString "_law_turn") _] _ _) _ _); (first | refine xs_set (i := 1) (by assumption) rfl (.inl rfl) ?_ | refine xs_set (i := 1) (by assumption) rfl (.inr rfl) ?_ | refine xs_set (i := 3) (by assumption) rfl (.inl rfl) ?_ | refine xs_set (i := 3) (by assumption) rfl (.inr rfl) ?_ | refine xs_set (i := 5) (by assumption) rfl (.inl rfl) ?_ | refine xs_set (i := 5) (by assumption) rfl (.inr rfl) ?_ | refine xs_set (i := 8) (by assumption) rfl (.inl rfl) ?_ | refine xs_set (i := 8) (by assumption) rfl (.inr rfl) ?_)) | ((with_reducible show XS _ _ (Stmt.Assign [Expr.Name (Str.ofString "_law_tie") _] _ _) _ _); (first | refine xs_set (i := 5) (by assumption) rfl (.inl rfl) ?_ | refine xs_set (i := 5) (by assumption) rfl (.inr rfl) ?_ | refine xs_set (i := 9) (by assumption) rfl (.inl rfl) ?_ | refine xs_set (i := 9) (by assumption) rfl (.inr rfl) ?_)) | ((with_reducible show XS _ _ (Stmt.Assign [Expr.Name (Str.ofString "_law_ties_here") _] _ _) _ _); (first | refine xs_set (i := 0) (by assumption) rfl (.inl rfl) ?_ | refine xs_set (i := 0) (by assumption) rfl (.inr rfl) ?_ | refine xs_set (i := 1) (by assumption) rfl (.inl rfl) ?_ | refine xs_set (i := 1) (by assumption) rfl (.inr rfl) ?_ | refine xs_set (i := 2) (by assumption) rfl (.inl rfl) ?_ | refine xs_set (i := 2) (by assumption) rfl (.inr rfl) ?_)) | ((with_reducible show XS _ _ (Stmt.Assign [Expr.Name (Str.ofString "_law_order_here") _] _ _) _ _); (first | refine xs_set (i := 4) (by assumption) rfl (.inl rfl) ?_ | refine xs_set (i := 4) (by assumption) rfl (.inr rfl) ?_)) | ((with_reducible show XS _ _ (Stmt.Assign [Expr.Name (Str.ofString "_law_arrows_here") _] _ _) _ _); (first | refine xs_set (i := 0) (by assumption) rfl (.inl rfl) ?_ | refine xs_set (i := 0) (by assumption) rfl (.inr rfl) ?_ | refine xs_set (i := 1) (by assumption) rfl (.inl rfl) ?_ | refine xs_set (i := 1) (by assumption) rfl (.inr rfl) ?_ | refine xs_set (i := 4) (by assumption) rfl (.inl rfl) ?_ | refine xs_set (i := 4) (by assumption) rfl (.inr rfl) ?_)) | ((with_reducible show XS _ _ (Stmt.Assign [Expr.Name (Str.ofString "_law_glyph") _] _ _) _ _); (first | refine xs_set (i := 1) (by assumption) rfl (.inl rfl) ?_ | refine xs_set (i := 1) (by assumption) rfl (.inr rfl) ?_ | refine xs_set (i := 4) (by assumption) rfl (.inl rfl) ?_ | refine xs_set (i := 4) (by assumption) rfl (.inr rfl) ?_ | refine xs_set (i := 6) (by assumption) rfl (.inl rfl) ?_ | refine xs_set (i := 6) (by assumption) rfl (.inr rfl) ?_)) | ((with_reducible show XS _ _ (Stmt.Assign [Expr.Name (Str.ofString "_law_arrow") _] _ _) _ _); (first | refine xs_set (i := 2) (by assumption) rfl (.inl rfl) ?_ | refine xs_set (i := 2) (by assumption) rfl (.inr rfl) ?_ | refine xs_set (i := 5) (by assumption) rfl (.inl rfl) ?_ | refine xs_set (i := 5) (by assumption) rfl (.inr rfl) ?_)) | ((with_reducible show XS _ _ (Stmt.Assign [Expr.Name (Str.ofString "_law_row") _] _ _) _ _); (first | refine xs_set (i := 3) (by assumption) rfl (.inl rfl) ?_ | refine xs_set (i := 3) (by assumption) rfl (.inr rfl) ?_)) | ((with_reducible show XS _ _ (Stmt.Assign [Expr.Name (Str.ofString "_law_each") _] _ _) _ _); (first | refine xs_set (i := 7) (by assumption) rfl (.inl rfl) ?_ | refine xs_set (i := 7) (by assumption) rfl (.inr rfl) ?_ | refine xs_set (i := 14) (by assumption) rfl (.inl rfl) ?_ | refine xs_set (i := 14) (by assumption) rfl (.inr rfl) ?_)) | ((with_reducible show XS _ _ (Stmt.Assign [Expr.Name (Str.ofString "_law_left") _] _ _) _ _); (first | refine xs_set (i := 1) (by assumption) rfl (.inl rfl) ?_ | refine xs_set (i := 1) (by assumption) rfl (.inr rfl) ?_)) | ((with_reducible show XS _ _ (Stmt.Assign [Expr.Name (Str.ofString "_law_mine") _] _ _) _ _); (first | refine xs_set (i := 5) (by assumption) rfl (.inl rfl) ?_ | refine xs_set (i := 5) (by assumption) rfl (.inr rfl) ?_)) | ((with_reducible show XS _ _ (Stmt.Assign [Expr.Name (Str.ofString "_law_later") _] _ _) _ _); (first | refine xs_set (i := 6) (by assumption) rfl (.inl rfl) ?_ | refine xs_set (i := 6) (by assumption) rfl (.inr rfl) ?_)) | ((with_reducible show XS _ _ (Stmt.Assign [Expr.Name (Str.ofString "_law_third") _] _ _) _ _); (first | refine xs_set (i := 7) (by assumption) rfl (.inl rfl) ?_ | refine xs_set (i := 7) (by assumption) rfl (.inr rfl) ?_)) | ((with_reducible show XS _ _ (Stmt.Assign [Expr.Name (Str.ofString "_law_mate") _] _ _) _ _); (first | refine xs_set (i := 8) (by assumption) rfl (.inl rfl) ?_ | refine xs_set (i := 8) (by assumption) rfl (.inr rfl) ?_)) | ((with_reducible show XS _ _ (Stmt.Assign [Expr.Name (Str.ofString "_law_last") _] _ _) _ _); (first | refine xs_set (i := 9) (by assumption) rfl (.inl rfl) ?_ | refine xs_set (i := 9) (by assumption) rfl (.inr rfl) ?_)) | ((with_reducible show XS _ _ (Stmt.Assign [Expr.Name (Str.ofString "_law_forth") _] _ _) _ _); (first | refine xs_set (i := 10) (by assumption) rfl (.inl rfl) ?_ | refine xs_set (i := 10) (by assumption) rfl (.inr rfl) ?_)) | ((with_reducible show XS _ _ (Stmt.Assign [Expr.Name (Str.ofString "_law_back") _] _ _) _ _); (first | refine xs_set (i := 11) (by assumption) rfl (.inl rfl) ?_ | refine xs_set (i := 11) (by assumption) rfl (.inr rfl) ?_)) | ((with_reducible show XS _ _ (Stmt.Assign [Expr.Name (Str.ofString "_law_sums") _] _ _) _ _); (first | refine xs_set (i := 12) (by assumption) rfl (.inl rfl) ?_ | refine xs_set (i := 12) (by assumption) rfl (.inr rfl) ?_)))
local macro_rules | `(tactic| walk_at "xgn") => `(tactic| first | ((with_reducible show XG _ _ (Expr.Name (Str.ofString "k") _) _ _ _); (first | refine xg_name (i := 0) (by assumption) rfl (.inl rfl) ?_ | refine xg_name (i := 0) (by assumption) rfl (.inr rfl) ?_)) | ((with_reducible show XG _ _ (Expr.Name (Str.ofString "self") _) _ _ _); (first | refine xg_name (i := 0) (by assumption) rfl (.inl rfl) ?_ | refine xg_name (i := 0) (by assumption) rfl (.inr rfl) ?_)) | ((with_reducible show XG _ _ (Expr.Name (Str.ofString "given") _) _ _ _); (first | refine xg_name (i := 1) (by assumption) rfl (.inl rfl) ?_ | refine xg_name (i := 1) (by assumption) rfl (.inr rfl) ?_)) | ((with_reducible show XG _ _ (Expr.Name (Str.ofString "index") _) _ _ _); (first | refine xg_name (i := 1) (by assumption) rfl (.inl rfl) ?_ | refine xg_name (i := 1) (by assumption) rfl (.inr rfl) ?_ | refine xg_name (i := 2) (by assumption) rfl (.inl rfl) ?_ | refine xg_name (i := 2) (by assumption) rfl (.inr rfl) ?_ | refine xg_name (i := 4) (by assumption) rfl (.inl rfl) ?_ | refine xg_name (i := 4) (by assumption) rfl (.inr rfl) ?_)) | ((with_reducible show XG _ _ (Expr.Name (Str.ofString "value") _) _ _ _); (first | refine xg_name (i := 0) (by assumption) rfl (.inl rfl) ?_ | refine xg_name (i := 0) (by assumption) rfl (.inr rfl) ?_ | refine xg_name (i := 1) (by assumption) rfl (.inl rfl) ?_ | refine xg_name (i := 1) (by assumption) rfl (.inr rfl) ?_)) | ((with_reducible show XG _ _ (Expr.Name (Str.ofString "one") _) _ _ _); (first | refine xg_name (i := 0) (by assumption) rfl (.inl rfl) ?_ | refine xg_name (i := 0) (by assumption) rfl (.inr rfl) ?_ | refine xg_name (i := 1) (by assumption) rfl (.inl rfl) ?_ | refine xg_name (i := 1) (by assumption) rfl (.inr rfl) ?_ | refine xg_name (i := 7) (by assumption) rfl (.inl rfl) ?_ | refine xg_name (i := 7) (by assumption) rfl (.inr rfl) ?_)) | ((with_reducible show XG _ _ (Expr.Name (Str.ofString "other") _) _ _ _); (first | refine xg_name (i := 1) (by assumption) rfl (.inl rfl) ?_ | refine xg_name (i := 1) (by assumption) rfl (.inr rfl) ?_ | refine xg_name (i := 2) (by assumption) rfl (.inl rfl) ?_ | refine xg_name (i := 2) (by assumption) rfl (.inr rfl) ?_ | refine xg_name (i := 4) (by assumption) rfl (.inl rfl) ?_ | refine xg_name (i := 4) (by assumption) rfl (.inr rfl) ?_ | refine xg_name (i := 6) (by assumption) rfl (.inl rfl) ?_ | refine xg_name (i := 6) (by assumption) rfl (.inr rfl) ?_)) | ((with_reducible show XG _ _ (Expr.Name (Str.ofString "ties") _) _ _ _); (first | refine xg_name (i := 0) (by assumption) rfl (.inl rfl) ?_ | refine xg_name (i := 0) (by assumption) rfl (.inr rfl) ?_ | refine xg_name (i := 1) (by assumption) rfl (.inl rfl) ?_ | refine xg_name (i := 1) (by assumption) rfl (.inr rfl) ?_)) | ((with_reducible show XG _ _ (Expr.Name (Str.ofString "places") _) _ _ _); (first | refine xg_name (i := 1) (by assumption) rfl (.inl rfl) ?_ | refine xg_name (i := 1) (by assumption) rfl (.inr rfl) ?_ | refine xg_name (i := 2) (by assumption) rfl (.inl rfl) ?_ | refine xg_name (i := 2) (by assumption) rfl (.inr rfl) ?_)) | ((with_reducible show XG _ _ (Expr.Name (Str.ofString "met") _) _ _ _); (first | refine xg_name (i := 2) (by assumption) rfl (.inl rfl) ?_ | refine xg_name (i := 2) (by assumption) rfl (.inr rfl) ?_)) | ((with_reducible show XG _ _ (Expr.Name (Str.ofString "later") _) _ _ _); (first | refine xg_name (i := 2) (by assumption) rfl (.inl rfl) ?_ | refine xg_name (i := 2) (by assumption) rfl (.inr rfl) ?_ | refine xg_name (i := 3) (by assumption) rfl (.inl rfl) ?_ | refine xg_name (i := 3) (by assumption) rfl (.inr rfl) ?_)) | ((with_reducible show XG _ _ (Expr.Name (Str.ofString "tie") _) _ _ _); (first | refine xg_name (i := 3) (by assumption) rfl (.inl rfl) ?_ | refine xg_name (i := 3) (by assumption) rfl (.inr rfl) ?_ | refine xg_name (i := 4) (by assumption) rfl (.inl rfl) ?_ | refine xg_name (i := 4) (by assumption) rfl (.inr rfl) ?_)) | ((with_reducible show XG _ _ (Expr.Name (Str.ofString "text") _) _ _ _); (first | refine xg_name (i := 0) (by assumption) rfl (.inl rfl) ?_ | refine xg_name (i := 0) (by assumption) rfl (.inr rfl) ?_ | refine xg_name (i := 1) (by assumption) rfl (.inl rfl) ?_ | refine xg_name (i := 1) (by assumption) rfl (.inr rfl) ?_)) | ((with_reducible show XG _ _ (Expr.Name (Str.ofString "cls") _) _ _ _); (first | refine xg_name (i := 0) (by assumption) rfl (.inl rfl) ?_ | refine xg_name (i := 0) (by assumption) rfl (.inr rfl) ?_)) | ((with_reducible show XG _ _ (Expr.Name (Str.ofString "found") _) _ _ _); (first | refine xg_name (i := 2) (by assumption) rfl (.inl rfl) ?_ | refine xg_name (i := 2) (by assumption) rfl (.inr rfl) ?_)) | ((with_reducible show XG _ _ (Expr.Name (Str.ofString "place") _) _ _ _); (first | refine xg_name (i := 1) (by assumption) rfl (.inl rfl) ?_ | refine xg_name (i := 1) (by assumption) rfl (.inr rfl) ?_ | refine xg_name (i := 2) (by assumption) rfl (.inl rfl) ?_ | refine xg_name (i := 2) (by assumption) rfl (.inr rfl) ?_ | refine xg_name (i := 6) (by assumption) rfl (.inl rfl) ?_ | refine xg_name (i := 6) (by assumption) rfl (.inr rfl) ?_)) | ((with_reducible show XG _ _ (Expr.Name (Str.ofString "pair") _) _ _ _); (first | refine xg_name (i := 1) (by assumption) rfl (.inl rfl) ?_ | refine xg_name (i := 1) (by assumption) rfl (.inr rfl) ?_)) | ((with_reducible show XG _ _ (Expr.Name (Str.ofString "left") _) _ _ _); (first | refine xg_name (i := 1) (by assumption) rfl (.inl rfl) ?_ | refine xg_name (i := 1) (by assumption) rfl (.inr rfl) ?_ | refine xg_name (i := 2) (by assumption) rfl (.inl rfl) ?_ | refine xg_name (i := 2) (by assumption) rfl (.inr rfl) ?_)) | ((with_reducible show XG _ _ (Expr.Name (Str.ofString "web") _) _ _ _); (first | refine xg_name (i := 0) (by assumption) rfl (.inl rfl) ?_ | refine xg_name (i := 0) (by assumption) rfl (.inr rfl) ?_)) | ((with_reducible show XG _ _ (Expr.Name (Str.ofString "arrows") _) _ _ _); (first | refine xg_name (i := 0) (by assumption) rfl (.inl rfl) ?_ | refine xg_name (i := 0) (by assumption) rfl (.inr rfl) ?_ | refine xg_name (i := 1) (by assumption) rfl (.inl rfl) ?_ | refine xg_name (i := 1) (by assumption) rfl (.inr rfl) ?_)) | ((with_reducible show XG _ _ (Expr.Name (Str.ofString "arrow") _) _ _ _); (first | refine xg_name (i := 0) (by assumption) rfl (.inl rfl) ?_ | refine xg_name (i := 0) (by assumption) rfl (.inr rfl) ?_ | refine xg_name (i := 1) (by assumption) rfl (.inl rfl) ?_ | refine xg_name (i := 1) (by assumption) rfl (.inr rfl) ?_ | refine xg_name (i := 2) (by assumption) rfl (.inl rfl) ?_ | refine xg_name (i := 2) (by assumption) rfl (.inr rfl) ?_ | refine xg_name (i := 3) (by assumption) rfl (.inl rfl) ?_ | refine xg_name (i := 3) (by assumption) rfl (.inr rfl) ?_ | refine xg_name (i := 4) (by assumption) rfl (.inl rfl) ?_ | refine xg_name (i := 4) (by assumption) rfl (.inr rfl) ?_ | refine xg_name (i := 5) (by assumption) rfl (.inl rfl) ?_ | refine xg_name (i := 5) (by assumption) rfl (.inr rfl) ?_)) | ((with_reducible show XG _ _ (Expr.Name (Str.ofString "row") _) _ _ _); (first | refine xg_name (i := 1) (by assumption) rfl (.inl rfl) ?_ | refine xg_name (i := 1) (by assumption) rfl (.inr rfl) ?_)) | ((with_reducible show XG _ _ (Expr.Name (Str.ofString "here") _) _ _ _); (first | refine xg_name (i := 3) (by assumption) rfl (.inl rfl) ?_ | refine xg_name (i := 3) (by assumption) rfl (.inr rfl) ?_)) | ((with_reducible show XG _ _ (Expr.Name (Str.ofString "way") _) _ _ _); (first | refine xg_name (i := 0) (by assumption) rfl (.inl rfl) ?_ | refine xg_name (i := 0) (by assumption) rfl (.inr rfl) ?_)) | ((with_reducible show XG _ _ (Expr.Name (Str.ofString "slip") _) _ _ _); (first | refine xg_name (i := 2) (by assumption) rfl (.inl rfl) ?_ | refine xg_name (i := 2) (by assumption) rfl (.inr rfl) ?_)) | ((with_reducible show XG _ _ (Expr.Name (Str.ofString "others") _) _ _ _); (first | refine xg_name (i := 1) (by assumption) rfl (.inl rfl) ?_ | refine xg_name (i := 1) (by assumption) rfl (.inr rfl) ?_)) | ((with_reducible show XG _ _ (Expr.Name (Str.ofString "turn") _) _ _ _); (first | refine xg_name (i := 3) (by assumption) rfl (.inl rfl) ?_ | refine xg_name (i := 3) (by assumption) rfl (.inr rfl) ?_)) | ((with_reducible show XG _ _ (Expr.Name (Str.ofString "known") _) _ _ _); (first | refine xg_name (i := 4) (by assumption) rfl (.inl rfl) ?_ | refine xg_name (i := 4) (by assumption) rfl (.inr rfl) ?_)) | ((with_reducible show XG _ _ (Expr.Name (Str.ofString "two") _) _ _ _); (first | refine xg_name (i := 8) (by assumption) rfl (.inl rfl) ?_ | refine xg_name (i := 8) (by assumption) rfl (.inr rfl) ?_)) | ((with_reducible show XG _ _ (Expr.Name (Str.ofString "near") _) _ _ _); (first | refine xg_name (i := 9) (by assumption) rfl (.inl rfl) ?_ | refine xg_name (i := 9) (by assumption) rfl (.inr rfl) ?_)) | ((with_reducible show XG _ _ (Expr.Name (Str.ofString "far") _) _ _ _); (first | refine xg_name (i := 10) (by assumption) rfl (.inl rfl) ?_ | refine xg_name (i := 10) (by assumption) rfl (.inr rfl) ?_)) | ((with_reducible show XG _ _ (Expr.Name (Str.ofString "base") _) _ _ _); (first | refine xg_name (i := 11) (by assumption) rfl (.inl rfl) ?_ | refine xg_name (i := 11) (by assumption) rfl (.inr rfl) ?_)) | ((with_reducible show XG _ _ (Expr.Name (Str.ofString "entry") _) _ _ _); (first | refine xg_name (i := 3) (by assumption) rfl (.inl rfl) ?_ | refine xg_name (i := 3) (by assumption) rfl (.inr rfl) ?_ | refine xg_name (i := 5) (by assumption) rfl (.inl rfl) ?_ | refine xg_name (i := 5) (by assumption) rfl (.inr rfl) ?_ | refine xg_name (i := 12) (by assumption) rfl (.inl rfl) ?_ | refine xg_name (i := 12) (by assumption) rfl (.inr rfl) ?_)) | ((with_reducible show XG _ _ (Expr.Name (Str.ofString "numbers") _) _ _ _); (first | refine xg_name (i := 2) (by assumption) rfl (.inl rfl) ?_ | refine xg_name (i := 2) (by assumption) rfl (.inr rfl) ?_)) | ((with_reducible show XG _ _ (Expr.Name (Str.ofString "other_way") _) _ _ _); (first | refine xg_name (i := 1) (by assumption) rfl (.inl rfl) ?_ | refine xg_name (i := 1) (by assumption) rfl (.inr rfl) ?_)) | ((with_reducible show XG _ _ (Expr.Name (Str.ofString "least") _) _ _ _); (first | refine xg_name (i := 3) (by assumption) rfl (.inl rfl) ?_ | refine xg_name (i := 3) (by assumption) rfl (.inr rfl) ?_)) | ((with_reducible show XG _ _ (Expr.Name (Str.ofString "told") _) _ _ _); (first | refine xg_name (i := 2) (by assumption) rfl (.inl rfl) ?_ | refine xg_name (i := 2) (by assumption) rfl (.inr rfl) ?_ | refine xg_name (i := 4) (by assumption) rfl (.inl rfl) ?_ | refine xg_name (i := 4) (by assumption) rfl (.inr rfl) ?_)) | ((with_reducible show XG _ _ (Expr.Name (Str.ofString "number") _) _ _ _); (first | refine xg_name (i := 7) (by assumption) rfl (.inl rfl) ?_ | refine xg_name (i := 7) (by assumption) rfl (.inr rfl) ?_)) | ((with_reducible show XG _ _ (Expr.Name (Str.ofString "_law_script") _) _ _ _); (first | refine xg_name (i := 0) (by assumption) rfl (.inl rfl) ?_ | refine xg_name (i := 0) (by assumption) rfl (.inr rfl) ?_)) | ((with_reducible show XG _ _ (Expr.Name (Str.ofString "_law_k") _) _ _ _); (first | refine xg_name (i := 1) (by assumption) rfl (.inl rfl) ?_ | refine xg_name (i := 1) (by assumption) rfl (.inr rfl) ?_ | refine xg_name (i := 4) (by assumption) rfl (.inl rfl) ?_ | refine xg_name (i := 4) (by assumption) rfl (.inr rfl) ?_ | refine xg_name (i := 5) (by assumption) rfl (.inl rfl) ?_ | refine xg_name (i := 5) (by assumption) rfl (.inr rfl) ?_ | refine xg_name (i := 13) (by assumption) rfl (.inl rfl) ?_ | refine xg_name (i := 13) (by assumption) rfl (.inr rfl) ?_)) | ((with_reducible show XG _ _ (Expr.Name (Str.ofString "_law_churned") _) _ _ _); (first | refine xg_name (i := 2) (by assumption) rfl (.inl rfl) ?_ | refine xg_name (i := 2) (by assumption) rfl (.inr rfl) ?_)) | ((with_reducible show XG _ _ (Expr.Name (Str.ofString "_law_cell") _) _ _ _); (first | refine xg_name (i := 3) (by assumption) rfl (.inl rfl) ?_ | refine xg_name (i := 3) (by assumption) rfl (.inr rfl) ?_)) | ((with_reducible show XG _ _ (Expr.Name (Str.ofString "_law_base") _) _ _ _); (first | refine xg_name (i := 4) (by assumption) rfl (.inl rfl) ?_ | refine xg_name (i := 4) (by assumption) rfl (.inr rfl) ?_)) | ((with_reducible show XG _ _ (Expr.Name (Str.ofString "_law_digits") _) _ _ _); (first | refine xg_name (i := 5) (by assumption) rfl (.inl rfl) ?_ | refine xg_name (i := 5) (by assumption) rfl (.inr rfl) ?_)) | ((with_reducible show XG _ _ (Expr.Name (Str.ofString "_law_jar_here") _) _ _ _); (first | refine xg_name (i := 0) (by assumption) rfl (.inl rfl) ?_ | refine xg_name (i := 0) (by assumption) rfl (.inr rfl) ?_)) | ((with_reducible show XG _ _ (Expr.Name (Str.ofString "_law_wide") _) _ _ _); (first | refine xg_name (i := 1) (by assumption) rfl (.inl rfl) ?_ | refine xg_name (i := 1) (by assumption) rfl (.inr rfl) ?_)) | ((with_reducible show XG _ _ (Expr.Name (Str.ofString "_law_digit") _) _ _ _); (first | refine xg_name (i := 2) (by assumption) rfl (.inl rfl) ?_ | refine xg_name (i := 2) (by assumption) rfl (.inr rfl) ?_)) | ((with_reducible show XG _ _ (Expr.Name (Str.ofString "_law_seed") _) _ _ _); (first | refine xg_name (i := 3) (by assumption) rfl (.inl rfl) ?_ | refine xg_name (i := 3) (by assumption) rfl (.inr rfl) ?_)) | ((with_reducible show XG _ _ (Expr.Name (Str.ofString "_law_menu") _) _ _ _); (first | refine xg_name (i := 1) (by assumption) rfl (.inl rfl) ?_ | refine xg_name (i := 1) (by assumption) rfl (.inr rfl) ?_)) | ((with_reducible show XG _ _ (Expr.Name (Str.ofString "_law_at") _) _ _ _); (first | refine xg_name (i := 2) (by assumption) rfl (.inl rfl) ?_ | refine xg_name (i := 2) (by assumption) rfl (.inr rfl) ?_)) | ((with_reducible show XG _ _ (Expr.Name (Str.ofString "_law_many") _) _ _ _); (first | refine xg_name (i := 1) (by assumption) rfl (.inl rfl) ?_ | refine xg_name (i := 1) (by assumption) rfl (.inr rfl) ?_ | refine xg_name (i := 2) (by assumption) rfl (.inl rfl) ?_ | refine xg_name (i := 2) (by assumption) rfl (.inr rfl) ?_)) | ((with_reducible show XG _ _ (Expr.Name (Str.ofString "_law_rest") _) _ _ _); (first | refine xg_name (i := 2) (by assumption) rfl (.inl rfl) ?_ | refine xg_name (i := 2) (by assumption) rfl (.inr rfl) ?_ | refine xg_name (i := 3) (by assumption) rfl (.inl rfl) ?_ | refine xg_name (i := 3) (by assumption) rfl (.inr rfl) ?_)) | ((with_reducible show XG _ _ (Expr.Name (Str.ofString "_law_found") _) _ _ _); (first | refine xg_name (i := 2) (by assumption) rfl (.inl rfl) ?_ | refine xg_name (i := 2) (by assumption) rfl (.inr rfl) ?_ | refine xg_name (i := 3) (by assumption) rfl (.inl rfl) ?_ | refine xg_name (i := 3) (by assumption) rfl (.inr rfl) ?_ | refine xg_name (i := 4) (by assumption) rfl (.inl rfl) ?_ | refine xg_name (i := 4) (by assumption) rfl (.inr rfl) ?_)) | ((with_reducible show XG _ _ (Expr.Name (Str.ofString "_law_one") _) _ _ _); (first | refine xg_name (i := 0) (by assumption) rfl (.inl rfl) ?_ | refine xg_name (i := 0) (by assumption) rfl (.inr rfl) ?_ | refine xg_name (i := 7) (by assumption) rfl (.inl rfl) ?_ | refine xg_name (i := 7) (by assumption) rfl (.inr rfl) ?_)) | ((with_reducible show XG _ _ (Expr.Name (Str.ofString "_law_other") _) _ _ _); (first | refine xg_name (i := 1) (by assumption) rfl (.inl rfl) ?_ | refine xg_name (i := 1) (by assumption) rfl (.inr rfl) ?_ | refine xg_name (i := 10) (by assumption) rfl (.inl rfl) ?_ | refine xg_name (i := 10) (by assumption) rfl (.inr rfl) ?_)) | ((with_reducible show XG _ _ (Expr.Name (Str.ofString "_law_most") _) _ _ _); (first | refine xg_name (i := 1) (by assumption) rfl (.inl rfl) ?_ | refine xg_name (i := 1) (by assumption) rfl (.inr rfl) ?_ | refine xg_name (i := 2) (by assumption) rfl (.inl rfl) ?_ | refine xg_name (i := 2) (by assumption) rfl (.inr rfl) ?_)) | ((with_reducible show XG _ _ (Expr.Name (Str.ofString "_law_glyphs") _) _ _ _); (first | refine xg_name (i := 2) (by assumption) rfl (.inl rfl) ?_ | refine xg_name (i := 2) (by assumption) rfl (.inr rfl) ?_ | refine xg_name (i := 3) (by assumption) rfl (.inl rfl) ?_ | refine xg_name (i := 3) (by assumption) rfl (.inr rfl) ?_ | refine xg_name (i := 4) (by assumption) rfl (.inl rfl) ?_ | refine xg_name (i := 4) (by assumption) rfl (.inr rfl) ?_)) | ((with_reducible show XG _ _ (Expr.Name (Str.ofString "_law_every") _) _ _ _); (first | refine xg_name (i := 6) (by assumption) rfl (.inl rfl) ?_ | refine xg_name (i := 6) (by assumption) rfl (.inr rfl) ?_)) | ((with_reducible show XG _ _ (Expr.Name (Str.ofString "_law_turn") _) _ _ _); (first | refine xg_name (i := 1) (by assumption) rfl (.inl rfl) ?_ | refine xg_name (i := 1) (by assumption) rfl (.inr rfl) ?_ | refine xg_name (i := 3) (by assumption) rfl (.inl rfl) ?_ | refine xg_name (i := 3) (by assumption) rfl (.inr rfl) ?_ | refine xg_name (i := 5) (by assumption) rfl (.inl rfl) ?_ | refine xg_name (i := 5) (by assumption) rfl (.inr rfl) ?_ | refine xg_name (i := 8) (by assumption) rfl (.inl rfl) ?_ | refine xg_name (i := 8) (by assumption) rfl (.inr rfl) ?_)) | ((with_reducible show XG _ _ (Expr.Name (Str.ofString "_law_tie") _) _ _ _); (first | refine xg_name (i := 5) (by assumption) rfl (.inl rfl) ?_ | refine xg_name (i := 5) (by assumption) rfl (.inr rfl) ?_ | refine xg_name (i := 9) (by assumption) rfl (.inl rfl) ?_ | refine xg_name (i := 9) (by assumption) rfl (.inr rfl) ?_)) | ((with_reducible show XG _ _ (Expr.Name (Str.ofString "_law_ties_here") _) _ _ _); (first | refine xg_name (i := 0) (by assumption) rfl (.inl rfl) ?_ | refine xg_name (i := 0) (by assumption) rfl (.inr rfl) ?_ | refine xg_name (i := 1) (by assumption) rfl (.inl rfl) ?_ | refine xg_name (i := 1) (by assumption) rfl (.inr rfl) ?_ | refine xg_name (i := 2) (by assumption) rfl (.inl rfl) ?_ | refine xg_name (i := 2) (by assumption) rfl (.inr rfl) ?_)) | ((with_reducible show XG _ _ (Expr.Name (Str.ofString "_law_order_here") _) _ _ _); (first | refine xg_name (i := 4) (by assumption) rfl (.inl rfl) ?_ | refine xg_name (i := 4) (by assumption) rfl (.inr rfl) ?_)) | ((with_reducible show XG _ _ (Expr.Name (Str.ofString "_law_arrows_here") _) _ _ _); (first | refine xg_name (i := 0) (by assumption) rfl (.inl rfl) ?_ | refine xg_name (i := 0) (by assumption) rfl (.inr rfl) ?_ | refine xg_name (i := 1) (by assumption) rfl (.inl rfl) ?_ | refine xg_name (i := 1) (by assumption) rfl (.inr rfl) ?_ | refine xg_name (i := 4) (by assumption) rfl (.inl rfl) ?_ | refine xg_name (i := 4) (by assumption) rfl (.inr rfl) ?_)) | ((with_reducible show XG _ _ (Expr.Name (Str.ofString "_law_glyph") _) _ _ _); (first | refine xg_name (i := 1) (by assumption) rfl (.inl rfl) ?_ | refine xg_name (i := 1) (by assumption) rfl (.inr rfl) ?_ | refine xg_name (i := 4) (by assumption) rfl (.inl rfl) ?_ | refine xg_name (i := 4) (by assumption) rfl (.inr rfl) ?_ | refine xg_name (i := 6) (by assumption) rfl (.inl rfl) ?_ | refine xg_name (i := 6) (by assumption) rfl (.inr rfl) ?_)) | ((with_reducible show XG _ _ (Expr.Name (Str.ofString "_law_arrow") _) _ _ _); (first | refine xg_name (i := 2) (by assumption) rfl (.inl rfl) ?_ | refine xg_name (i := 2) (by assumption) rfl (.inr rfl) ?_ | refine xg_name (i := 5) (by assumption) rfl (.inl rfl) ?_ | refine xg_name (i := 5) (by assumption) rfl (.inr rfl) ?_)) | ((with_reducible show XG _ _ (Expr.Name (Str.ofString "_law_row") _) _ _ _); (first | refine xg_name (i := 3) (by assumption) rfl (.inl rfl) ?_ | refine xg_name (i := 3) (by assumption) rfl (.inr rfl) ?_)) | ((with_reducible show XG _ _ (Expr.Name (Str.ofString "_law_each") _) _ _ _); (first | refine xg_name (i := 7) (by assumption) rfl (.inl rfl) ?_ | refine xg_name (i := 7) (by assumption) rfl (.inr rfl) ?_ | refine xg_name (i := 14) (by assumption) rfl (.inl rfl) ?_ | refine xg_name (i := 14) (by assumption) rfl (.inr rfl) ?_)) | ((with_reducible show XG _ _ (Expr.Name (Str.ofString "_law_left") _) _ _ _); (first | refine xg_name (i := 1) (by assumption) rfl (.inl rfl) ?_ | refine xg_name (i := 1) (by assumption) rfl (.inr rfl) ?_)) | ((with_reducible show XG _ _ (Expr.Name (Str.ofString "_law_mine") _) _ _ _); (first | refine xg_name (i := 5) (by assumption) rfl (.inl rfl) ?_ | refine xg_name (i := 5) (by assumption) rfl (.inr rfl) ?_)) | ((with_reducible show XG _ _ (Expr.Name (Str.ofString "_law_later") _) _ _ _); (first | refine xg_name (i := 6) (by assumption) rfl (.inl rfl) ?_ | refine xg_name (i := 6) (by assumption) rfl (.inr rfl) ?_)) | ((with_reducible show XG _ _ (Expr.Name (Str.ofString "_law_third") _) _ _ _); (first | refine xg_name (i := 7) (by assumption) rfl (.inl rfl) ?_ | refine xg_name (i := 7) (by assumption) rfl (.inr rfl) ?_)) | ((with_reducible show XG _ _ (Expr.Name (Str.ofString "_law_mate") _) _ _ _); (first | refine xg_name (i := 8) (by assumption) rfl (.inl rfl) ?_ | refine xg_name (i := 8) (by assumption) rfl (.inr rfl) ?_)) | ((with_reducible show XG _ _ (Expr.Name (Str.ofString "_law_last") _) _ _ _); (first | refine xg_name (i := 9) (by assumption) rfl (.inl rfl) ?_ | refine xg_name (i := 9) (by assumption) rfl (.inr rfl) ?_)) | ((with_reducible show XG _ _ (Expr.Name (Str.ofString "_law_forth") _) _ _ _); (first | refine xg_name (i := 10) (by assumption) rfl (.inl rfl) ?_ | refine xg_name (i := 10) (by assumption) rfl (.inr rfl) ?_)) | ((with_reducible show XG _ _ (Expr.Name (Str.ofString "_law_back") _) _ _ _); (first | refine xg_name (i := 11) (by assumption) rfl (.inl rfl) ?_ | refine xg_name (i := 11) (by assumption) rfl (.inr rfl) ?_)) | ((with_reducible show XG _ _ (Expr.Name (Str.ofString "_law_sums") _) _ _ _); (first | refine xg_name (i := 12) (by assumption) rfl (.inl rfl) ?_ | refine xg_name (i := 12) (by assumption) rfl (.inr rfl) ?_)))
local macro_rules | `(tactic| walk_at "xlit") => `(tactic| first | refine xe_lit lit_0 ?_ | refine xe_lit lit_1 ?_ | refine xe_lit lit_2 ?_)
local macro_rules | `(tactic| walk_at "xcb") => `(tactic| first | ((with_reducible show XE _ _ (Expr.Call (Expr.Name (Str.ofString "len") _) _ _ _) _ _); refine xe_callB rfl (by assumption : Bl _).len PySem.boot_len ?_) | ((with_reducible show XE _ _ (Expr.Call (Expr.Name (Str.ofString "min") _) _ _ _) _ _); refine xe_callB rfl (by assumption : Bl _).min PyProof.Rows.boot_min ?_) | ((with_reducible show XE _ _ (Expr.Call (Expr.Name (Str.ofString "max") _) _ _ _) _ _); refine xe_callB rfl (by assumption : Bl _).max PyProof.Rows.boot_max ?_) | ((with_reducible show XE _ _ (Expr.Call (Expr.Name (Str.ofString "sorted") _) _ _ _) _ _); refine xe_callB rfl (by assumption : Bl _).sorted PyProof.Rows.boot_sorted ?_) | ((with_reducible show XE _ _ (Expr.Call (Expr.Name (Str.ofString "abs") _) _ _ _) _ _); refine xe_callB rfl (by assumption : Bl _).abs PyProof.Rows.boot_abs ?_) | ((with_reducible show XE _ _ (Expr.Call (Expr.Name (Str.ofString "divmod") _) _ _ _) _ _); refine xe_callB rfl (by assumption : Bl _).divmod PyProof.Rows.boot_divmod ?_) | ((with_reducible show XE _ _ (Expr.Call (Expr.Name (Str.ofString "any") _) _ _ _) _ _); refine xe_callB rfl (by assumption : Bl _).any PyProof.Rows.boot_any ?_) | ((with_reducible show XE _ _ (Expr.Call (Expr.Name (Str.ofString "all") _) _ _ _) _ _); refine xe_callB rfl (by assumption : Bl _).all PyProof.Rows.boot_all ?_) | ((with_reducible show XE _ _ (Expr.Call (Expr.Name (Str.ofString "isinstance") _) _ _ _) _ _); refine xe_callB rfl (by assumption : Bl _).isinstance PyProof.Rows.boot_isinstance ?_) | ((with_reducible show XE _ _ (Expr.Call (Expr.Name (Str.ofString "set") _) _ _ _) _ _); refine xe_callTy rfl (by assumption : Bl _).set PyProof.Rows.boot_set ?_) | ((with_reducible show XE _ _ (Expr.Call (Expr.Name (Str.ofString "list") _) _ _ _) _ _); refine xe_callTy rfl (by assumption : Bl _).list PyProof.Rows.boot_list ?_) | ((with_reducible show XE _ _ (Expr.Call (Expr.Name (Str.ofString "tuple") _) _ _ _) _ _); refine xe_callTy rfl (by assumption : Bl _).tuple PyProof.Rows.boot_tuple ?_) | ((with_reducible show XE _ _ (Expr.Call (Expr.Name (Str.ofString "str") _) _ _ _) _ _); refine xe_callTy rfl (by assumption : Bl _).str PyProof.Rows.boot_str ?_) | ((with_reducible show XE _ _ (Expr.Call (Expr.Name (Str.ofString "int") _) _ _ _) _ _); refine xe_callTy rfl (by assumption : Bl _).int PyProof.Rows.boot_int ?_))
local macro_rules | `(tactic| walk_at "xty") => `(tactic| first | ((with_reducible show XE _ _ (Expr.Name (Str.ofString "str") _) _ _); refine xe_ty rfl (by assumption : Bl _).str PyProof.Rows.boot_str ?_) | ((with_reducible show XE _ _ (Expr.Name (Str.ofString "tuple") _) _ _); refine xe_ty rfl (by assumption : Bl _).tuple PyProof.Rows.boot_tuple ?_) | ((with_reducible show XE _ _ (Expr.Name (Str.ofString "int") _) _ _); refine xe_ty rfl (by assumption : Bl _).int PyProof.Rows.boot_int ?_) | ((with_reducible show XE _ _ (Expr.Name (Str.ofString "list") _) _ _); refine xe_ty rfl (by assumption : Bl _).list PyProof.Rows.boot_list ?_))
local macro_rules | `(tactic| walk_at "x1") => `(tactic| first | ((with_reducible show XA _ _ _ _ _); (first | refine xa_cons ?_ | refine xa_nil ?_)) | ((with_reducible show XKw _ _ _ _ _); (first | refine xk_cons ?_ | refine xk_nil ?_)) | ((with_reducible show XE _ _ (Expr.Constant _ _ _) _ _); (first | refine xe_int ?_ | walk_at "xlit" | refine xe_bl ?_ | refine xe_non ?_)) | ((with_reducible show XE _ _ (Expr.Name _ _) _ _); (first | walk_at "xty" | walk_at "xv" | refine xe_gs (by assumption) rfl ?_ | refine xe_gi (by assumption) rfl ?_ | refine xe_gc (by assumption) rfl ?_)) | ((with_reducible show XE _ _ (Expr.BinOp _ _ _ _) _ _); (first | refine xe_op ?_)) | ((with_reducible show XE _ _ (Expr.Compare _ _ _ _) _ _); (first | refine xe_cmp rfl ?_)) | ((with_reducible show XE _ _ (Expr.UnaryOp UnaryOp.Not _ _) _ _); (first | refine xe_not ?_)) | ((with_reducible show XE _ _ (Expr.UnaryOp UnaryOp.USub _ _) _ _); (first | refine xe_un ?_)) | ((with_reducible show XE _ _ (Expr.BoolOp _ _ _) _ _); (first | refine xe_one ?_ | refine xe_and ?_ | refine xe_or ?_)) | ((with_reducible show XE _ _ (Expr.IfExp _ _ _ _) _ _); (first | refine xe_if ?_)) | ((with_reducible show XE _ _ (Expr.Subscript _ _ _) _ _); (first | refine xe_revS ?_ | refine xe_slice ?_ | refine xe_ix ?_)) | ((with_reducible show XE _ _ (Expr.Tuple _ _ _) _ _); (first | refine xe_tup ?_)) | ((with_reducible show XE _ _ (Expr.List _ _) _ _); (first | refine xe_lst ?_)) | ((with_reducible show XE _ _ (Expr.Call (Expr.Name _ _) _ _ _) _ _); (first | walk_at "xcb" | refine xe_cp (by assumption) (by assumption) (by decide) rfl ?_ | refine xe_cj (by assumption) (by assumption) (by decide) rfl ?_ | refine xe_cu (by assumption) (by assumption) (by decide) rfl ?_ | refine xe_mkw (by assumption) (by assumption) (by decide) rfl ?_ | refine xe_mk (by assumption) (by assumption) (by decide) rfl ?_)) | ((with_reducible show XE _ _ (Expr.Dict [] [] _) _ _); (first | refine xe_dct0 ?_)) | ((with_reducible show XE _ _ (Expr.Call (Expr.Attribute (Expr.Name _ _) (Str.ofString "get") _) _ _ _) _ _); (first | refine xe_getI (by assumption) rfl ?_)) | ((with_reducible show XE _ _ (Expr.Call (Expr.Attribute _ (Str.ofString "join") _) _ _ _) _ _); (first | refine xe_ms PySem.F.slot_str_join PySem.F.type_str_join ?_)) | ((with_reducible show XE _ _ (Expr.Call (Expr.Attribute _ (Str.ofString "index") _) _ _ _) _ _); (first | refine xe_ms PySem.F.slot_str_index PySem.F.type_str_index ?_)) | ((with_reducible show XE _ _ (Expr.Call (Expr.Attribute _ (Str.ofString "split") _) _ _ _) _ _); (first | refine xe_ms PySem.F.slot_str_split PySem.F.type_str_split ?_)) | ((with_reducible show XE _ _ (Expr.Call (Expr.Attribute _ _ _) _ _ _) _ _); (first | refine xe_me (by assumption) (by assumption) (by decide) ?_ | refine xe_cm (by assumption) (by assumption) (by decide) ?_ | refine xe_mew (by assumption) (by assumption) (by decide) ?_ | refine xe_cmw (by assumption) (by assumption) (by decide) ?_)) | ((with_reducible show XE _ _ (Expr.Attribute _ _ _) _ _); (first | refine xe_pr (by assumption) (by assumption) (by decide) ?_ | refine xe_prd (by assumption) (by assumption) (by decide) ?_ | (have _ow : OwnW := (by assumption); clear _ow; refine xe_fldO ?_) | refine xe_fld ?_)) | ((with_reducible show XO _ _ _ _ _); (first | refine xo_none ?_ | refine xo_some ?_)) | ((with_reducible show XT _ _ (Expr.UnaryOp UnaryOp.Not _ _) _ _); (first | refine xt_not ?_)) | ((with_reducible show XT _ _ (Expr.Compare _ _ _ _) _ _); (first | refine xt_cmp rfl ?_)) | ((with_reducible show XT _ _ (Expr.BoolOp _ _ _) _ _); (first | refine xt_w ?_)) | ((with_reducible show XT _ _ (Expr.IfExp _ _ _ _) _ _); (first | refine xt_if ?_)) | ((with_reducible show XT _ _ (_) _ _); (first | refine xt_val ?_)) | ((with_reducible show XW _ _ _ _ _); (first | refine xw_and1 ?_ | refine xw_and ?_ | refine xw_or1 ?_ | refine xw_or ?_)) | ((with_reducible show XTl _ _ _ _ _); (first | refine xtl_nil ?_ | refine xtl_one ?_)) | ((with_reducible show XB _ _ _ _ _); (first | refine xb_one ?_ | refine xb_cons ?_ | refine xb_nil ?_)) | ((with_reducible show XS _ _ (Stmt.Return _ _) _ _); (first | refine xs_ret ?_)) | ((with_reducible show XS _ _ (Stmt.If _ _ _ _) _ _); (first | refine xs_if ?_)) | ((with_reducible show XS _ _ (Stmt.Assign _ _ _) _ _); (first | walk_at "xset")) | ((with_reducible show XS _ _ (Stmt.Expr _ _) _ _); (first | refine xs_expr ?_)) | ((with_reducible show XS _ _ (Stmt.Pass _) _ _); (first | refine xs_pass ?_)))
local macro_rules | `(tactic| walk_at "xside") => `(tactic| first | assumption | exact (by decide) | (simp only [List.length_cons, List.length_nil, List.length_append, ch_len]; omega) | omega)
local macro_rules | `(tactic| walk_at "xo") => `(tactic| first | ((with_reducible show ite (_ = true) _ _); (first | with_reducible refine ite_tt ?_ | with_reducible refine ite_ff ?_ | refine ite_nt ?_ | refine ite_nf ?_)) | ((with_reducible show ∃ _, _ = _ ∧ _); refine ⟨_, rfl, ?_⟩) | ((with_reducible show ∃ _, OpD _ (binaryOp Operator.Add) _ _ _ ∧ _); (first | refine ⟨_, od_add, ?_⟩)) | ((with_reducible show ∃ _, OpD _ (binaryOp Operator.Sub) _ _ _ ∧ _); (first | refine ⟨_, od_sub, ?_⟩)) | ((with_reducible show ∃ _, OpD _ (compareOp CmpOp.Lt) _ _ _ ∧ _); (first | refine ⟨_, od_lt, ?_⟩ | refine ⟨_, od_ltS, ?_⟩)) | ((with_reducible show ∃ _, OpD _ (compareOp CmpOp.LtE) _ _ _ ∧ _); (first | refine ⟨_, od_le, ?_⟩ | refine ⟨_, od_leS, ?_⟩)) | ((with_reducible show ∃ _, OpD _ (compareOp CmpOp.Gt) _ _ _ ∧ _); (first | refine ⟨_, od_gt, ?_⟩ | refine ⟨_, od_gtS, ?_⟩)) | ((with_reducible show ∃ _, OpD _ (compareOp CmpOp.GtE) _ _ _ ∧ _); (first | refine ⟨_, od_ge, ?_⟩)) | ((with_reducible show ∃ _, OpD _ (compareOp CmpOp.Eq) _ _ _ ∧ _); (first | refine ⟨_, od_eqI, ?_⟩ | refine ⟨_, od_eqS, ?_⟩ | refine ⟨_, od_eqB, ?_⟩)) | ((with_reducible show ∃ _, OpD _ (compareOp CmpOp.NotEq) _ _ _ ∧ _); (first | refine ⟨_, od_neI, ?_⟩ | refine ⟨_, od_neS, ?_⟩ | refine ⟨_, od_neB, ?_⟩)) | ((with_reducible show ∃ _, OpD _ (compareOp CmpOp.In) _ _ _ ∧ _); (first | refine ⟨_, od_inS, ?_⟩ | refine ⟨_, od_inL, ?_⟩ | refine ⟨_, od_inT, ?_⟩)) | ((with_reducible show ∃ _, OpD _ (compareOp CmpOp.NotIn) _ _ _ ∧ _); (first | refine ⟨_, od_notinS, ?_⟩ | refine ⟨_, od_notinL, ?_⟩ | refine ⟨_, od_notinT, ?_⟩)) | ((with_reducible show ∃ _, OpD _ (compareOp CmpOp.Is) _ _ _ ∧ _); (first | refine ⟨_, od_isN, ?_⟩ | refine ⟨_, od_isB, ?_⟩)) | ((with_reducible show ∃ _, OpD _ (compareOp CmpOp.IsNot) _ _ _ ∧ _); (first | refine ⟨_, od_notN, ?_⟩ | refine ⟨_, od_notB, ?_⟩)) | ((with_reducible show ∃ _, OpD _ (compareOp CmpOp.Lt) _ _ (D.bl _) ∧ _); (first | refine ⟨_, od_lt, ?_⟩ | refine ⟨_, od_ltS, ?_⟩)) | ((with_reducible show ∃ _, OpD _ (compareOp CmpOp.LtE) _ _ (D.bl _) ∧ _); (first | refine ⟨_, od_le, ?_⟩ | refine ⟨_, od_leS, ?_⟩)) | ((with_reducible show ∃ _, OpD _ (compareOp CmpOp.Gt) _ _ (D.bl _) ∧ _); (first | refine ⟨_, od_gt, ?_⟩ | refine ⟨_, od_gtS, ?_⟩)) | ((with_reducible show ∃ _, OpD _ (compareOp CmpOp.GtE) _ _ (D.bl _) ∧ _); (first | refine ⟨_, od_ge, ?_⟩)) | ((with_reducible show ∃ _, OpD _ (compareOp CmpOp.Eq) _ _ (D.bl _) ∧ _); (first | refine ⟨_, od_eqI, ?_⟩ | refine ⟨_, od_eqS, ?_⟩ | refine ⟨_, od_eqB, ?_⟩)) | ((with_reducible show ∃ _, OpD _ (compareOp CmpOp.NotEq) _ _ (D.bl _) ∧ _); (first | refine ⟨_, od_neI, ?_⟩ | refine ⟨_, od_neS, ?_⟩ | refine ⟨_, od_neB, ?_⟩)) | ((with_reducible show ∃ _, OpD _ (compareOp CmpOp.In) _ _ (D.bl _) ∧ _); (first | refine ⟨_, od_inS, ?_⟩ | refine ⟨_, od_inL, ?_⟩ | refine ⟨_, od_inT, ?_⟩)) | ((with_reducible show ∃ _, OpD _ (compareOp CmpOp.NotIn) _ _ (D.bl _) ∧ _); (first | refine ⟨_, od_notinS, ?_⟩ | refine ⟨_, od_notinL, ?_⟩ | refine ⟨_, od_notinT, ?_⟩)) | ((with_reducible show ∃ _, OpD _ (compareOp CmpOp.Is) _ _ (D.bl _) ∧ _); (first | refine ⟨_, od_isN, ?_⟩ | refine ⟨_, od_isB, ?_⟩)) | ((with_reducible show ∃ _, OpD _ (compareOp CmpOp.IsNot) _ _ (D.bl _) ∧ _); (first | refine ⟨_, od_notN, ?_⟩ | refine ⟨_, od_notB, ?_⟩)) | ((with_reducible show ∃ _, CallD _ (Value.builtin "min") _ _ ∧ _); (first | refine ⟨_, cd_min2S rfl, ?_⟩ | refine ⟨_, cd_min2 rfl, ?_⟩)) | ((with_reducible show ∃ _, CallD _ (Value.builtin "max") _ _ ∧ _); (first | refine ⟨_, cd_max2S rfl, ?_⟩ | refine ⟨_, cd_max2 rfl, ?_⟩)) | ((with_reducible show ∃ _, CallD _ (Value.builtin "len") _ _ ∧ _); (first | refine ⟨_, cd_len_lst, ?_⟩ | refine ⟨_, cd_len_tup, ?_⟩ | refine ⟨_, cd_len_dct, ?_⟩ | refine ⟨_, cd_len_str (by walk_at "xside"), ?_⟩)) | ((with_reducible show ∃ _, CallD _ (Value.builtin "abs") _ _ ∧ _); (first | refine ⟨_, cd_abs, ?_⟩)) | ((with_reducible show ∃ _, CallD _ (Value.type "int") _ _ ∧ _); (first | refine ⟨_, cd_int, ?_⟩ | refine ⟨_, cd_intB, ?_⟩)) | ((with_reducible show ∃ _, CallD _ (Value.type "list") _ _ ∧ _); (first | refine ⟨_, cd_list_lst, ?_⟩ | refine ⟨_, cd_list_tup, ?_⟩ | refine ⟨_, cd_list_str (by walk_at "xside"), ?_⟩)) | ((with_reducible show ∃ _, CallD _ (Value.type "tuple") _ _ ∧ _); (first | refine ⟨_, cd_tuple_lst, ?_⟩ | refine ⟨_, cd_tuple_tup, ?_⟩ | refine ⟨_, cd_tuple_str (by walk_at "xside"), ?_⟩)) | ((with_reducible show ∃ _, CallD _ (Value.builtin "any") _ _ ∧ _); (first | refine ⟨_, cd_any rfl, ?_⟩)) | ((with_reducible show ∃ _, CallD _ (Value.builtin "all") _ _ ∧ _); (first | refine ⟨_, cd_all rfl, ?_⟩)) | ((with_reducible show ∃ _, CallD _ (Value.builtin "isinstance") _ _ ∧ _); (first | refine ⟨_, isi_str, ?_⟩ | refine ⟨_, isi_tup, ?_⟩ | refine ⟨_, isi_own (by assumption) (by assumption), ?_⟩ | refine ⟨_, isi_nostr (by assumption), ?_⟩)) | ((with_reducible show List.lookup _ _ = none ∧ _); refine ⟨rfl, ?_⟩) | ((with_reducible show D.ref _ = D.ref _ ∧ _); refine ⟨rfl, ?_⟩) | ((with_reducible show ∃ _, UnD _ (unaryOp UnaryOp.USub) _ _ ∧ _); refine ⟨_, ud_neg, ?_⟩) | ((with_reducible show ∃ _, IxD _ (D.str _) _ _ ∧ _); refine ⟨_, ixd_str (by walk_at "xside") rfl, ?_⟩) | ((with_reducible show ∃ _, SlD _ _ _ _ _ ∧ _); (first | refine ⟨_, sd_lst, ?_⟩ | refine ⟨_, sd_tup, ?_⟩)))
local macro_rules | `(tactic| walk_at "x") => `(tactic| repeat (first | walk_at "x1" | walk_at "xo"))
section
variable {T : Wd} (B : Bl T.mg) {Cw Cy : Addr}
include B
theorem j_dip (df : De T "_law_dip" ["_law_jar_here", "_law_wide"] s_Ldip) : Cj T "_law_dip" 1 sTap := by
  refine cj_of df sc_Ldip (fun ds Q ⟨a, h, _⟩ => by rw [h]; rfl) ?_
  rintro hN f cdv A outer s H E0 hr m J ds Q E ⟨n, rfl, hn1, hn2, h⟩
  refine xb_close (J := J) (xb_open (c1 := []) (c2 := []) fun x y z hx hy hz => ?_)
  refine xb_cons (xs_asg (xe_lend (i := 0) (c1 := []) (c2 := []) rfl rfl ?_))
  walk_at "x"
  refine ⟨_, ixd_lst rfl, ?_⟩
  walk_at "x"
  refine ⟨rfl, rfl, ?_⟩
  refine xg_ix (i := 0) rfl (.inl rfl) rfl ?_
  walk_at "x"
  refine ⟨[], _, [], 2, 2, rfl, rfl, rfl, ?_⟩
  refine xb_cons (xs_if (xt_lend (i := 0) (c1 := []) (c2 := []) rfl rfl ?_))
  walk_at "x"
  refine ⟨_, ixd_lst rfl, ?_⟩
  walk_at "x"
  refine ⟨rfl, ?_⟩
  refine ite_c (fun hz0 => ?_) (fun hz0 => ?_)
  · have hz0 : 0 < x := hz0
    refine xb_cons ?_
    walk_at "xset"
    refine xe_lend (i := 0) (c1 := []) (c2 := []) rfl rfl ?_
    walk_at "x"
    refine ⟨_, ixd_lst rfl, ?_⟩
    walk_at "x"
    refine ⟨_, od_mod (by omega), ?_⟩
    refine ⟨rfl, rfl, ?_⟩
    refine xb_cons (xs_asg (xe_lend (i := 0) (c1 := []) (c2 := []) rfl rfl ?_))
    walk_at "x"
    refine ⟨_, ixd_lst rfl, ?_⟩
    walk_at "x"
    refine ⟨_, od_fdiv ⟨by omega, by omega⟩, ?_⟩
    refine ⟨rfl, rfl, ?_⟩
    refine xg_ix (i := 0) rfl (.inl rfl) rfl ?_
    walk_at "x"
    refine ⟨[], _, [], 0, 0, rfl, rfl, rfl, ?_⟩
    walk_at "x"
    have h0 : 0 ≤ x % (n : Int) := Int.emod_nonneg _ (by omega)
    have h1 : x % (n : Int) < n := Int.emod_lt_of_pos _ (by omega)
    refine ⟨x / (n : Int), y, z + 1, Int.ediv_nonneg (by omega) (by omega), hy, by omega, rfl, ?_⟩
    have := h (x % (n : Int)).toNat (by omega)
    rw [Int.toNat_of_nonneg h0] at this
    exact this
  · refine xb_nil (xb_cons ?_)
    walk_at "xset"
    refine xe_lend (i := 0) (c1 := []) (c2 := []) rfl rfl ?_
    walk_at "x"
    refine ⟨_, ixd_lst rfl, ?_⟩
    walk_at "x"
    refine ⟨rfl, rfl, ?_⟩
    refine xb_cons (xs_asg (xe_lend (i := 0) (c1 := []) (c2 := []) rfl rfl ?_))
    walk_at "x"
    refine ⟨_, od_mul (.inr ⟨by omega, by omega⟩), ?_⟩
    walk_at "x"
    refine ⟨_, ixd_lst rfl, ?_⟩
    walk_at "x"
    refine ⟨_, od_mul (.inr ⟨by omega, by omega⟩), ?_⟩
    walk_at "x"
    refine ⟨_, od_mod (by omega), ?_⟩
    refine ⟨rfl, rfl, ?_⟩
    generalize hv : (y * 40692 + (z + 1) * 52021 + 31) % 2147483399 = v
    have hv0 : 0 ≤ v := by rw [← hv]; exact Int.emod_nonneg _ (by omega)
    refine xg_ix (i := 0) rfl (.inl rfl) rfl ?_
    walk_at "x"
    refine ⟨[], _, [], 1, 1, rfl, rfl, rfl, ?_⟩
    refine xb_one (xs_ret (xe_lend (i := 0) (c1 := []) (c2 := []) rfl rfl ?_))
    walk_at "x"
    refine ⟨_, ixd_lst rfl, ?_⟩
    walk_at "x"
    refine ⟨_, od_fdiv ⟨by omega, by omega⟩, ?_⟩
    walk_at "x"
    refine ⟨_, od_mod (by omega), ?_⟩
    refine ⟨rfl, rfl, ?_⟩
    have h0 : 0 ≤ v / 2048 % (n : Int) := Int.emod_nonneg _ (by omega)
    have h1 : v / 2048 % (n : Int) < n := Int.emod_lt_of_pos _ (by omega)
    refine ⟨x, v, z + 1, hx, hv0, by omega, rfl, ?_⟩
    have := h (v / 2048 % (n : Int)).toNat (by omega)
    rw [Int.toNat_of_nonneg h0] at this
    exact this
theorem jj_pick (df : De T "_law_pick" ["_law_jar_here", "_law_menu"] s_Lpick) (c1 : Cj T "_law_dip" 1 sTap) : Cj T "_law_pick" 2 sPick := by
  refine cj_of df sc_Lpick (fun ds Q ⟨a, _, h, _⟩ => by rw [h]; rfl) ?_
  rintro hN f cdv A outer s H E0 hr m J ds Q E ⟨d, xs, rfl, hd, hne, hl, h⟩
  have hpos : 0 < xs.length := List.length_pos_iff.mpr hne
  have hln : ∀ X : Cx, CallD X (.builtin "len") [d] (.int xs.length) := fun X => by
    rcases hd with rfl | rfl | ⟨l, rfl, rfl⟩
    · exact cd_len_lst
    · exact cd_len_tup
    · have hl : l.length ≤ 100000 := by simpa using hl
      rw [List.length_map]
      exact cd_len_str hl
  have hix : ∀ (X : Cx) (i : Nat) (x : D), xs[i]? = some x → IxD X d (.int i) x := fun X i x hx => by
    rcases hd with rfl | rfl | ⟨l, rfl, rfl⟩
    · exact ixd_lst (atI_nat hx)
    · exact ixd_tup (atI_nat hx)
    · have hl : l.length ≤ 100000 := by simpa using hl
      rw [List.getElem?_map] at hx
      obtain ⟨c, hc, rfl⟩ := Option.map_eq_some_iff.mp hx
      exact ixd_str hl (atI_nat hc)
  walk_at "x"
  refine ⟨_, hln _, ?_⟩
  walk_at "x"
  refine ⟨J, [], _, rfl, rfl, ?_⟩
  intro Qc hq
  refine ⟨xs.length, rfl, hpos, by omega, fun i hi => hq _ ?_⟩; clear hq Qc
  obtain ⟨x, hx⟩ : ∃ x, xs[i]? = some x := ⟨_, List.getElem?_eq_getElem hi⟩
  walk_at "x"
  refine ⟨_, hix _ i x hx, ?_⟩
  exact h x (List.mem_of_getElem? hx)
theorem jj_pool (df : De T "_law_pool" ["_law_jar_here", "_law_many"] s_Lpool) (c1 : Cj T "_law_dip" 1 sTap) : Cj T "_law_pool" 3 sLetters := by
  refine cj_of df sc_Lpool (fun ds Q ⟨a, h, _⟩ => by rw [h]; rfl) ?_
  rintro hN f cdv A outer s H E0 hr m J ds Q E ⟨n, rfl, hn, h⟩
  refine xb_cons (xs_par (i := 2) (j := 3) rfl hN rfl rfl (by decide) rfl rfl (xa_cons (xe_own_listS rfl B.list (xa_cons ?_))))
  obtain ⟨w, hwe, hwn, hw7, hwl, hwa⟩ : ∃ w : List Nat, w = [97, 98, 99, 100, 101, 102, 103, 104, 105, 106, 107, 109, 120, 121, 122] ∧ w.Nodup ∧ 7 ≤ w.length ∧ w.length ≤ 100 ∧ Az w := ⟨_, rfl, by decide, by decide, by decide, by unfold Az; decide⟩
  walk_at "x"
  rw [← hwe]
  refine ⟨by omega, fun p => ?_⟩
  refine xa_cons (xe_own_lst (xa_nil ⟨by simp, fun q => xa_nil ⟨_, _, rfl, ?_⟩⟩))
  refine xb_cons (xs_forN (i := 4) PassesOwn.never hN rfl (.inl rfl) (xi_rng1 rfl B.range ?_))
  walk_at "x"
  refine ⟨by omega, by omega, ?_⟩
  refine ⟨fun k Γ1 => ∃ L F o, Γ1 = ⟨[some (.ref J), some (.int (n : Int)), some (.ref p), some (.ref q), o], [(J, .jar), (p, .lst (SL (ch L))), (q, .lst (SL (ch F)))]⟩ ∧ (L ++ F).Perm w ∧ F.length = k, ⟨w, [], none, rfl, by simp, rfl⟩, ?_, ?_⟩
  · rintro k d Γ2 hk ⟨L, F, o, rfl, hp, hF⟩
    obtain ⟨hk1, rfl⟩ := rng_get hk
    have hk1 : k < n := by simpa using hk1
    have hlen := hp.length_eq
    rw [List.length_append] at hlen
    refine xb_one (xs_expr (xe_append (i := 3) rfl (.inl rfl) rfl (xe_pop (i := 2) rfl (.inl rfl) rfl (xe_cj c1 hr (by decide) rfl (xa_cons ?_)) ⟨[(J, .jar)], _, [_], rfl⟩) ⟨[_, _], _, [], rfl⟩))
    walk_at "xv"
    refine xa_cons (xe_lend (i := 2) (c1 := [(J, .jar)]) (c2 := [(q, .lst (SL (ch F)))]) rfl rfl ?_)
    walk_at "x"
    refine ⟨rfl, rfl, ?_⟩
    walk_at "x"
    refine ⟨J, _, _, rfl, rfl, ?_⟩
    intro Qc hq
    refine ⟨L.length, by simp [SL, ch], by omega, by omega, fun i hi => hq _ ?_⟩; clear hq Qc
    obtain ⟨c, hc⟩ : ∃ c, L[i]? = some c := ⟨_, List.getElem?_eq_getElem hi⟩
    refine ⟨[_], _, [_], i, _, rfl, rfl, by omega, ch_get hc, ?_⟩
    refine ⟨[_, _], _, [], rfl, by rw [SL_len, ch_len]; omega, ?_⟩
    rw [ch_erase, ch_snoc]
    exact ⟨_, _, _, rfl, pop_perm hc hp, by simp [hF]⟩
  · rintro Γ2 ⟨L, F, o, rfl, hp, hF⟩
    have hF : F.length = n := by simpa [rngD] using hF
    refine xb_freeze (i := 3) (c1 := [(J, .jar), (p, .lst (SL (ch L)))]) (c2 := []) rfl rfl ?_
    refine xb_drop (c1 := [(J, .jar)]) (c2 := []) ?_
    walk_at "x"
    refine ⟨_, cd_sortedS rfl hr.units (items_lst _) (by rw [ch_len]; omega), ?_⟩
    rw [srt_ch]
    walk_at "x"
    refine ⟨_, md_join_lst (by rw [flat_len, ch_flat, ch_len, sN_len']; simp; omega), ?_⟩
    rw [join_flat, ch_flat]
    have hnd : (L ++ F).Nodup := hp.nodup_iff.mpr hwn
    refine h (sN F) (sN_lt (List.nodup_append.mp hnd).2.1) (by rw [sN_len']; exact hF) fun c hc => hwa c (hp.mem_iff.mp (List.mem_append_right _ (mem_sN'.mp hc)))
theorem c_Ltwo (df : De T "_law_two" ["_law_one", "_law_other"] s_Ltwo) : Cp T "_law_two" 1 sPair := by
  refine cp_of df sc_Ltwo (fun ds Q ⟨a, b, h, _⟩ => by rw [h]; rfl) ?_
  rintro hN f cdv A outer s H E0 hr m ds Q E ⟨a, b, rfl, hl, h⟩
  walk_at "x"
  refine ⟨_, od_addS ?_, ?_⟩
  · split <;> split <;> omega
  · show Q _ _
    by_cases hab : b < a
    · have : ¬ a < b := List.lt_asymm hab
      simp only [hab, this, if_true, if_false] at h ⊢
      exact h
    · by_cases hba : a < b
      · simp only [hab, hba, if_true, if_false] at h ⊢
        exact h
      · have e : a = b := List.le_antisymm (List.not_lt.mp hab) (List.not_lt.mp hba)
        subst e
        simp only [hab, if_false] at h ⊢
        exact h
theorem jj_ties (df : De T "_law_ties" ["_law_jar_here", "_law_most"] s_Lties) (c1 : Cj T "_law_dip" 1 sTap) (c2 : Cj T "_law_pick" 2 sPick) (c3 : Cj T "_law_pool" 3 sLetters) (c4 : Cp T "_law_two" 1 sPair) : Cj T "_law_ties" 4 sJties := by
  refine cj_of df sc_Lties (fun ds Q ⟨a, h, _⟩ => by rw [h]; rfl) ?_
  rintro hN f cdv A outer s H E0 hr m J ds Q E ⟨n, rfl, hn2, hn7, h⟩
  walk_at "x"
  refine ⟨J, [], _, rfl, rfl, ?_⟩
  intro Qc hq
  refine ⟨n - 1, by rw [show (n : Int) - 1 = ((n - 1 : Nat) : Int) by omega], by omega, by omega, fun i hi => hq _ ?_⟩; clear hq Qc
  walk_at "x"
  refine ⟨J, [], _, rfl, rfl, ?_⟩
  intro Qc hq
  refine ⟨2 + i, by rw [show (2 : Int) + (i : Int) = ((2 + i : Nat) : Int) by omega], by omega, fun l hls hll hla => hq _ ?_⟩; clear hq Qc
  have hln : l.Nodup := hls.imp fun h => Nat.ne_of_lt h
  refine xb_cons (xs_asg (xe_own_lst (xa_nil ⟨by simp, fun p => ?_⟩)))
  walk_at "xgn"
  refine xb_cons (xs_forN (i := 5) PassesOwn.never hN rfl (.inl rfl) (xi_rng2 rfl B.range ?_))
  walk_at "x"
  refine ⟨1, l.length, by rw [hll]; simp, ⟨by omega, by omega⟩, ⟨by omega, by omega⟩, ?_⟩
  refine ⟨fun j Γ1 => ∃ ks o5, Γ1 = ⟨[some (.ref J), some (.int (n : Int)), some (.int (2 + (i : Int))), some (.str (S l)), some (.ref p), o5, none, none, none, none, none], [(J, .jar), (p, .lst (SL ks))]⟩ ∧ NetI l (j + 1) ks ∧ ks.length = j ∧ ∀ t ∈ ks, ∀ x ∈ t, ∃ i, i < j + 1 ∧ l[i]? = some x, ⟨[], none, rfl, ⟨List.nodup_nil, fun t ht => (by cases ht), fun j c h1 h2 _ => (by omega)⟩, rfl, fun t ht => by cases ht⟩, ?_, ?_⟩
  · rintro j d Γ2 hj ⟨ks, o5, rfl, hni, hkl, hkx⟩
    obtain ⟨hj1, rfl⟩ := rng_get1 (lo := 1) hj
    have hj1 : 1 + j < l.length := by omega
    obtain ⟨a, ha⟩ : ∃ a, l[1 + j]? = some a := ⟨_, List.getElem?_eq_getElem hj1⟩
    refine xb_one (xs_expr (xe_append (i := 4) rfl (.inl rfl) rfl ?_ ⟨[_], _, [], rfl⟩))
    walk_at "x"
    refine ⟨J, _, _, rfl, rfl, ?_⟩
    intro Qc hq
    refine ⟨1 + j, rfl, by omega, by omega, fun i' hi' => hq _ ?_⟩; clear hq Qc
    obtain ⟨b, hb⟩ : ∃ b, l[i']? = some b := ⟨_, List.getElem?_eq_getElem (by omega)⟩
    refine ⟨_, ixd_str (by omega) (atI_nat hb), ?_⟩
    walk_at "x"
    refine ⟨_, ixd_str (by omega) (atI_nat ha), ?_⟩
    walk_at "x"
    intro Qc hq
    refine ⟨[b], [a], rfl, by simp, hq _ ?_⟩; clear hq Qc
    obtain ⟨hne, hni2⟩ := NetI.next hln (show NetI l (1 + j) ks by rw [Nat.add_comm]; exact hni) ha hb hi'
    have hpr : (if ([a] < [b]) then [a] ++ [b] else [b] ++ [a]) = pr2 [b, a] := pr2_pair
    rw [hpr]
    have hnew : pr2 [a, b] ∉ ks := fun hm => by
      have hx : a ∈ pr2 [a, b] := by unfold pr2; dsimp only; split <;> simp
      obtain ⟨i2, hi2, hi3⟩ := hkx _ hm a hx
      have := (List.getElem?_inj (by omega) hln).mp (hi3.trans ha.symm)
      omega
    have hins : insT ks (pr2 [a, b]) = ks ++ [pr2 [a, b]] := if_neg hnew
    rw [hins] at hni2
    rw [pr2_comm (a := b)]
    refine ⟨[_], _, [], rfl, by rw [SL_len]; omega, ?_⟩
    rw [SL_snoc]
    refine ⟨_, _, rfl, ?_, by simp [hkl], ?_⟩
    · rw [show j + 1 + 1 = 1 + j + 1 by omega]
      exact hni2
    · intro t ht x hx
      rcases List.mem_append.mp ht with z | z
      · obtain ⟨i2, h1, h2⟩ := hkx t z x hx
        exact ⟨i2, by omega, h2⟩
      · rw [List.mem_singleton.mp z] at hx
        have hx : x = a ∨ x = b := by
          unfold pr2 at hx
          dsimp only at hx
          split at hx
          · simp at hx; omega
          · simp at hx; omega
        rcases hx with rfl | rfl
        · exact ⟨1 + j, by omega, ha⟩
        · exact ⟨i', by omega, hb⟩
  rintro Γ2 ⟨ks, o5, rfl, hni, hkl, hkx0⟩
  clear hkx0
  have hrl : (rngD 1 ((l.length : Int) - 1).toNat).length = l.length - 1 := by rw [rng_len]; omega
  rw [hrl] at hni hkl
  replace hni : NetI l l.length ks := by
    have e : l.length - 1 + 1 = l.length := by omega
    rw [e] at hni
    exact hni
  have hk10 : ks.length ≤ 10 := by omega
  clear hkl
  walk_at "x"
  refine ⟨by simp, ?_⟩
  walk_at "x"
  refine xs_forN (i := 7) PassesOwn.never hN rfl (.inr rfl) (xi_str ?_)
  walk_at "xv"
  refine ⟨l, rfl, ?_⟩
  refine ⟨fun j Γ1 => ∃ ev o7, Γ1 = ⟨[some (.ref J), some (.int (n : Int)), some (.int (2 + (i : Int))), some (.str (S l)), some (.ref p), o5, some (.lst (SL ev)), o7, none, none, none], [(J, .jar), (p, .lst (SL ks))]⟩ ∧ ev.length ≤ 7 * j ∧ (∀ t ∈ ev, ∃ a b, t = [a, b] ∧ a < b ∧ a ∈ l ∧ b ∈ l) ∧ (1 ≤ j → ev ≠ []), ⟨[], none, rfl, Nat.le_refl _, fun t ht => (by cases ht), fun z => (by omega)⟩, ?_, ?_⟩
  · rintro j d Γ2 hj ⟨ev, o7, rfl, hev, hep, hen⟩
    rw [List.getElem?_map] at hj
    obtain ⟨a, ha, rfl⟩ := Option.map_eq_some_iff.mp hj
    have hjl : j < l.length := (List.getElem?_eq_some_iff.mp ha).1
    have haw : a ∈ l := List.mem_of_getElem? ha
    walk_at "x"
    refine xe_lcA (fun c => .str (S [c])) (fun l => .str (S l)) (i := 10) hN rfl (by show blkC n_Lties (defScope s_Lties) _ _ = true; decide +kernel) (fun _ _ _ _ _ => .inl rfl) (fun _ _ _ _ _ => .inr rfl) ?_
    refine xi_any ?_
    walk_at "xv"
    refine ⟨_, items_str _, l, fun c => if decide ([a] < [c]) = true then some [a, c] else none, by simp [SL, ch], by omega, ?_, ?_⟩
    · intro c hc μ' s1 H1 C1 cl1 fp1
      walk_at "x"
      refine ite_b (fun hg => ?_) (fun hg => ?_)
      · intro s3 H3 C3 cl3 fp3
        walk_at "x"
        exact ⟨_, od_addS (by simp), _, if_pos hg, rfl, rfl⟩
      · exact ⟨if_neg (by rw [hg]; exact Bool.false_ne_true), rfl⟩
    obtain ⟨nw, hnw⟩ : ∃ nw, nw = l.filterMap fun c => if decide ([a] < [c]) = true then some [a, c] else none := ⟨_, rfl⟩
    rw [← hnw]
    have hnl : nw.length ≤ 7 := by rw [hnw]; exact Nat.le_trans (List.length_filterMap_le _ _) (by omega)
    refine ⟨_, od_catL (xs := SL ev) (ys := SL nw) (by rw [SL_len, SL_len]; omega), ?_⟩
    walk_at "x"
    have ecat : SL ev ++ SL nw = SL (ev ++ nw) := by unfold SL; rw [List.map_append]
    rw [ecat]
    refine ⟨ev ++ nw, _, rfl, by rw [List.length_append]; omega, ?_, fun _ => ?_⟩
    · intro t ht
      rcases List.mem_append.mp ht with z | z
      · exact hep t z
      · rw [hnw] at z
        obtain ⟨c, hc, e⟩ := List.mem_filterMap.mp z
        split at e
        · next hlt =>
          cases e
          exact ⟨a, c, rfl, lt1.mp (of_decide_eq_true hlt), haw, hc⟩
        · cases e
    · intro z
      rcases Nat.eq_zero_or_pos j with rfl | hj0
      · -- the first letter is tied to the second one
        obtain ⟨c, hc⟩ : ∃ c, l[1]? = some c := ⟨_, List.getElem?_eq_getElem (by omega)⟩
        have hac : a < c := by
          obtain ⟨h0, e0⟩ := List.getElem?_eq_some_iff.mp ha
          obtain ⟨h1, e1⟩ := List.getElem?_eq_some_iff.mp hc
          rw [← e0, ← e1]
          exact List.pairwise_iff_getElem.mp hls 0 1 h0 h1 (by omega)
        have : [a, c] ∈ nw := by
          rw [hnw]
          exact List.mem_filterMap.mpr ⟨c, List.mem_of_getElem? hc, if_pos (decide_eq_true (lt1.mpr hac))⟩
        rw [(List.append_eq_nil_iff.mp z).2] at this
        cases this
      · exact hen hj0 (List.append_eq_nil_iff.mp z).1
  rintro Γ2 ⟨ev, o7, rfl, hev, hep, hen⟩
  rw [List.length_map] at hev hen
  have hne : ev ≠ [] := hen (by omega)
  clear hen
  walk_at "x"
  refine xs_forN (i := 8) PassesOwn.never hN rfl (.inl rfl) (xi_rng1 rfl B.range ?_)
  walk_at "x"
  refine ⟨by simp, ?_⟩
  walk_at "x"
  refine ⟨J, _, _, rfl, rfl, ?_⟩
  intro Qc hq
  refine ⟨_, _, rfl, .inl rfl, by simp, by simp, fun x hx => hq _ ?_⟩; clear hq Qc
  obtain ⟨w, rfl, hw1, hw2⟩ : ∃ w : Nat, x = .int w ∧ 1 ≤ w ∧ w ≤ 9 := by
    simp only [List.mem_cons, List.not_mem_nil, or_false] at hx
    rcases hx with rfl | rfl | rfl
    · exact ⟨1, rfl, by omega, by omega⟩
    · exact ⟨4, rfl, by omega, by omega⟩
    · exact ⟨9, rfl, by omega, by omega⟩
  clear hx
  walk_at "x"
  refine ⟨J, _, _, rfl, rfl, ?_⟩
  intro Qc hq
  refine ⟨w, rfl, by omega, by omega, fun r hr' => hq _ ?_⟩; clear hq Qc
  walk_at "x"
  refine ⟨by omega, by omega, ?_⟩
  refine ⟨fun j Γ1 => ∃ ks o8 o9, Γ1 = ⟨[some (.ref J), some (.int (n : Int)), some (.int (2 + (i : Int))), some (.str (S l)), some (.ref p), o5, some (.lst (SL ev)), o7, o8, o9, none], [(J, .jar), (p, .lst (SL ks))]⟩ ∧ NetI l l.length ks ∧ ks.length ≤ 10, ⟨ks, none, none, rfl, hni, hk10⟩, ?_, ?_⟩
  · clear hni hk10
    clear ks
    rintro j d Γ2 hj ⟨ks, o8, o9, rfl, hni, hk10⟩
    walk_at "x"
    refine ⟨J, _, _, rfl, rfl, ?_⟩
    intro Qc hq
    refine ⟨_, _, rfl, .inl rfl, by simpa [SL] using hne, by rw [SL_len]; omega, fun x hx => hq _ ?_⟩; clear hq Qc
    obtain ⟨t, ht, rfl⟩ := List.mem_map.mp hx
    obtain ⟨a, b, rfl, hab, ha, hb⟩ := hep t ht
    clear hx ht
    by_cases hc : [a, b] ∉ ks ∧ ks.length < 10
    · refine xb_one (xs_if_t ?_ ?_)
      · refine xt_lend (i := 4) (c1 := [(J, .jar)]) (c2 := []) rfl rfl ?_
        walk_at "x"
        rw [if_pos (by simp [hc.1])]
        walk_at "x"
        exact ⟨rfl, by rw [SL_len]; simp; omega, rfl⟩
      refine xb_one (xs_expr (xe_append (i := 4) rfl (.inl rfl) rfl ?_ ⟨[_], _, [], rfl⟩))
      walk_at "xv"
      refine ⟨[_], _, [], rfl, by rw [SL_len]; omega, ?_⟩
      rw [SL_snoc]
      have hp2 : pr2 [a, b] = [a, b] := if_neg (by omega)
      have := hni.ins (a := a) (b := b) (by omega) ha hb
      rw [hp2, show insT ks [a, b] = ks ++ [[a, b]] from if_neg hc.1] at this
      exact ⟨_, _, _, rfl, this, by simp; omega⟩
    · refine xb_one (xs_if_f ?_ (xb_nil ⟨_, _, _, rfl, hni, hk10⟩))
      refine xt_lend (i := 4) (c1 := [(J, .jar)]) (c2 := []) rfl rfl ?_
      walk_at "x"
      by_cases hm : [a, b] ∈ ks
      · rw [if_neg (by simp [hm])]
        exact ⟨rfl, rfl, rfl⟩
      · rw [if_pos (by simp [hm])]
        walk_at "x"
        have hge : ¬ ks.length < 10 := fun z => hc ⟨hm, z⟩
        exact ⟨rfl, by rw [SL_len]; simp; omega, rfl⟩
  · clear hni hk10
    clear ks
    rintro Γ2 ⟨ks, o8, o9, rfl, hni, hk10⟩
    refine xb_freeze (i := 4) (c1 := [(J, .jar)]) (c2 := []) rfl rfl ?_
    walk_at "x"
    refine ⟨_, cd_sortedS rfl hr.units (items_lst _) (by omega), ?_⟩
    walk_at "x"
    refine ⟨by simp, ?_⟩
    obtain ⟨hti, hmem⟩ := net_ties hln hla (by omega) (by omega) hk10 hni
    exact h l _ ⟨hti, us_eq hls fun x => (hmem x).symm, by omega, by omega, hla⟩
theorem jj_laid (df : De T "_law_laid" ["_law_jar_here", "_law_ties_here", "_law_glyphs"] s_Llaid) (c1 : Cj T "_law_dip" 1 sTap) : Cj T "_law_laid" 2 sJlaid := by
  refine cj_of df sc_Llaid (fun ds Q ⟨a, b, h, _⟩ => by rw [h]; rfl) ?_
  rintro hN f cdv A outer s H E0 hr m J ds Q E ⟨ls, w, rfl, ht, hw, h⟩
  have hwn : w.Nodup := by rw [← hw]; exact us_nodup _
  have hwl : w.length ≤ 7 := by rw [← hw]; exact ht.few
  have hwa : Az w := fun c hc => by
    rw [← hw, mem_us] at hc
    obtain ⟨t, h1, h2⟩ := List.mem_flatten.mp hc
    obtain ⟨a, b, rfl, h3, h4, h5⟩ := ht.pr t h1
    simp at h2
    omega
  refine xb_cons (xs_asg (xe_tup (xa_cons (xe_own_listS rfl B.list (xa_cons ?_)))))
  walk_at "xv"
  refine xa_nil ⟨w, rfl, by omega, fun p => ?_⟩
  walk_at "x"
  refine ⟨by simp, ?_⟩
  refine xg_tup rfl rfl (xgs_cons ?_)
  walk_at "xgn"
  refine xgs_cons ?_
  walk_at "xgn"
  refine xgs_nil ?_
  refine xb_cons (xs_while PassesOwn.never (fun Γ1 => ∃ L F, Γ1 = ⟨[some (.ref J), some (.tup (SL ls)), some (.str (S w)), some (.ref p), some (.str (S F)), none], [(J, .jar), (p, .lst (SL (ch L)))]⟩ ∧ (L ++ F).Perm w) (fun Γ1 => match Γ1.c with | [_, (_, .lst xs)] => xs.length | _ => 0) ⟨w, [], rfl, by simp⟩ ?_)
  rintro Γ1 ⟨L, F, rfl, hp⟩
  have hlen := hp.length_eq
  rw [List.length_append] at hlen
  have hlw : Lw (ch L) := fun l hl c hc => by
    obtain ⟨x, hx, rfl⟩ := List.mem_map.mp hl
    simp at hc
    subst hc
    have := hwa c (hp.mem_iff.mp (List.mem_append_left _ hx))
    omega
  refine xt_lend (i := 3) (c1 := [(J, .jar)]) (c2 := []) rfl rfl ?_
  walk_at "x"
  refine ⟨by simp, ?_⟩
  refine ⟨_, od_neL (b := []) hr.units hlw (fun l hl => by cases hl), ?_⟩
  refine ⟨rfl, ?_⟩
  by_cases he : L = []
  · subst he
    rw [if_neg (by simp [ch])]
    have hpF : F.Perm w := by simpa using hp
    refine xb_drop (c1 := [(J, .jar)]) (c2 := []) ?_
    have hin : ∀ x ∈ ls.flatten, x ∈ F := fun x hx => hpF.mem_iff.mpr (by rw [← hw]; exact mem_us.mpr hx)
    walk_at "x"
    refine xe_lcA (fun l => .str (S l)) (fun l => .str (S l)) (i := 5) hN rfl (by show blkC n_Llaid (defScope s_Llaid) _ _ = true; decide +kernel) (fun _ _ _ _ _ => .inl rfl) (fun _ _ _ _ _ => .inr rfl) ?_
    refine xi_any ?_
    walk_at "x"
    refine ⟨_, items_tup _, ls, fun l => some (lay F l), rfl, by have := ht.len; omega, ?_, ?_⟩
    · intro l hl μ' s1 H1 C1 cl1 fp1
      obtain ⟨a, b, rfl, h1, h2, h3⟩ := ht.pr l hl
      have ha : a ∈ F := hin a (List.mem_flatten.mpr ⟨_, hl, by simp⟩)
      have hb : b ∈ F := hin b (List.mem_flatten.mpr ⟨_, hl, by simp⟩)
      walk_at "x"
      intro s3 H3 C3 cl3 fp3
      walk_at "x"
      refine ⟨_, md_index ha, ?_⟩
      walk_at "x"
      refine ⟨_, md_index hb, ?_⟩
      walk_at "x"
      refine ite_c (fun hlt => ?_) (fun hlt => ?_)
      · walk_at "x"
        refine ⟨?_, rfl⟩
        show _ = D.str (S (if idx F a < idx F b then [a, b] else [b, a]))
        rw [if_pos (by omega)]
      · walk_at "x"
        refine ⟨by simp, _, rfl, ?_, rfl⟩
        show _ = D.str (S (if idx F a < idx F b then [a, b] else [b, a]))
        rw [if_neg (by omega)]
        rfl
    have e : (ls.filterMap fun l => some (lay F l)) = ls.map (lay F) := by simp
    rw [e]
    walk_at "x"
    exact h F hpF
  · rw [if_pos (by simp [ch, he])]
    have hpos : 0 < L.length := List.length_pos_iff.mpr he
    refine xb_one (xs_asg (xe_op ?_))
    walk_at "xv"
    refine xe_pop (i := 3) rfl (.inl rfl) rfl (xe_cj c1 hr (by decide) rfl (xa_cons ?_)) ⟨[(J, .jar)], _, [], rfl⟩
    walk_at "xv"
    refine xa_cons (xe_lend (i := 3) (c1 := [(J, .jar)]) (c2 := []) rfl rfl ?_)
    walk_at "x"
    refine ⟨rfl, rfl, ?_⟩
    walk_at "x"
    refine ⟨J, _, _, rfl, rfl, ?_⟩
    intro Qc hq
    refine ⟨L.length, by simp [SL, ch], by omega, by omega, fun i hi => hq _ ?_⟩; clear hq Qc
    obtain ⟨c, hc⟩ : ∃ c, L[i]? = some c := ⟨_, List.getElem?_eq_getElem hi⟩
    refine ⟨[_], _, [], i, _, rfl, rfl, by omega, ch_get hc, ?_⟩
    refine ⟨_, od_addS (by simp; omega), ?_⟩
    walk_at "xgn"
    rw [ch_erase]
    refine ⟨⟨_, _, rfl, pop_perm hc hp⟩, ?_⟩
    show (SL (ch (L.eraseIdx i))).length < (SL (ch L)).length
    rw [SL_len, SL_len, ch_len, ch_len, List.length_eraseIdx_of_lt hi]
    omega
theorem c_Lglyphs_of (df : De T "_law_glyphs_of" ["_law_ties_here"] s_Lglyphs_of) : Cp T "_law_glyphs_of" 1 sPlaces := by
  refine cp_of df sc_Lglyphs_of (fun ds Q ⟨d, ls, h, _⟩ => by rw [h]; rfl) ?_
  rintro hN f cdv A outer s H E0 hr m ds Q E ⟨d, ls, rfl, hd, hl0, hl, h⟩
  have hlen : (ls.map List.length).sum + ls.length * ([] : List Nat).length ≤ 100000 := by rw [flat_len]; show _ + ls.length * 0 ≤ _; omega
  have hus : (us ls.flatten).length ≤ ls.flatten.length := us_len_le fun x h => h
  have hj : ∃ r, MtD (cX T ["_law_ties_here"] "_law_glyphs_of" s_Lglyphs_of f cdv A outer s H E0) "str.join" (.str (S [])) [d] (.str (S r)) ∧ r = ls.flatten := by
    rcases hd with rfl | rfl
    · exact ⟨_, md_join_lst hlen, join_flat ls⟩
    · exact ⟨_, md_join_tup hlen, join_flat ls⟩
  obtain ⟨r, hj, rfl⟩ := hj
  walk_at "x"
  refine ⟨_, hj, ?_⟩
  walk_at "x"
  refine ⟨_, cd_set rfl (items_str _) (by rw [ch_len]; omega), ?_⟩
  walk_at "x"
  refine ⟨_, cd_sorted_set rfl hr.units (by rw [ch_len]; omega), ?_⟩
  rw [usL_ch]
  walk_at "x"
  refine ⟨_, md_join_lst (by rw [flat_len, ch_flat, ch_len]; simp; omega), ?_⟩
  rw [join_flat, ch_flat]
  exact h
theorem c_Lgives (df : De T "_law_gives" ["_law_arrows_here", "_law_glyph"] s_Lgives) : Cp T "_law_gives" 1 sGives' := by
  refine cp_of df sc_Lgives (fun ds Q ⟨a, b, h, _⟩ => by rw [h]; rfl) ?_
  rintro hN f cdv A outer s H E0 hr m ds Q E ⟨as, p, rfl, h2, hl, hlw, h⟩
  walk_at "x"
  refine xe_lcA (fun l => .str (S l)) (fun l => .str (S l)) (i := 2) hN rfl (by show blkC n_Lgives (defScope s_Lgives) _ _ = true; decide +kernel) (fun _ _ _ _ _ => .inl rfl) (fun _ _ _ _ _ => .inr rfl) ?_
  refine xi_any ?_
  walk_at "xv"
  refine ⟨_, items_tup _, as, fun l => if decide ([snd2 l] = [p]) = true then some l else none, rfl, by omega, ?_, ?_⟩
  · intro l hl μ' s1 H1 C1 cl1 fp1
    obtain ⟨a, b, rfl⟩ := h2 l hl
    walk_at "x"
    refine ite_b (fun hg => ?_) (fun hg => ?_)
    · intro s3 H3 C3 cl3 fp3
      walk_at "x"
      exact ⟨_, if_pos hg, rfl, rfl⟩
    · exact ⟨if_neg (by rw [show decide ([snd2 [a, b]] = [p]) = false from hg]; exact Bool.false_ne_true), rfl⟩
  rw [fm_filter]
  have hlf : Lw (as.filter fun l => decide ([snd2 l] = [p])) := fun l hl => hlw l (List.mem_filter.mp hl).1
  walk_at "x"
  refine ⟨by simp, ?_⟩
  refine ⟨_, od_eqL (b := []) hr.units hlf (fun l hl => by cases hl), ?_⟩
  have e : decide ((as.filter fun l => decide ([snd2 l] = [p])) = []) = givesB as p := by
    unfold givesB
    rw [Bool.eq_iff_iff]
    simp [List.filter_eq_nil_iff]
  rw [e]
  exact h
theorem c_Lflip (df : De T "_law_flip" ["_law_arrows_here", "_law_glyph"] s_Lflip) : Cp T "_law_flip" 1 sExch := by
  refine cp_of df sc_Lflip (fun ds Q ⟨a, b, h, _⟩ => by rw [h]; rfl) ?_
  rintro hN f cdv A outer s H E0 hr m ds Q E ⟨as, p, rfl, h2, hl, h⟩
  walk_at "x"
  refine xe_lcA (fun l => .str (S l)) (fun l => .str (S l)) (i := 2) hN rfl (by show blkC n_Lflip (defScope s_Lflip) _ _ = true; decide +kernel) (fun _ _ _ _ _ => .inl rfl) (fun _ _ _ _ _ => .inr rfl) ?_
  refine xi_any ?_
  walk_at "xv"
  refine ⟨_, items_tup _, as, fun l => some (exF p l), rfl, by omega, ?_, ?_⟩
  · intro l hl μ' s1 H1 C1 cl1 fp1
    obtain ⟨a, b, rfl⟩ := h2 l hl
    walk_at "x"
    intro s2 H2 C2 cl2 fp2
    walk_at "x"
    refine ite_c (fun hp => ?_) (fun hp => ?_)
    · walk_at "x"
      refine ⟨by simp, ?_⟩
      exact ⟨_, rfl, by unfold exF; rw [if_pos hp], rfl⟩
    · walk_at "x"
      exact ⟨by unfold exF; rw [if_neg hp], rfl⟩
  have e : (as.filterMap fun l => some (exF p l)).map (fun l => D.str (S l)) = SL (exch as p) := by
    rw [List.filterMap_eq_map']
    rfl
  rw [e]
  walk_at "x"
  exact h
theorem jj_walk (df : De T "_law_walk" ["_law_jar_here", "_law_arrows_here", "_law_most"] s_Lwalk) (c1 : Cj T "_law_dip" 1 sTap) (c2 : Cj T "_law_pick" 2 sPick) (c3 : Cp T "_law_glyphs_of" 1 sPlaces) (c4 : Cp T "_law_gives" 1 sGives') (c5 : Cp T "_law_flip" 1 sExch) : Cj T "_law_walk" 3 sWalk := by
  refine cj_of df sc_Lwalk (fun ds Q ⟨a, b, h, _⟩ => by rw [h]; rfl) ?_
  rintro hN f cdv A outer s H E0 hr m J ds Q E ⟨as, n, rfl, ha, hn, h⟩
  have hfew := ha.few
  refine xb_cons (xs_par (i := 3) (j := 4) rfl hN rfl rfl (by decide) rfl rfl (xa_cons ?_))
  walk_at "x"
  intro Qc hq
  refine ⟨_, as, rfl, .inr rfl, by have := ha.len; omega, by have := ha.flat; omega, hq _ ?_⟩; clear hq Qc
  refine xa_nil ⟨_, _, rfl, ?_⟩
  refine xb_cons (xs_forN (i := 5) PassesOwn.never hN rfl (.inl rfl) (xi_rng1 rfl B.range ?_))
  walk_at "x"
  refine ⟨J, _, _, rfl, rfl, ?_⟩
  intro Qc hq
  refine ⟨n + 1, by rw [show (n : Int) + 1 = ((n + 1 : Nat) : Int) by omega], by omega, by omega, fun r hr' => hq _ ?_⟩; clear hq Qc
  walk_at "x"
  refine ⟨by omega, by omega, ?_⟩
  refine ⟨fun j Γ1 => ∃ row bs o5 o6, Γ1 = ⟨[some (.ref J), some (.tup (SL bs)), some (.int (n : Int)), some (.str (S row)), some (.str (S (us as.flatten))), o5, o6, none], [(J, .jar)]⟩ ∧ Row as row bs ∧ row.length = j, ⟨[], as, none, none, rfl, .nil, rfl⟩, ?_, ?_⟩
  · rintro j d Γ2 hj ⟨row, bs, o5, o6, rfl, hrow, hrl⟩
    obtain ⟨hj1, rfl⟩ := rng_get hj
    have hb := hrow.arrs ha
    have husb : us bs.flatten = us as.flatten := by
      obtain ⟨t1, _, t3, _⟩ := hrow.facts ha.two ha.rk
      rw [← us_pr2 t1, ← us_pr2 ha.two, show as.map pr2 = bs.map pr2 from t3]
    refine xb_cons ?_
    walk_at "xset"
    walk_at "x"
    refine xe_lcA (fun c => .str (S [c])) (fun c => .str (S [c])) (i := 7) hN rfl (by show blkC n_Lwalk (defScope s_Lwalk) _ _ = true; decide +kernel) (fun _ _ _ _ _ => .inl rfl) (fun _ _ _ _ _ => .inr rfl) ?_
    refine xi_any ?_
    walk_at "xv"
    refine ⟨_, items_str _, us as.flatten, fun c => if givesB bs c = true then some c else none, by simp [SL, ch], by omega, ?_, ?_⟩
    · intro c hc μ' s1 H1 C1 cl1 fp1
      walk_at "x"
      intro Qc hq
      refine ⟨bs, c, rfl, hb.two, by have := hb.len; omega, hb.lw, hq _ ?_⟩; clear hq Qc
      refine ⟨_, rfl, ?_⟩
      refine ite_b (fun hg => ?_) (fun hg => ?_)
      · intro s3 H3 C3 cl3 fp3
        walk_at "x"
        exact ⟨c, if_pos hg, rfl, rfl⟩
      · exact ⟨if_neg (by rw [hg]; exact Bool.false_ne_true), rfl⟩
    rw [fm_filter]
    have hhd : (us as.flatten).filter (givesB bs) = heads bs := by rw [← husb]; rfl
    rw [hhd]
    have hfb : (heads bs).length ≤ 7 := Nat.le_trans (List.length_filter_le _ _) hb.few
    walk_at "x"
    refine ⟨J, _, _, rfl, rfl, ?_⟩
    intro Qc hq
    refine ⟨_, _, rfl, .inl rfl, by simpa using heads_ne hb, by rw [List.length_map]; omega, fun x hx => hq _ ?_⟩; clear hq Qc
    obtain ⟨c, hc, rfl⟩ := List.mem_map.mp hx
    obtain ⟨hc1, hc2⟩ := (mem_heads hb.two).mp hc
    refine xb_one (xs_asg ?_)
    walk_at "x"
    refine ⟨_, od_addS (by simp; omega), ?_⟩
    walk_at "x"
    intro Qc hq
    refine ⟨bs, c, rfl, hb.two, by have := hb.len; omega, hq _ ?_⟩; clear hq Qc
    refine xa_nil ⟨by simp, ?_⟩
    refine xg_tup rfl rfl (xgs_cons ?_)
    walk_at "xgn"
    refine xgs_cons ?_
    walk_at "xgn"
    refine xgs_nil ?_
    exact ⟨row ++ [c], exch bs c, _, _, rfl, hrow.snoc hc1 hc2, by simp [hrl]⟩
  · rintro Γ2 ⟨row, bs, o5, o6, rfl, hrow, hrl⟩
    rw [rng_len] at hrl
    walk_at "x"
    refine ⟨by simp, ?_⟩
    exact h row bs hrow (by omega)
theorem c_Lorder19 (df : De T "_law_order" ["_law_arrows_here"] s_Lorder) (c1 : Cp T "_law_glyphs_of" 1 sPlaces) : Cp T "_law_order" 2 sLorder := by
  refine cp_of df sc_Lorder (fun ds Q ⟨a, h, _⟩ => by rw [h]; rfl) ?_
  rintro hN f cdv A outer s H E0 hr m ds Q E ⟨as, rfl, ha, h⟩
  have hal := ha.len
  have hfew := ha.few
  have hfl : as.flatten.length ≤ 20 := by rw [two_flat ha.two]; omega
  obtain ⟨c, hc⟩ : ∃ c, List.lookup ("_law_glyph" : Str) (cX T n_Lorder "_law_order" s_Lorder f cdv A outer s H E0).env.cells = some c := ⟨_, rfl⟩
  refine xb_tupT (xa1_cons ?_)
  walk_at "x"
  intro Qc hq
  refine ⟨_, as, rfl, .inr rfl, by omega, by omega, hq _ ?_⟩; clear hq Qc
  refine xa1_last (xe1_str ?_)
  refine ⟨by simp, ?_⟩
  refine xg_tup rfl rfl (xgs_cons ?_)
  walk_at "xgn"
  refine xgs_cons ?_
  walk_at "xgn"
  refine xgs_nil ?_
  refine xbt_for PassesOwn.never rfl (xi_rng1 rfl B.range ?_)
  walk_at "x"
  refine ⟨by omega, by omega, ?_⟩
  refine ⟨fun j Γ1 => ∃ left found o3 o4 o5, found.length = j ∧ OrdI as left found ∧ Γ1 = ⟨[some (.tup (SL as)), some (.str (S left)), some (.str (S found)), o3, o4, o5], []⟩, ⟨us as.flatten, [], none, none, none, rfl, .start as, rfl⟩, ?_, ?_⟩
  · rintro j d Γ2 hd ⟨left, found, o3, o4, o5, hfj, hO, rfl⟩
    obtain ⟨hj, rfl⟩ := rng_get hd
    rw [Int.toNat_natCast] at hj
    have hlen : found.length + left.length = (us as.flatten).length := by rw [← List.length_append, hO.pm.length_eq]
    have hlne : left ≠ [] := fun e => by rw [e] at hlen; simp at hlen; omega
    refine xg_name (i := 3) hN rfl (.inl rfl) ?_
    refine xbt_forC PassesOwn.never rfl hN (i := 4) rfl rfl hc (.inl rfl) (il := 1) rfl (.inr (.inl rfl)) rfl
      (fun k Γ1 => ∃ o4 o5, (∀ q ∈ left.take k, headB as left q = false) ∧ Γ1 = ⟨[some (.tup (SL as)), some (.str (S left)), some (.str (S found)), some (.int (j : Int)), o4, o5], []⟩)
      (fun Γ1 => ∃ left' found' o4 o5, found'.length = j + 1 ∧ OrdI as left' found' ∧ Γ1 = ⟨[some (.tup (SL as)), some (.str (S left')), some (.str (S found')), some (.int (j : Int)), o4, o5], []⟩)
      ⟨o4, o5, by simp, rfl⟩ ?_ ?_
    · clear o4 o5
      rintro k p Γ2 hk ⟨o4, o5, hno, rfl⟩
      have hp := List.mem_of_getElem? hk
      refine xbc_ifNil ⟨_, hc⟩ hr.units rfl hN (i := 5) rfl (by show blkC n_Lorder (defScope s_Lorder) _ _ = true; decide +kernel) (fun _ _ _ _ _ => .inl rfl) (fun _ _ _ _ _ => .inr rfl) (il := 0) rfl (.inl rfl) rfl (.inl ⟨_, rfl⟩) ?_
      refine xi_any ?_
      walk_at "xv"
      refine ⟨_, rfl, qla (α := List Nat) (β := List Nat) (ea := fun l => .str (S l)) (eb := fun l => .str (S l)) ⟨as, fun l => if (decide (snd2 l = p) && decide (fst2 l ∈ left)) = true then some l else none, rfl, by omega, ?_, ?_⟩⟩
      · intro l hl μ' s1 H1 C1 cl1 fp1
        obtain ⟨a, b, rfl⟩ := ha.two l hl
        walk_at "x"
        refine ite_c (fun hb => ?_) (fun hb => ?_)
        · walk_at "x"
          refine ite_b (fun hg => ?_) (fun hg => ?_)
          · intro s3 H3 C3 cl3 fp3
            walk_at "x"
            exact ⟨[a, b], if_pos (by show (decide (b = p) && decide (a ∈ left)) = true; rw [show decide (b = p) = true from decide_eq_true (by simpa using hb), hg]; rfl), rfl, rfl⟩
          · exact ⟨if_neg (by show ¬ (decide (b = p) && decide (a ∈ left)) = true; rw [hg]; simp), rfl⟩
        · rw [if_neg Bool.false_ne_true]
          exact ⟨if_neg (by show ¬ (decide (b = p) && decide (a ∈ left)) = true; rw [show decide (b = p) = false from decide_eq_false (by simpa using hb)]; simp), rfl⟩
      rw [fm_filter]
      obtain ⟨M, hM⟩ : ∃ M, M = as.filter fun l => decide (snd2 l = p) && decide (fst2 l ∈ left) := ⟨_, rfl⟩
      have hMl : ∀ l ∈ M, ∀ x ∈ l, x < 1000 := fun l hl x hx => by
        rw [hM] at hl
        obtain ⟨a, b, rfl, h1, h2, _⟩ := ha.pr l (List.mem_filter.mp hl).1
        simp at hx
        omega
      have hMh : M = [] ↔ headB as left p = true := by
        rw [hM, List.filter_eq_nil_iff]
        unfold headB
        rw [List.all_eq_true]
        refine forall_congr' fun l => forall_congr' fun hl => ?_
        cases (decide (snd2 l = p) && decide (fst2 l ∈ left)) <;> simp
      rw [← hM]
      obtain ⟨_, hok, hdp, _⟩ := SL_txL hMl
      refine ⟨_, rfl, hok, (by show dpL (SL M) + 1 ≤ 64; omega), ?_⟩
      by_cases he : M = []
      · rw [if_pos (by rw [he]; rfl)]
        have hhead := hMh.mp he
        have hO2 := hO.next ha hp hhead
        have hll : left.length ≤ 10 := by omega
        refine xbq_tup (xaq_one (xeq_replC (il := 1) (i := 4) (p := p) (l := left) rfl (.inr (.inl rfl)) rfl rfl (.inr rfl) hc (.inr (.inl rfl)) rfl (by omega) ?_))
        walk_at "x"
        refine ⟨_, od_addS (by simp; omega), ?_⟩
        refine xa_nil ⟨by simp, ?_⟩
        refine xg_tup rfl rfl (xgs_cons ?_)
        walk_at "xgn"
        refine xgs_cons ?_
        walk_at "xgn"
        refine xgs_nil ?_
        refine xb_cons (xs_break ?_)
        exact ⟨repL p [] left, found ++ [p], some (.str (S [p])), o5, by rw [List.length_append, hfj]; rfl, hO2, rfl⟩
      · rw [if_neg (fun z => he (by simpa [SL] using z))]
        refine xbq_of (xb_nil ?_)
        refine ⟨some (.str (S [p])), o5, fun q hq => ?_, rfl⟩
        rw [List.take_add_one, hk] at hq
        rcases List.mem_append.mp hq with hq | hq
        · exact hno q hq
        · rw [show q = p by simpa using hq]
          exact Bool.eq_false_iff.mpr fun z => he (hMh.mpr z)
    · rintro Γ2 (⟨o4, o5, hno, rfl⟩ | ⟨left', found', o4, o5, h1, h2, rfl⟩)
      · exfalso
        rw [List.take_length] at hno
        obtain ⟨p, hp, hh⟩ := hO.some ha hlne
        rw [hno p hp] at hh
        cases hh
      · exact xbt_nil ⟨left', found', _, _, _, h1, h2, rfl⟩
  · rintro Γ2 ⟨left, found, o3, o4, o5, hfj, hO, rfl⟩
    rw [rng_len, Int.toNat_natCast] at hfj
    have hlen : found.length + left.length = (us as.flatten).length := by rw [← List.length_append, hO.pm.length_eq]
    have hle : left = [] := List.length_eq_zero_iff.mp (by omega)
    subst hle
    refine xbt_of ?_
    walk_at "x"
    exact h found (hO.row ha) (by omega)
theorem c_is_place (df : De T "is_place" ["value"] s_is_place) (gl : GS T.mg "LETTERS" az) : Cp T "is_place" 1 sIsPlace := by
  refine cp_of df sc_is_place (fun ds Q ⟨d, h, _⟩ => by rw [h]; rfl) ?_
  rintro hN f cdv A outer s H E0 hr m ds Q E ⟨c, rfl, h⟩
  walk_at "x"
  show Q _ _
  have e : decide (c ∈ az) = decide (97 ≤ c ∧ c ≤ 122) := decide_eq_decide.mpr mem_az
  rw [e]
  exact h
theorem c_is_two (df : De T "is_two" ["value"] s_is_two) (c1 : Cp T "is_place" 1 sIsPlace) : Cp T "is_two" 2 sIsTwo := by
  refine cp_of df sc_is_two (fun ds Q ⟨a, b, h, _⟩ => by rw [h]; rfl) ?_
  rintro hN f cdv A outer s H E0 hr m ds Q E ⟨a, b, rfl, ha, hb, hab, h⟩
  walk_at "x"
  intro Qc hq
  refine ⟨a, rfl, hq _ ?_⟩
  refine ⟨_, rfl, ite_t ha ?_⟩
  walk_at "x"
  intro Qc hq
  refine ⟨b, rfl, hq _ ?_⟩
  refine ⟨_, rfl, ite_t hb ?_⟩
  walk_at "x"
  show Q _ _
  have e : (!decide ([a] = [b])) = true := by simp [hab]
  rw [e]
  exact h
theorem c_pair_of (df : De T "pair_of" ["one", "other"] s_pair_of) : Cp T "pair_of" 1 sPair := by
  refine cp_of df sc_pair_of (fun ds Q ⟨a, b, h, _⟩ => by rw [h]; rfl) ?_
  rintro hN f cdv A outer s H E0 hr m ds Q E ⟨a, b, rfl, hl, h⟩
  walk_at "x"
  refine ⟨_, od_addS ?_, ?_⟩
  · split <;> split <;> omega
  · show Q _ _
    by_cases hab : b < a
    · have : ¬ a < b := List.lt_asymm hab
      simp only [hab, this, if_true, if_false] at h ⊢
      exact h
    · by_cases hba : a < b
      · simp only [hab, hba, if_true, if_false] at h ⊢
        exact h
      · have e : a = b := List.le_antisymm (List.not_lt.mp hab) (List.not_lt.mp hba)
        subst e
        simp only [hab, if_false] at h ⊢
        exact h
theorem c_places_in (df : De T "places_in" ["ties"] s_places_in) : Cp T "places_in" 1 sPlaces := by
  refine cp_of df sc_places_in (fun ds Q ⟨d, ls, h, _⟩ => by rw [h]; rfl) ?_
  rintro hN f cdv A outer s H E0 hr m ds Q E ⟨d, ls, rfl, hd, hl0, hl, h⟩
  have hlen : (ls.map List.length).sum + ls.length * ([] : List Nat).length ≤ 100000 := by rw [flat_len]; show _ + ls.length * 0 ≤ _; omega
  have hus : (us ls.flatten).length ≤ ls.flatten.length := us_len_le fun x h => h
  have hj : ∃ r, MtD (cX T ["ties"] "places_in" s_places_in f cdv A outer s H E0) "str.join" (.str (S [])) [d] (.str (S r)) ∧ r = ls.flatten := by
    rcases hd with rfl | rfl
    · exact ⟨_, md_join_lst hlen, join_flat ls⟩
    · exact ⟨_, md_join_tup hlen, join_flat ls⟩
  obtain ⟨r, hj, rfl⟩ := hj
  walk_at "x"
  refine ⟨_, hj, ?_⟩
  walk_at "x"
  refine ⟨_, cd_set rfl (items_str _) (by rw [ch_len]; omega), ?_⟩
  walk_at "x"
  refine ⟨_, cd_sorted_set rfl hr.units (by rw [ch_len]; omega), ?_⟩
  rw [usL_ch]
  walk_at "x"
  refine ⟨_, md_join_lst (by rw [flat_len, ch_flat, ch_len]; simp; omega), ?_⟩
  rw [join_flat, ch_flat]
  exact h
theorem c_met_from (df : De T "met_from" ["ties", "places"] s_met_from) (c1 : Cp T "places_in" 1 sPlaces) : Cp T "met_from" 2 sMet := by
  refine cp_of df sc_met_from (fun ds Q ⟨d, ls, ps, h, _⟩ => by rw [h]; rfl) ?_
  rintro hN f cdv A outer s H E0 hr m ds Q E ⟨d, ls, ps, rfl, hd, h2, hll, hpl, h⟩
  have hfl : ls.flatten.length ≤ 1000 := by
    have := flat2 h2
    omega
  have fm : ∀ M : List Nat, (ls.filterMap fun l => if touch M l = true then some l else none) = ls.filter (touch M) := fun M => by
    rw [← List.filterMap_eq_filter]
    refine congrArg (fun f => List.filterMap f ls) (funext fun l => ?_)
    simp [Option.guard]
  have fl : ∀ M : List Nat, (ls.filter (touch M)).flatten.length ≤ 1000 := fun M => by
    have h3 := flat2 (ls := ls.filter (touch M)) fun l hl => h2 l (List.mem_filter.mp hl).1
    have := List.length_filter_le (touch M) ls
    omega
  walk_at "x"
  refine ⟨by simp, ?_⟩
  walk_at "x"
  intro Qc hq
  refine ⟨_, [ps], rfl, .inl rfl, by simp, by simp; omega, hq _ ?_⟩; clear hq Qc
  have hM := InMet.start ls ps
  generalize us [ps].flatten = M at hM ⊢
  walk_at "x"
  refine ⟨by simp, ?_⟩
  refine xe_lcA (fun l => .str (S l)) (fun l => .str (S l)) (i := 4) hN rfl (by show blkC n_met_from (defScope s_met_from) _ _ = true; decide +kernel) (fun _ _ _ _ _ => .inl rfl) (fun _ _ _ _ _ => .inr rfl) ?_
  refine xi_any ?_
  walk_at "xv"
  refine ⟨_, hd, ls, fun l => if touch M l = true then some l else none, rfl, by omega, ?_, ?_⟩
  · intro l hl μ' s1 H1 C1 cl1 fp1
    obtain ⟨a, b, rfl⟩ := h2 l hl
    walk_at "x"
    refine ite_c (fun ha => ?_) (fun ha => ?_)
    · refine ite_tt fun s2 H2 C2 cl2 fp2 => ?_
      walk_at "x"
      refine ⟨[a, b], ?_, rfl, rfl⟩
      simp [touch, ha]
    · walk_at "x"
      refine ite_c (fun hb => ?_) (fun hb => ?_)
      · intro s2 H2 C2 cl2 fp2
        walk_at "x"
        refine ⟨[a, b], ?_, rfl, rfl⟩
        simp [touch, hb]
      · refine ⟨?_, rfl⟩
        simp [touch, ha, hb]
  rw [fm]
  refine ⟨_, od_catL (xs := [.str (S M)]) (by have := List.length_filter_le (touch M) ls; simp; omega), ?_⟩
  walk_at "x"
  intro Qc hq
  refine ⟨_, [M] ++ ls.filter (touch M), rfl, .inl (by simp [SL]), by have := List.length_filter_le (touch M) ls; simp; omega, ?_, hq _ ?_⟩
  · clear hq Qc
    have := fl M
    have := hM.le
    rw [List.length_append] at this
    rw [List.flatten_append, List.length_append]
    simp only [List.flatten_cons, List.flatten_nil, List.append_nil]
    omega
  clear hq Qc
  walk_at "x"
  refine xs_while PassesOwn.never (fun Γ1 => ∃ M, Γ1 = ⟨[some d, some (.str (S ps)), some (.str (S M)), some (.str (S (stp ls M))), none], []⟩ ∧ InMet ls ps M) (fun Γ1 => match Γ1.s with | [_, _, some (.str x), _, _] => 3000 - x.length | _ => 0) ⟨M, rfl, hM⟩ ?_
  clear hM M
  rintro Γ1 ⟨M, rfl, hM⟩
  walk_at "x"
  by_cases hne : stp ls M = M
  · rw [if_neg (by simp [hne])]
    walk_at "x"
    exact h M (hM.done h2 hne)
  · rw [if_pos (by simp [hne])]
    have hlt := stp_grows h2 hM hne
    have hM1 := hM.step h2
    obtain ⟨M1, e1⟩ : ∃ M1, M1 = stp ls M := ⟨_, rfl⟩
    rw [← e1] at hM1 hlt ⊢
    walk_at "x"
    refine ⟨by simp, ?_⟩
    refine xe_lcA (fun l => .str (S l)) (fun l => .str (S l)) (i := 4) hN rfl (by show blkC n_met_from (defScope s_met_from) _ _ = true; decide +kernel) (fun _ _ _ _ _ => .inl rfl) (fun _ _ _ _ _ => .inr rfl) ?_
    refine xi_any ?_
    walk_at "xv"
    refine ⟨_, hd, ls, fun l => if touch M1 l = true then some l else none, rfl, by omega, ?_, ?_⟩
    · intro l hl μ' s1 H1 C1 cl1 fp1
      obtain ⟨a, b, rfl⟩ := h2 l hl
      walk_at "x"
      refine ite_c (fun ha => ?_) (fun ha => ?_)
      · refine ite_tt fun s2 H2 C2 cl2 fp2 => ?_
        walk_at "x"
        refine ⟨[a, b], ?_, rfl, rfl⟩
        simp [touch, ha]
      · walk_at "x"
        refine ite_c (fun hb => ?_) (fun hb => ?_)
        · intro s2 H2 C2 cl2 fp2
          walk_at "x"
          refine ⟨[a, b], ?_, rfl, rfl⟩
          simp [touch, hb]
        · refine ⟨?_, rfl⟩
          simp [touch, ha, hb]
    rw [fm]
    refine ⟨_, od_catL (xs := [.str (S M1)]) (by have := List.length_filter_le (touch M1) ls; simp; omega), ?_⟩
    walk_at "x"
    intro Qc hq
    refine ⟨_, [M1] ++ ls.filter (touch M1), rfl, .inl (by simp [SL]), by have := List.length_filter_le (touch M1) ls; simp; omega, ?_, hq _ ?_⟩
    · clear hq Qc
      have := fl M1
      have := hM1.le
      rw [List.length_append] at this
      rw [List.flatten_append, List.length_append]
      simp only [List.flatten_cons, List.flatten_nil, List.append_nil]
      omega
    clear hq Qc
    walk_at "x"
    refine ⟨⟨M1, rfl, hM1⟩, ?_⟩
    show 3000 - (S M1).length < 3000 - (S M).length
    have h3 := hM1.le
    rw [List.length_append] at h3
    rw [S_len, S_len]
    omega
theorem c_do_hang (df : De T "do_hang" ["ties"] s_do_hang) (c1 : Cp T "places_in" 1 sPlaces) (c2 : Cp T "met_from" 2 sMet) : Cp T "do_hang" 3 sHang := by
  refine cp_of df sc_do_hang (fun ds Q ⟨d, ls, h, _⟩ => by rw [h]; rfl) ?_
  rintro hN f cdv A outer s H E0 hr m ds Q E ⟨d, ls, rfl, hd, h2, hne, hll, hc, h⟩
  obtain ⟨l0, h0⟩ : ∃ l0, ls.head? = some l0 := by
    cases ls with
    | nil => exact absurd rfl hne
    | cons l ls => exact ⟨l, rfl⟩
  have h00 : ls[0]? = some l0 := by rw [← List.head?_eq_getElem?]; exact h0
  obtain ⟨a0, b0, e0⟩ := h2 l0 (List.mem_of_getElem? h00)
  have hit : Items d (SL ls) := by rcases hd with rfl | rfl <;> rfl
  have hix : IxD (cX T ["ties"] "do_hang" s_do_hang f cdv A outer s H E0) d (.int 0) (.str (S l0)) := by
    rcases hd with rfl | rfl
    · exact ixd_lst (atI_nat (k := 0) (SL_get h00))
    · exact ixd_tup (atI_nat (k := 0) (SL_get h00))
  walk_at "x"
  refine ⟨_, hix, ?_⟩
  walk_at "x"
  intro Qc hq
  refine ⟨d, ls, l0, rfl, hit, h2, hll, by rw [e0]; simp, fun M hM => hq _ ?_⟩; clear hq Qc
  rw [met_all h0 hc hM]
  walk_at "x"
  intro Qc hq
  refine ⟨d, ls, rfl, hd, by omega, by have := flat2 h2; omega, hq _ ?_⟩; clear hq Qc
  walk_at "x"
  rw [decide_eq_true rfl]
  exact h
theorem c_is_ringed (df : De T "is_ringed" ["arrows"] s_is_ringed) : Cp T "is_ringed" 1 sRing := by
  refine cp_of df sc_is_ringed (fun ds Q ⟨as, h, _⟩ => by rw [h]; rfl) ?_
  rintro hN f cdv A outer s H E0 hr m ds Q E ⟨as, rfl, h2, hl, hlw, h⟩
  refine xb_cons ?_
  walk_at "x"
  refine xs_lcA (fun l => .str (S l)) (fun l => .str (S l)) (i := 3) (j := 2) hN rfl (by show blkC n_is_ringed (defScope s_is_ringed) _ _ = true; decide +kernel) (fun _ _ _ _ _ => .inr rfl) (fun _ _ _ _ _ => .inl rfl) rfl rfl rfl rfl (by decide +kernel) ?_
  refine xi_any ?_
  walk_at "xv"
  refine ⟨_, items_lst _, as, fun l => if goesOn as l = true then some l else none, rfl, by omega, ?_, ?_⟩
  · intro l hl' μ' s1 H1 C1 cl1 fp1
    obtain ⟨a, b, rfl⟩ := h2 l hl'
    walk_at "x"
    refine xe_lcA (fun l => .str (S l)) D.bl (i := 4) hN rfl (by rfl) (fun _ _ _ _ _ => .inl rfl) (fun _ _ _ _ _ => .inr rfl) ?_
    refine xi_any ?_
    walk_at "xv"
    refine ⟨_, items_lst _, as, fun o => some (decide ([snd2 o] = [a])), rfl, by omega, ?_, ?_⟩
    · intro o ho μ'' s2 H2 C2 cl2 fp2
      obtain ⟨x, y, rfl⟩ := h2 o ho
      walk_at "x"
      intro s3 H3 C3 cl3 fp3
      walk_at "x"
      exact ⟨rfl, rfl⟩
    walk_at "x"
    have e : ((as.filterMap fun o => some (decide ([snd2 o] = [a]))).any id) = goesOn as [a, b] := by
      simp [goesOn, fst2, List.any_map, Function.comp_def]
    rw [e]
    refine ite_b (fun hg => ?_) (fun hg => ?_)
    · intro s3 H3 C3 cl3 fp3
      walk_at "x"
      exact ⟨[a, b], by simp [hg], rfl, rfl⟩
    · exact ⟨by simp [hg], rfl⟩
  have fm : (as.filterMap fun l => if goesOn as l = true then some l else none) = onL as := by
    unfold onL
    rw [← List.filterMap_eq_filter]
    refine congrArg (fun f => List.filterMap f as) (funext fun l => ?_)
    simp [Option.guard]
  rw [fm]
  refine xb_cons (xs_while PassesOwn.never (fun Γ1 => ∃ L, Γ1 = ⟨[some (.tup (SL as)), some (.lst (SL L)), some (.lst (SL (onL L))), none, none], []⟩ ∧ Two L ∧ (Ranked as ↔ Ranked L) ∧ L.length ≤ 500 ∧ Lw L) (fun Γ1 => match Γ1.s with | [_, some (.lst x), _, _, _] => x.length | _ => 0) ⟨as, rfl, h2, Iff.rfl, hl, hlw⟩ ?_)
  rintro Γ1 ⟨L0, rfl, g2, grk, gl, glw⟩
  walk_at "x"
  refine ⟨_, od_neL hr.units (onL_lw glw) glw, ?_⟩
  by_cases hne : onL L0 = L0
  · rw [if_neg (by simp [hne])]
    walk_at "x"
    refine ⟨by simp, ?_⟩
    refine ⟨_, od_neL (b := []) hr.units glw (fun l hl => by cases hl), ?_⟩
    rw [rkB_fix h2 g2 grk hne]
    exact h
  · rw [if_pos (by simp [hne])]
    have hlt : (onL L0).length < L0.length := by
      refine Nat.lt_of_le_of_ne (onL_len L0) fun e => hne ?_
      exact List.filter_sublist.eq_of_length e
    have k2 := onL_two g2
    have krk := grk.trans (ranked_onL g2).symm
    have kl := Nat.le_trans (onL_len L0) gl
    have klw := onL_lw glw
    obtain ⟨L, e⟩ : ∃ L, L = onL L0 := ⟨_, rfl⟩
    rw [← e] at hlt k2 krk kl klw ⊢
    refine xb_cons ?_
    walk_at "x"
    refine xs_lcA (fun l => .str (S l)) (fun l => .str (S l)) (i := 3) (j := 2) hN rfl (by show blkC n_is_ringed (defScope s_is_ringed) _ _ = true; decide +kernel) (fun _ _ _ _ _ => .inr rfl) (fun _ _ _ _ _ => .inl rfl) rfl rfl rfl rfl (by decide +kernel) ?_
    refine xi_any ?_
    walk_at "xv"
    refine ⟨_, items_lst _, L, fun l => if goesOn L l = true then some l else none, rfl, by omega, ?_, ?_⟩
    · intro l hl' μ' s1 H1 C1 cl1 fp1
      obtain ⟨a, b, rfl⟩ := k2 l hl'
      walk_at "x"
      refine xe_lcA (fun l => .str (S l)) D.bl (i := 4) hN rfl (by rfl) (fun _ _ _ _ _ => .inl rfl) (fun _ _ _ _ _ => .inr rfl) ?_
      refine xi_any ?_
      walk_at "xv"
      refine ⟨_, items_lst _, L, fun o => some (decide ([snd2 o] = [a])), rfl, by omega, ?_, ?_⟩
      · intro o ho μ'' s2 H2 C2 cl2 fp2
        obtain ⟨x, y, rfl⟩ := k2 o ho
        walk_at "x"
        intro s3 H3 C3 cl3 fp3
        walk_at "x"
        exact ⟨rfl, rfl⟩
      walk_at "x"
      have e : ((L.filterMap fun o => some (decide ([snd2 o] = [a]))).any id) = goesOn L [a, b] := by
        simp [goesOn, fst2, List.any_map, Function.comp_def]
      rw [e]
      refine ite_b (fun hg => ?_) (fun hg => ?_)
      · intro s3 H3 C3 cl3 fp3
        walk_at "x"
        exact ⟨[a, b], by simp [hg], rfl, rfl⟩
      · exact ⟨by simp [hg], rfl⟩
    have fm : (L.filterMap fun l => if goesOn L l = true then some l else none) = onL L := by
      unfold onL
      rw [← List.filterMap_eq_filter]
      refine congrArg (fun f => List.filterMap f L) (funext fun l => ?_)
      simp [Option.guard]
    rw [fm]
    walk_at "x"
    refine ⟨⟨L, rfl, k2, krk, kl, klw⟩, ?_⟩
    show (SL L).length < (SL L0).length
    rw [SL_len, SL_len]
    exact hlt
theorem c_check_arrows (df : De T "check_arrows" ["arrows"] s_check_arrows) (g1 : GI T.mg "MOST_TIES" 10) (g2 : GI T.mg "MOST_PLACES" 7) (c1 : Cp T "is_two" 2 sIsTwo) (c2 : Cp T "pair_of" 1 sPair) (c3 : Cp T "places_in" 1 sPlaces) (c4 : Cp T "do_hang" 3 sHang) (c5 : Cp T "is_ringed" 1 sRing) : Cp T "check_arrows" 4 sChkA := by
  refine cp_of df sc_check_arrows (fun ds Q ⟨as, h, _⟩ => by rw [h]; rfl) ?_
  rintro hN f cdv A outer s H E0 hr m ds Q E ⟨as, rfl, ha, h⟩
  have hlen := ha.len
  have ht := ha.ties
  have htl : (as.map pr2).length = as.length := by simp
  refine xb_cons (xs_if_f ?_ (xb_nil ?_))
  · walk_at "x"
    refine ⟨by simp, ?_⟩
    exact ⟨_, od_eqT (b := []) hr.units ha.lw (fun l hl => by cases hl), by simp [ha.ne], rfl⟩
  refine xb_cons ?_
  walk_at "xset"
  refine xe_own_lst (xa_nil ⟨by simp, fun p => ?_⟩)
  refine xb_cons (xs_forN (i := 2) PassesOwn.never hN rfl (.inl rfl) (xi_rng1 rfl B.range ?_))
  walk_at "x"
  rw [SL_len]
  refine ⟨by omega, by omega, ?_⟩
  refine ⟨fun k Γ1 => ∃ o, Γ1 = ⟨[some (.tup (SL as)), some (.ref p), o], [(p, .lst (SL ((as.map pr2).take k)))]⟩, ⟨none, rfl⟩, ?_, ?_⟩
  · rintro k d Γ2 hk ⟨o, rfl⟩
    obtain ⟨hk1, rfl⟩ := rng_get hk
    have hk : k < as.length := by simpa using hk1
    obtain ⟨l, hl⟩ : ∃ l, as[k]? = some l := ⟨_, List.getElem?_eq_getElem hk⟩
    obtain ⟨a, b, rfl, h1, h2, h3⟩ := ha.pr l (List.mem_of_getElem? hl)
    have hix : ∀ X : Cx, IxD X (.tup (SL as)) (.int (k : Int)) (.str (S [a, b])) := fun X => ixd_tup (atI_nat (SL_get hl))
    refine xb_cons (xs_if_f ?_ (xb_nil ?_))
    · walk_at "x"
      refine ite_f (by omega) ?_
      walk_at "x"
      refine ⟨_, hix _, ?_⟩
      walk_at "x"
      intro Qc hq
      refine ⟨a, b, rfl, h1, h2, h3, hq _ ?_⟩; clear hq Qc
      walk_at "x"
      exact ⟨rfl, rfl⟩
    refine xb_cons (xs_expr (xe_append (i := 1) rfl (.inl rfl) rfl ?_ ⟨[], _, [], rfl⟩))
    walk_at "x"
    refine ⟨_, hix _, ?_⟩
    walk_at "x"
    refine ⟨_, hix _, ?_⟩
    walk_at "x"
    intro Qc hq
    refine ⟨_, _, rfl, by simp, hq _ ?_⟩; clear hq Qc
    rw [pr2_pair]
    refine ⟨[], _, [], rfl, by rw [SL_len, List.length_take]; omega, ?_⟩
    have et : SL ((as.map pr2).take k) ++ [.str (S (pr2 [a, b]))] = SL ((as.map pr2).take (k + 1)) := by
      rw [List.take_add_one, List.getElem?_map, hl]
      simp [SL]
    rw [et]
    refine xb_one (xs_if_f ?_ (xb_nil ⟨_, rfl⟩))
    refine xt_lend (i := 1) (c1 := []) (c2 := []) rfl rfl ?_
    have hlk : ∀ {j : Nat}, j ≤ k → ((as.map pr2).take (k + 1))[j]? = (as.map pr2)[j]? := fun {j} hj => List.getElem?_take_of_lt (by omega)
    have hgl : (as.map pr2)[k]? = some (pr2 [a, b]) := by rw [List.getElem?_map, hl]; rfl
    refine xt_w (xw_or (xt_cut false ?_ ?_))
    · walk_at "x"
      refine ite_c (fun hk0 => ?_) (fun hk0 => ⟨rfl, rfl⟩)
      obtain ⟨k', rfl⟩ : ∃ k', k = k' + 1 := ⟨k - 1, by omega⟩
      obtain ⟨l', hl'⟩ : ∃ l, (as.map pr2)[k']? = some l := ⟨_, List.getElem?_eq_getElem (by omega)⟩
      have hlt : l' < pr2 [a, b] := by
        obtain ⟨q1, q2⟩ := List.getElem?_eq_some_iff.mp hl'
        obtain ⟨q3, q4⟩ := List.getElem?_eq_some_iff.mp hgl
        have := List.pairwise_iff_getElem.mp ht.asc k' (k' + 1) q1 q3 (by omega)
        rw [q2, q4] at this
        exact this
      walk_at "x"
      refine ⟨_, ixd_lst (atI_nat (SL_get ((hlk (Nat.le_refl _)).trans hgl))), ?_⟩
      walk_at "x"
      refine ⟨_, ixd_lst (i := ((k' + 1 : Nat) : Int) - 1) (by rw [show ((k' + 1 : Nat) : Int) - 1 = (k' : Int) by omega]; exact atI_nat (SL_get ((hlk (by omega)).trans hl'))), ?_⟩
      walk_at "x"
      exact ⟨by simp [hlt], rfl⟩
    walk_at "x"
    intro Qc hq
    have hsub : ∀ x ∈ ((as.map pr2).take (k + 1)).flatten, x ∈ us (as.map pr2).flatten := fun x hx => by
      obtain ⟨l, hl, hx⟩ := List.mem_flatten.mp hx
      exact mem_us.mpr (List.mem_flatten.mpr ⟨l, List.mem_of_mem_take hl, hx⟩)
    have hfew := ht.few
    have hus := us_len_le hsub
    have htk := List.length_take_le (k + 1) (as.map pr2)
    refine ⟨_, _, rfl, .inl rfl, by omega, ?_, hq _ ?_⟩
    · have := flat2 (ls := (as.map pr2).take (k + 1)) fun l hl => ht.two l (List.mem_of_mem_take hl)
      omega
    clear hq Qc
    walk_at "x"
    exact ⟨rfl, by simp; omega, rfl⟩
  · rintro Γ2 ⟨o, rfl⟩
    rw [rng_len, Int.toNat_natCast, ← htl, List.take_length]
    refine xb_freeze (i := 1) (c1 := []) (c2 := []) rfl rfl ?_
    walk_at "x"
    intro Qc hq
    refine ⟨_, _, rfl, .inl rfl, ht.two, ht.ne, by omega, ht.conn, hq _ ?_⟩; clear hq Qc
    walk_at "x"
    intro Qc hq
    refine ⟨as, rfl, ha.two, by omega, ha.lw, hq _ ?_⟩; clear hq Qc
    rw [rkB_t ha.two ha.rk]
    walk_at "x"
    exact h
theorem m_Way (df : DeI T "Way" Cy "Way.__init__" ["self", "arrows"] s_Way___init__) (cl : Cls T.K Cy) (n1 : NoAttr T.K Cy "lot") (c1 : Cp T "check_arrows" 4 sChkA) : Mk' T "Way" Cy 5 sWayI := by
  refine mk_of df sc_Way___init__ (fun ds Q ⟨ls, h, _⟩ => by rw [h]; rfl) ?_
  rintro hN f cdv A outer s H E0 hr m o ds Q E ⟨as, rfl, ha, h⟩
  walk_at "x"
  intro Qc hq
  refine ⟨as, rfl, ha, hq _ ?_⟩; clear hq Qc
  walk_at "x"
  refine xs_fld (i := 0) cl n1 rfl (.inl rfl) rfl ?_
  walk_at "x"
  refine ⟨[], [], [], rfl, by simp, ?_⟩
  walk_at "x"
  exact ⟨_, rfl, rfl, h⟩
theorem c_check_way (df : De T "check_way" ["value"] s_check_way) (oc : OCls T.K Cy) (io : IsO T.K Cy) (hW : T.mg "Way" = some (.ref Cy)) : Cp T "check_way" 1 (fun ds Q => ∃ ls, ds = [wayD Cy ls] ∧ Q .non) := by
  refine cp_of df sc_check_way (fun ds Q ⟨ls, h, _⟩ => by rw [h]; rfl) ?_
  rintro hN f cdv A outer s H E0 hr m ds Q E ⟨ls, rfl, h⟩
  walk_at "x"
  exact h
theorem c_check_both (df : De T "check_both" ["way", "other_way"] s_check_both) (c1 : Cp T "check_way" 1 (fun ds Q => ∃ as, ds = [wayD Cy as] ∧ Q .non)) : Cp T "check_both" 2 (sBoth Cy) := by
  refine cp_of df sc_check_both (fun ds Q ⟨a, b, h, _⟩ => by rw [h]; rfl) ?_
  rintro hN f cdv A outer s H E0 hr m ds Q E ⟨as, bs, rfl, h⟩
  walk_at "x"
  intro Qc hq
  refine ⟨as, rfl, hq _ ?_⟩; clear hq Qc
  walk_at "x"
  intro Qc hq
  refine ⟨bs, rfl, hq _ ?_⟩; clear hq Qc
  walk_at "x"
  exact h
theorem c_is_pair (df : De T "is_pair" ["value"] s_is_pair) (c1 : Cp T "is_two" 2 sIsTwo) : Cp T "is_pair" 3 sIsPair := by
  refine cp_of df sc_is_pair (fun ds Q ⟨a, b, h, _⟩ => by rw [h]; rfl) ?_
  rintro hN f cdv A outer s H E0 hr m ds Q E ⟨a, b, rfl, ha, hb, hab, h⟩
  walk_at "x"
  intro Qc hq
  refine ⟨a, b, rfl, ha, hb, by omega, hq _ ?_⟩
  walk_at "x"
  show Q _ _
  have e : decide ([a] < [b]) = true := by simp [lt1, hab]
  rw [e]
  exact h
theorem c_check_ties (df : De T "check_ties" ["ties"] s_check_ties) (g1 : GI T.mg "MOST_TIES" 10) (g2 : GI T.mg "MOST_PLACES" 7) (c1 : Cp T "places_in" 1 sPlaces) (c2 : Cp T "is_pair" 3 sIsPair) (c3 : Cp T "do_hang" 3 sHang) : Cp T "check_ties" 4 sChk := by
  refine cp_of df sc_check_ties (fun ds Q ⟨ls, h, _⟩ => by rw [h]; rfl) ?_
  rintro hN f cdv A outer s H E0 hr m ds Q E ⟨ls, rfl, ht, h⟩
  have hlen := ht.len
  walk_at "x"
  refine ⟨by simp, ?_⟩
  refine ⟨_, od_eqT (b := []) hr.units ht.lw (fun l hl => by cases hl), ite_f ht.ne ?_⟩
  walk_at "x"
  refine xs_forN (i := 1) PassesOwn.never hN rfl (.inl rfl) (xi_rng1 rfl B.range ?_)
  walk_at "x"
  rw [SL_len]
  refine ⟨by omega, by omega, ?_⟩
  refine ⟨fun k Γ1 => ∃ o, Γ1 = ⟨[some (.tup (SL ls)), o], []⟩, ⟨none, rfl⟩, ?_, ?_⟩
  · rintro k d Γ2 hk ⟨o, rfl⟩
    obtain ⟨hk1, rfl⟩ := rng_get hk
    have hk : k < ls.length := by simpa using hk1
    obtain ⟨l, hl⟩ : ∃ l, ls[k]? = some l := ⟨_, List.getElem?_eq_getElem hk⟩
    obtain ⟨a, b, rfl, h1, h2, h3⟩ := ht.pr l (List.mem_of_getElem? hl)
    have hix : ∀ X : Cx, IxD X (.tup (SL ls)) (.int (k : Int)) (.str (S [a, b])) := fun X => ixd_tup (atI_nat (SL_get hl))
    refine xb_cons (xs_if_f ?_ ?_)
    · walk_at "x"
      refine ite_f (by omega) ?_
      walk_at "x"
      refine ⟨_, hix _, ?_⟩
      walk_at "x"
      intro Qc hq
      refine ⟨a, b, rfl, by omega, by omega, h2, hq _ ?_⟩; clear hq Qc
      walk_at "x"
      refine ite_c (fun hk0 => ?_) (fun hk0 => ⟨rfl, rfl⟩)
      obtain ⟨k', rfl⟩ : ∃ k', k = k' + 1 := ⟨k - 1, by omega⟩
      obtain ⟨l', hl'⟩ : ∃ l, ls[k']? = some l := ⟨_, List.getElem?_eq_getElem (by omega)⟩
      have hlt : l' < [a, b] := by
        obtain ⟨q1, q2⟩ := List.getElem?_eq_some_iff.mp hl'
        obtain ⟨q3, q4⟩ := List.getElem?_eq_some_iff.mp hl
        have := List.pairwise_iff_getElem.mp ht.asc k' (k' + 1) q1 q3 (by omega)
        rw [q2, q4] at this
        exact this
      walk_at "x"
      refine ⟨_, hix _, ?_⟩
      walk_at "x"
      refine ⟨_, ixd_tup (i := ((k' + 1 : Nat) : Int) - 1) (by rw [show ((k' + 1 : Nat) : Int) - 1 = (k' : Int) by omega]; exact atI_nat (SL_get hl')), ?_⟩
      walk_at "x"
      exact ⟨by simp [hlt], rfl⟩
    refine xb_nil ?_
    refine xb_one (xs_if_f ?_ (xb_nil ⟨_, rfl⟩))
    walk_at "x"
    intro Qc hq
    rw [show ((k : Int) + 1) = ((k + 1 : Nat) : Int) by omega, cutD_to]
    have hsub : ∀ x ∈ (ls.take (k + 1)).flatten, x ∈ us ls.flatten := fun x hx => by
      obtain ⟨l, hl, hx⟩ := List.mem_flatten.mp hx
      exact mem_us.mpr (List.mem_flatten.mpr ⟨l, List.mem_of_mem_take hl, hx⟩)
    have hfew := ht.few
    have hus := us_len_le hsub
    refine ⟨_, ls.take (k + 1), rfl, .inr (by simp [SL, List.map_take]), by simp; omega, ?_, hq _ ?_⟩
    · have := flat2 (ls := ls.take (k + 1)) fun l hl => ht.two l (List.mem_of_mem_take hl)
      have := List.length_take_le (k + 1) ls
      omega
    clear hq Qc
    walk_at "x"
    exact ⟨by simp; omega, rfl⟩
  · rintro Γ2 ⟨o, rfl⟩
    walk_at "x"
    intro Qc hq
    refine ⟨_, ls, rfl, .inr rfl, ht.two, ht.ne, by omega, ht.conn, hq _ ?_⟩; clear hq Qc
    walk_at "x"
    exact h
theorem m_Web (df : DeI T "Web" Cw "Web.__init__" ["self", "ties"] s_Web___init__) (cl : Cls T.K Cw) (n1 : NoAttr T.K Cw "pairs") (n2 : NoAttr T.K Cw "letters") (c1 : Cp T "check_ties" 4 sChk) (c2 : Cp T "places_in" 1 sPlaces) : Mk' T "Web" Cw 5 sWebI := by
  refine mk_of df sc_Web___init__ (fun ds Q ⟨ls, h, _⟩ => by rw [h]; rfl) ?_
  rintro hN f cdv A outer s H E0 hr m o ds Q E ⟨ls, rfl, ht, h⟩
  walk_at "x"
  intro Qc hq
  refine ⟨ls, rfl, ht, hq _ ?_⟩; clear hq Qc
  walk_at "x"
  refine xs_fld (i := 0) cl n1 rfl (.inl rfl) rfl ?_
  walk_at "x"
  refine ⟨[], [], [], rfl, by simp, ?_⟩
  walk_at "x"
  refine xs_fld (i := 0) cl n2 rfl (.inl rfl) rfl ?_
  walk_at "x"
  intro Qc hq
  refine ⟨_, ls, rfl, .inr rfl, by have := ht.len; omega, by have := flat2 ht.two; have := ht.len; omega, hq _ ?_⟩; clear hq Qc
  refine ⟨[], _, [], rfl, by simp [putFD], ?_⟩
  walk_at "x"
  refine ⟨_, rfl, rfl, ?_⟩
  exact h
theorem c_web_of (df : De T "web_of" ["arrows"] s_web_of) (c1 : Mk' T "Web" Cw 5 sWebI) (c2 : Cp T "pair_of" 1 sPair) : Cp T "web_of" 7 (sWebOf Cw) := by
  refine cp_of df sc_web_of (fun ds Q ⟨ls, h, _⟩ => by rw [h]; rfl) ?_
  rintro hN f cdv A outer s H E0 hr m ds Q E ⟨as, rfl, ha, h⟩
  walk_at "x"
  refine xe_lcA (fun l => .str (S l)) (fun l => .str (S l)) (i := 1) hN rfl (by show blkC n_web_of (defScope s_web_of) _ _ = true; decide +kernel) (fun _ _ _ _ _ => .inl rfl) (fun _ _ _ _ _ => .inr rfl) ?_
  refine xi_any ?_
  walk_at "xv"
  refine ⟨_, items_tup _, as, fun l => some (pr2 l), rfl, by have := ha.len; omega, ?_, ?_⟩
  · intro l hl μ' s1 H1 C1 cl1 fp1
    obtain ⟨a, b, rfl⟩ := ha.two l hl
    walk_at "x"
    intro s3 H3 C3 cl3 fp3
    walk_at "x"
    intro Qc hq
    refine ⟨_, _, rfl, by simp, hq _ ?_⟩; clear hq Qc
    rw [pr2_pair]
    exact ⟨_, rfl, rfl, rfl⟩
  have e : (as.filterMap fun l => some (pr2 l)) = as.map pr2 := by simp
  rw [e]
  walk_at "x"
  intro Qc hq
  exact ⟨_, rfl, ha.ties, hq _ h⟩
theorem p_Way_web (df : DeP T Cy "web" "Way.web" ["self"] s_Way_web) (cl : Cls T.K Cy) (n1 : NoAttr T.K Cy "lot") (c1 : Cp T "web_of" 7 (sWebOf Cw)) : Pr T Cy "web" 8 (sWayWeb Cy Cw) := by
  refine pr_of df sc_Way_web (fun ds Q ⟨ls, h, _⟩ => by rw [h]; rfl) ?_
  rintro hN f cdv A outer s H E0 hr m ds Q E ⟨as, rfl, ha, h⟩
  walk_at "x"
  refine ⟨Cy, _, _, rfl, cl, n1, rfl, ?_⟩
  walk_at "x"
  intro Qc hq
  exact ⟨_, rfl, ha, hq _ h⟩
theorem p_Way_arrows (df : DeP T Cy "arrows" "Way.arrows" ["self"] s_Way_arrows) (cl : Cls T.K Cy) (n1 : NoAttr T.K Cy "lot") : Pr T Cy "arrows" 1 (sWayArrows Cy) := by
  refine pr_of df sc_Way_arrows (fun ds Q ⟨ls, h, _⟩ => by rw [h]; rfl) ?_
  rintro hN f cdv A outer s H E0 hr m ds Q E ⟨ls, rfl, h⟩
  walk_at "x"
  exact ⟨Cy, _, _, rfl, cl, n1, rfl, h⟩
theorem e_Web (df : DeQ T Cw "Web.__eq__" ["self", "other"] s_Web___eq__) (oc : OCls T.K Cw) (io : IsO T.K Cw) (n1 : NoAttr T.K Cw "pairs") (hW : T.mg "Web" = some (.ref Cw)) : Eq' T Cw 1 (sWebEq Cw) := by
  refine eq_of df sc_Web___eq__ (fun ds Q ⟨a, b, h, _⟩ => by rw [h]; rfl) ?_
  rintro hN f cdv A outer s H E0 hr m ds Q E ⟨a, b, rfl, ha, hb, h⟩
  walk_at "x"
  refine ⟨Cw, _, _, rfl, oc.c, n1, rfl, ?_⟩
  walk_at "x"
  refine ⟨Cw, _, _, rfl, oc.c, n1, rfl, ?_⟩
  exact ⟨_, od_eqT hr.units ha hb, h⟩
theorem c_step_over (df : De T "step_over" ["arrow", "other", "place"] s_step_over) : Cp T "step_over" 1 sStep := by
  refine cp_of df sc_step_over (fun ds Q ⟨a, b, p, o, h, _⟩ => by rw [h]; rfl) ?_
  rintro hN f cdv A outer s H E0 hr m ds Q E ⟨a, b, p, o, rfl, h⟩
  unfold stepO at h
  walk_at "x"
  refine ite_c (fun e => ?_) (fun e => ?_)
  · rw [if_pos e] at h
    walk_at "x"
    exact h
  · rw [if_neg e] at h
    walk_at "x"
    refine ite_c (fun e2 => ?_) (fun e2 => ?_)
    · have e2 : a = p := by simpa using e2
      rw [if_pos (show fst2 [a, b] = p from e2)] at h
      walk_at "x"
      exact h
    · have e2 : ¬ a = p := by simpa using e2
      rw [if_neg (show ¬ fst2 [a, b] = p from e2)] at h
      walk_at "x"
      exact h
theorem c_numbers_from (zz : T.mg "zip" = none) (df : De T "numbers_from" ["arrows", "others"] s_numbers_from) (c1 : Cp T "places_in" 1 sPlaces) (c2 : Cp T "step_over" 1 sStep) : Cp T "numbers_from" 3 sNumFrom := by
  refine cp_of df sc_numbers_from (fun ds Q ⟨a, b, h, _⟩ => by rw [h]; rfl) ?_
  rintro hN f cdv A outer s H E0 hr m ds Q E ⟨as, bs, rfl, ha, hb, hs, h⟩
  obtain ⟨l0, ls, e0⟩ : ∃ l0 ls, as = l0 :: ls := by
    cases as with
    | nil => exact absurd rfl ha.ne
    | cons l0 ls => exact ⟨l0, ls, rfl⟩
  obtain ⟨a0, b0, rfl, hl0⟩ := ha.pr l0 (by rw [e0]; simp)
  have hfl : as.flatten.length ≤ 20 := by
    have := flat2 (fun l hl => ha.two l hl)
    have := ha.len
    omega
  have hal := ha.len
  have hpos : 1 ≤ (us as.flatten).length := List.length_pos_of_mem (a := a0) (mem_us.mpr (by rw [e0]; simp))
  have h7 := ha.few
  have hall := fun n => nf_all ha.two hb hs ha.loop ha.ne ha.connA (pl := us as.flatten) (fun x => mem_us) (us_nodup _) n
  have hn0 : nf as bs 0 = [(a0, 0)] := by rw [e0]; rfl
  obtain ⟨pl, hpl⟩ : ∃ pl, pl = us as.flatten := ⟨_, rfl⟩
  rw [← hpl] at hpos h7 h hall
  refine xb_cons ?_
  walk_at "xset"
  refine xe_own_lst ?_
  walk_at "x"
  refine ⟨_, ixd_tup (atI_nat (k := 0) (SL_get (by rw [e0]; rfl))), ?_⟩
  walk_at "x"
  refine ⟨by simp, ?_⟩
  walk_at "x"
  refine ⟨by simp, fun p => ?_⟩
  refine xb_cons (xs_forN (i := 3) PassesOwn.never hN rfl (.inl rfl) (xi_rng1 rfl B.range ?_))
  walk_at "x"
  intro Qc hq
  refine ⟨_, as, rfl, .inr rfl, by omega, by omega, hq _ ?_⟩; clear hq Qc
  rw [← hpl]
  walk_at "x"
  refine ⟨by omega, by omega, ?_⟩
  have e1 : ((pl.length : Int) - 1).toNat = pl.length - 1 := by omega
  rw [e1]
  refine ⟨fun t Γ1 => ∃ o3 o4 o5 o6 o7 o8 o9 o10 o11, Γ1 = ⟨[some (.tup (SL as)), some (.tup (SL bs)), some (.ref p), o3, o4, o5, o6, o7, o8, o9, o10, o11, none], [(p, .lst (numD (nf as bs t)))]⟩, ⟨none, none, none, none, none, none, none, none, none, by rw [hn0]; rfl⟩, ?_, ?_⟩
  · rintro t d Γ2 hd ⟨o3, o4, o5, o6, o7, o8, o9, o10, o11, rfl⟩
    obtain ⟨ht, rfl⟩ := rng_get hd
    obtain ⟨i1, _, i3⟩ := hall t
    have hlen := i3 (by omega)
    obtain ⟨fd, hfd⟩ : ∃ fd, fd = nf as bs t := ⟨_, rfl⟩
    have hstep : nf as bs (t + 1) = nfStep as bs fd := by rw [hfd]; rfl
    rw [← hfd] at i1 hlen ⊢
    refine xb_cons (xs_lcCA nD (fun l => .str (S l)) (i := 12) (ic := 2) (j := 4) hN rfl (by show blkC n_numbers_from (defScope s_numbers_from) _ _ = true; decide +kernel) (fun _ _ _ _ _ => .inl rfl) (fun _ _ _ _ _ => .inr rfl) rfl (.inl rfl) rfl (List.mem_singleton.mpr rfl) rfl rfl rfl rfl rfl ?_)
    refine ⟨fd, fun q => some [q.1], rfl, by omega, ?_, ?_⟩
    · intro q hq μ' s1 H1 C1 cl1 fp1
      walk_at "x"
      refine ⟨rfl, ?_⟩
      refine ite_tt fun s2 H2 C2 cl2 fp2 => ?_
      walk_at "x"
      refine ⟨_, ixd_tup rfl, ?_⟩
      exact ⟨_, rfl, rfl, rfl⟩
    have hk : (fd.filterMap fun q : Nat × Int => some [q.1]).map (fun l => D.str (S l)) = SL (ch (keys fd)) := by
      simp [SL, ch, keys, List.filterMap_eq_map']
    rw [hk]
    refine xb_one (xs_for PassesOwn.never rfl (xi_zip rfl zz ?_))
    walk_at "x"
    refine ⟨_, _, .inl rfl, ?_⟩
    have hmiss : ∀ k, k ≤ (as.zip bs).length → (∀ x ∈ (as.zip bs).take k, crosses (keys fd) x.1 = false) → ∀ x, (as.zip bs)[k]? = some x → crosses (keys fd) x.1 = true → (as.zip bs).find? (fun x => crosses (keys fd) x.1) = some x := by
      intro k hk hno x hx hc
      have e : as.zip bs = (as.zip bs).take k ++ (as.zip bs).drop k := (List.take_append_drop k _).symm
      rw [e, List.find?_append]
      have e2 : ((as.zip bs).take k).find? (fun x => crosses (keys fd) x.1) = none := List.find?_eq_none.mpr fun y hy => by rw [hno y hy]; simp
      rw [e2, Option.none_or]
      have hlt : k < (as.zip bs).length := (List.getElem?_eq_some_iff.mp hx).1
      rw [List.drop_eq_getElem_cons hlt, List.find?_cons]
      have e3 : (as.zip bs)[k] = x := (List.getElem?_eq_some_iff.mp hx).2
      rw [e3, hc]
    refine ⟨fun k Γ1 => ∃ o5 o6 o7 o8, Γ1 = ⟨[some (.tup (SL as)), some (.tup (SL bs)), some (.ref p), some (.int (t : Int)), some (.lst (SL (ch (keys fd)))), o5, o6, o7, o8, o9, o10, o11, none], [(p, .lst (numD fd))]⟩ ∧ k ≤ (as.zip bs).length ∧ ∀ x ∈ (as.zip bs).take k, crosses (keys fd) x.1 = false, ⟨o5, o6, o7, o8, rfl, Nat.zero_le _, by simp⟩, ?_, ?_⟩
    · clear o5 o6 o7 o8
      rintro k d Γ2 hd ⟨o5, o6, o7, o8, rfl, hkl, hno⟩
      obtain ⟨dx, dy, hdx, hdy, rfl⟩ := zipD_get hd
      obtain ⟨l, hl, rfl⟩ : ∃ l, as[k]? = some l ∧ dx = .str (S l) := by
        unfold SL at hdx
        rw [List.getElem?_map] at hdx
        obtain ⟨l, hl, e⟩ := Option.map_eq_some_iff.mp hdx
        exact ⟨l, hl, e.symm⟩
      obtain ⟨o, ho, rfl⟩ : ∃ o, bs[k]? = some o ∧ dy = .str (S o) := by
        unfold SL at hdy
        rw [List.getElem?_map] at hdy
        obtain ⟨l, hl, e⟩ := Option.map_eq_some_iff.mp hdy
        exact ⟨l, hl, e.symm⟩
      obtain ⟨a, b, rfl, hla, hlb, hab⟩ := ha.pr l (List.mem_of_getElem? hl)
      have hz : (as.zip bs)[k]? = some ([a, b], o) := List.getElem?_zip_eq_some.mpr ⟨hl, ho⟩
      have hzl : k < (as.zip bs).length := (List.getElem?_eq_some_iff.mp hz).1
      refine xg_tup rfl rfl (xgs_cons ?_)
      walk_at "xgn"
      refine xgs_cons ?_
      walk_at "xgn"
      refine xgs_nil ?_
      refine xb_cons (xs_asg ?_)
      walk_at "x"
      refine xg_twoS rfl (by omega) (by omega) (xgs_cons ?_)
      walk_at "xgn"
      refine xgs_cons ?_
      walk_at "xgn"
      refine xgs_nil ?_
      refine xb_one (xs_if_b (crosses (keys fd) [a, b]) ?_ ?_)
      · walk_at "x"
        refine ⟨?_, rfl⟩
        simp only [mem_ch]
        show (!decide (decide (a ∈ keys fd) = decide (b ∈ keys fd))) = (decide (a ∈ keys fd) != decide (b ∈ keys fd))
        by_cases h1 : a ∈ keys fd <;> by_cases h2 : b ∈ keys fd <;> simp [h1, h2]
      · refine ite_b (fun hc => ?_) (fun hc => ?_)
        · have hfind := hmiss k hkl hno _ hz hc
          have hnew : nfStep as bs fd = fd ++ [nfNew fd ([a, b], o)] := by
            unfold nfStep
            rw [hfind]
          obtain ⟨near, far, hnear, hfar⟩ : ∃ near far, near = nearO (keys fd) [a, b] ∧ far = farO (keys fd) [a, b] := ⟨_, _, rfl, rfl⟩
          have hnk : near ∈ keys fd := by
            rw [hnear]
            unfold nearO
            unfold crosses at hc
            by_cases h1 : fst2 [a, b] ∈ keys fd
            · rw [if_pos h1]; exact h1
            · rw [if_neg h1]
              exact Decidable.byContradiction fun h2 => by simp [h1, h2] at hc
          obtain ⟨⟨near', nv⟩, hm1, hm2⟩ := List.mem_map.mp hnk
          have hm2 : near' = near := hm2
          subst hm2
          refine xb_cons (xs_asg ?_)
          refine xe_cut (d := .tup [.str (S [near']), .str (S [far])]) ?_ ?_
          · walk_at "x"
            refine ite_c (fun h1 => ?_) (fun h1 => ?_)
            · have h1 : fst2 [a, b] ∈ keys fd := mem_ch.mp h1
              walk_at "x"
              refine ⟨by simp, ?_, rfl⟩
              rw [hnear, hfar]
              unfold nearO farO
              rw [if_pos h1, if_pos h1]
              rfl
            · have h1 : ¬ fst2 [a, b] ∈ keys fd := fun z => h1 (mem_ch.mpr z)
              walk_at "x"
              refine ⟨by simp, ?_, rfl⟩
              rw [hnear, hfar]
              unfold nearO farO
              rw [if_neg h1, if_neg h1]
              rfl
          refine xg_tup rfl rfl (xgs_cons ?_)
          walk_at "xgn"
          refine xgs_cons ?_
          walk_at "xgn"
          refine xgs_nil ?_
          refine xb_cons ?_
          walk_at "xset"
          refine xe_ix ?_
          refine xe_lcCA nD D.int (i := 12) (ic := 2) hN rfl (by show blkC n_numbers_from (defScope s_numbers_from) _ _ = true; decide +kernel) (fun _ _ _ _ _ => .inl rfl) (fun _ _ _ _ _ => .inr rfl) rfl (.inl rfl) rfl (List.mem_singleton.mpr rfl) ?_
          refine ⟨fd, fun q => if q.1 == near' then some q.2 else none, rfl, by omega, ?_, ?_⟩
          · intro q hq μ' s1 H1 C1 cl1 fp1
            walk_at "x"
            refine ⟨_, ixd_tup rfl, ?_⟩
            walk_at "x"
            refine ⟨rfl, ?_⟩
            refine ite_c (fun h1 => ?_) (fun h1 => ?_)
            · intro s2 H2 C2 cl2 fp2
              walk_at "x"
              refine ⟨_, ixd_tup rfl, ?_⟩
              have h1 : q.1 = near' := by simpa using h1
              exact ⟨_, if_pos (by simpa using h1), rfl, rfl⟩
            · have h1 : ¬ q.1 = near' := by simpa using h1
              exact if_neg (by simpa using h1)
          walk_at "x"
          have hval : ((fd.filterMap fun q : Nat × Int => if q.1 == near' then some q.2 else none).map D.int)[0]? = some (.int (valN fd near')) := by
            have e : (fd.filterMap fun q : Nat × Int => if q.1 == near' then some q.2 else none) = (fd.filter fun e => e.1 == near').map (·.2) := by
              rw [← List.filterMap_eq_filter, ← List.filterMap_eq_map', List.filterMap_filterMap]
              congr 1
              funext q
              by_cases hq : q.1 == near' <;> simp [hq, Option.guard]
            rw [e]
            have hne : (fd.filter fun e => e.1 == near') ≠ [] := fun z => by
              have : (near', nv) ∈ fd.filter fun e => e.1 == near' := List.mem_filter.mpr ⟨hm1, by simp⟩
              rw [z] at this
              cases this
            unfold valN
            cases hf : fd.filter fun e => e.1 == near' with
            | nil => exact absurd hf hne
            | cons q qs => rfl
          refine ⟨_, ixd_lst (atI_nat (k := 0) hval), ?_⟩
          refine xb_cons (xs_expr (xe_append (i := 2) rfl (.inl rfl) rfl ?_ ⟨[], _, [], rfl⟩))
          walk_at "x"
          intro Qc hq
          refine ⟨a, b, far, o, rfl, hq _ ?_⟩; clear hq Qc
          walk_at "x"
          refine ⟨by simp, ?_⟩
          refine ⟨[], _, [], rfl, by unfold numD; rw [List.length_map]; omega, ?_⟩
          refine xb_one (xs_break ?_)
          refine ⟨_, _, _, _, _, _, _, _, _, congrArg (fun z => En.mk _ [(p, Cell.lst z)]) ?_⟩
          rw [hstep, hnew]
          have : nfNew fd ([a, b], o) = (far, valN fd near' + stepO [a, b] o far) := by
            unfold nfNew
            rw [← hnear, ← hfar]
          rw [this]
          simp [numD, nD]
        · refine xb_nil ⟨_, _, _, _, rfl, hzl, fun x hx => ?_⟩
          rw [List.take_add_one, hz] at hx
          rcases List.mem_append.mp hx with hx | hx
          · exact hno x hx
          · simp at hx
            subst hx
            exact hc
    · rintro Γ2 ⟨o5', o6', o7', o8', rfl, hkl, hno⟩
      refine ⟨_, _, _, _, _, _, _, _, _, congrArg (fun z => En.mk _ [(p, Cell.lst z)]) ?_⟩
      have : nfStep as bs fd = fd := by
        unfold nfStep
        have e : (as.zip bs).find? (fun x => crosses (keys fd) x.1) = none := List.find?_eq_none.mpr fun y hy => by
          rw [hno y ?_]
          · simp
          · rw [List.take_of_length_le]
            · exact hy
            · unfold zipD
              simp [SL_len]
        rw [e]
      rw [hstep, this]
  · rintro Γ2 ⟨o3, o4, o5, o6, o7, o8, o9, o10, o11, rfl⟩
    rw [rng_len]
    refine xb_one (xs_ret (xe_var_freeze (c1 := []) (c2 := []) (i := 2) rfl (.inl rfl) rfl rfl ?_))
    exact h
theorem c_is_fitting (zz : T.mg "zip" = none) (df : De T "is_fitting" ["arrows", "others", "numbers"] s_is_fitting) (c2 : Cp T "step_over" 1 sStep) : Cp T "is_fitting" 2 sFitting := by
  refine cp_of df sc_is_fitting (fun ds Q ⟨a, b, fd, h, _⟩ => by rw [h]; rfl) ?_
  rintro hN f cdv A outer s H E0 hr m ds Q E ⟨as, bs, fd, rfl, ha, hb, hs, hnd, hin, h⟩
  have hgood : ∀ x, x ∈ as.flatten → ((numK fd).find? fun q => decide (q.1 = Sum.inr (S [x]))) = some (Sum.inr (S [x]), .int (valN fd x)) := fun x hx => by
    obtain ⟨⟨x', n⟩, h1, h2⟩ := List.mem_map.mp (hin x hx)
    have h2 : x' = x := h2
    subst h2
    rw [numK_find hnd h1, valN_mem hnd h1]
  refine xb_cons (xs_for PassesOwn.never rfl (xi_zip rfl zz ?_))
  walk_at "x"
  refine ⟨_, _, .inl rfl, ?_⟩
  refine ⟨fun k Γ1 => ∃ o3 o4, Γ1 = ⟨[some (.tup (SL as)), some (.tup (SL bs)), some (.dct (numK fd)), o3, o4], []⟩ ∧ ∀ x ∈ (as.zip bs).take k, decide (valN fd (fst2 x.1) - valN fd (snd2 x.1) = stepO x.1 x.2 (fst2 x.1)) = true, ⟨none, none, rfl, by simp⟩, ?_, ?_⟩
  · rintro k d Γ2 hd ⟨o3, o4, rfl, hno⟩
    obtain ⟨dx, dy, hdx, hdy, rfl⟩ := zipD_get hd
    obtain ⟨l, hl, rfl⟩ : ∃ l, as[k]? = some l ∧ dx = .str (S l) := by
      unfold SL at hdx
      rw [List.getElem?_map] at hdx
      obtain ⟨l, hl, e⟩ := Option.map_eq_some_iff.mp hdx
      exact ⟨l, hl, e.symm⟩
    obtain ⟨o, ho, rfl⟩ : ∃ o, bs[k]? = some o ∧ dy = .str (S o) := by
      unfold SL at hdy
      rw [List.getElem?_map] at hdy
      obtain ⟨l, hl, e⟩ := Option.map_eq_some_iff.mp hdy
      exact ⟨l, hl, e.symm⟩
    obtain ⟨a, b, rfl, hla, hlb, hab⟩ := ha.pr l (List.mem_of_getElem? hl)
    have hz : (as.zip bs)[k]? = some ([a, b], o) := List.getElem?_zip_eq_some.mpr ⟨hl, ho⟩
    have hma : a ∈ as.flatten := List.mem_flatten.mpr ⟨_, List.mem_of_getElem? hl, by simp⟩
    have hmb : b ∈ as.flatten := List.mem_flatten.mpr ⟨_, List.mem_of_getElem? hl, by simp⟩
    refine xg_tup rfl rfl (xgs_cons ?_)
    walk_at "xgn"
    refine xgs_cons ?_
    walk_at "xgn"
    refine xgs_nil ?_
    refine xb_one (xs_if_b (!decide (valN fd a - valN fd b = stepO [a, b] o a)) ?_ ?_)
    · refine xt_cmp rfl (xe_op (xe_ixd (by have := hr.units; omega) ?_))
      walk_at "x"
      refine ⟨_, Sum.inr (S [a]), _, rfl, rfl, hgood a hma, ?_⟩
      refine xe_ixd (by have := hr.units; omega) ?_
      walk_at "x"
      refine ⟨_, Sum.inr (S [b]), _, rfl, rfl, hgood b hmb, ?_⟩
      walk_at "x"
      intro Qc hq
      refine ⟨a, b, a, o, rfl, hq _ ?_⟩; clear hq Qc
      walk_at "x"
      exact ⟨rfl, rfl⟩
    · by_cases hc : valN fd a - valN fd b = stepO [a, b] o a
      · rw [decide_eq_true hc]
        refine ite_nt (xb_nil ⟨_, _, rfl, fun x hx => ?_⟩)
        rw [List.take_add_one, hz] at hx
        rcases List.mem_append.mp hx with hx | hx
        · exact hno x hx
        · simp at hx
          subst hx
          exact decide_eq_true hc
      · rw [decide_eq_false hc]
        refine ite_nf ?_
        walk_at "x"
        have : fitB as bs (valN fd) = false := by
          unfold fitB
          rw [List.all_eq_false]
          exact ⟨_, List.mem_of_getElem? hz, fun z => hc (of_decide_eq_true z)⟩
        rw [this] at h
        exact h
  · rintro Γ2 ⟨o3, o4, rfl, hno⟩
    walk_at "x"
    have : fitB as bs (valN fd) = true := by
      unfold fitB
      rw [List.all_eq_true]
      intro x hx
      refine hno x ?_
      rw [List.take_of_length_le]
      · exact hx
      · unfold zipD
        simp [SL_len]
    rw [this] at h
    exact h
theorem c_numbers_of (zd : T.mg "dict" = none) (df : De T "numbers_of" ["way", "other_way"] s_numbers_of) (p1 : Pr T Cy "web" 8 (sWayWeb Cy Cw)) (p2 : Pr T Cy "arrows" 1 (sWayArrows Cy)) (e1 : Eq' T Cw 1 (sWebEq Cw)) (c1 : Cp T "numbers_from" 3 sNumFrom) (c2 : Cp T "is_fitting" 2 sFitting) : Cp T "numbers_of" 10 (sNumOf Cy) := by
  refine cp_of df sc_numbers_of (fun ds Q ⟨a, b, h, _⟩ => by rw [h]; rfl) ?_
  rintro hN f cdv A outer s H E0 hr m ds Q E ⟨as, bs, rfl, ha, hb, h1, h2⟩
  refine xb_cons (xs_if_b (!decide (as.map pr2 = bs.map pr2)) ?_ ?_)
  · walk_at "x"
    intro Qc hq
    refine ⟨as, rfl, ha, hq _ ?_⟩; clear hq Qc
    walk_at "x"
    intro Qc hq
    refine ⟨bs, rfl, hb, hq _ ?_⟩; clear hq Qc
    refine ⟨_, od_neOwn (r := decide (as.map pr2 = bs.map pr2)) e1 (hr.mono (by decide)) (fun Qc hq => ⟨_, _, rfl, ha.ties.lw, hb.ties.lw, hq⟩), ?_⟩
    exact ⟨rfl, rfl⟩
  by_cases hs : SameW as bs
  · have hs' : as.map pr2 = bs.map pr2 := hs
    rw [decide_eq_true hs']
    refine ite_nt (xb_nil ?_)
    obtain ⟨h2, h3⟩ := h2 hs
    have ok := nf_ok ha hb.two hs
    obtain ⟨fd, hfd⟩ : ∃ fd, fd = nf as bs ((us as.flatten).length - 1) := ⟨_, rfl⟩
    rw [← hfd] at ok
    have h7 := ha.few
    have hfl : fd.length ≤ 7 := by
      have := ok.perm.length_eq
      unfold keys at this
      rw [List.length_map] at this
      omega
    obtain ⟨m, hm, hml⟩ : ∃ m ∈ fd.map (·.2), ∀ y ∈ fd.map (·.2), m ≤ y := by
      obtain ⟨q, hq, hmax⟩ := max_on (fun p => - valN fd p) (keys fd) (fun z => ok.ne (by unfold keys at z; simpa using z))
      obtain ⟨⟨q', n⟩, hq1, hq2⟩ := List.mem_map.mp hq
      have hq2 : q' = q := hq2
      subst hq2
      refine ⟨n, List.mem_map.mpr ⟨_, hq1, rfl⟩, fun y hy => ?_⟩
      obtain ⟨⟨z, k⟩, hz1, hz2⟩ := List.mem_map.mp hy
      have hz2 : k = y := hz2
      subst hz2
      have := hmax z (List.mem_map.mpr ⟨_, hz1, rfl⟩)
      simp only [valN_mem ok.nd hz1, valN_mem ok.nd hq1] at this
      omega
    walk_at "x"
    intro Qc hq
    refine ⟨as, rfl, hq _ ?_⟩; clear hq Qc
    walk_at "x"
    intro Qc hq
    refine ⟨bs, rfl, hq _ ?_⟩; clear hq Qc
    walk_at "x"
    intro Qc hq
    refine ⟨as, bs, rfl, ha, hb.two, hs, hq _ ?_⟩; clear hq Qc
    rw [← hfd]
    refine xb_cons ?_
    walk_at "xset"
    refine xe_callB rfl B.min PyProof.Rows.boot_min ?_
    refine xa_cons (xe_lcA nD D.int (i := 5) hN rfl (by show blkC n_numbers_of (defScope s_numbers_of) _ _ = true; decide +kernel) (fun _ _ _ _ _ => .inl rfl) (fun _ _ _ _ _ => .inr rfl) ?_)
    refine xi_any ?_
    walk_at "xv"
    refine ⟨_, rfl, fd, fun q => some q.2, rfl, by omega, ?_, ?_⟩
    · intro q hq μ' s1 H1 C1 cl1 fp1
      walk_at "x"
      intro s2 H2 C2 cl2 fp2
      walk_at "x"
      refine ⟨_, ixd_tup rfl, ?_⟩
      exact ⟨_, rfl, rfl, rfl⟩
    refine xa_nil ?_
    have hmap : (fd.filterMap fun q : Nat × Int => some q.2) = fd.map (·.2) := by simp [List.filterMap_eq_map']
    rw [hmap]
    refine ⟨_, cd_minL rfl hm hml, ?_⟩
    refine xb_cons ?_
    walk_at "xset"
    refine xe_own_tup rfl B.tuple (xa_cons (xe_callB rfl B.sorted PyProof.Rows.boot_sorted (xa_cons (xe_lcT nD nD (i := 6) (j := 7) hN rfl rfl (by decide) (by show blkC n_numbers_of (defScope s_numbers_of) _ _ = true; decide +kernel) (fun _ _ _ _ _ => .inl rfl) (fun _ _ _ _ _ => .inr rfl) (fun _ _ _ _ _ => .inl rfl) (fun _ _ _ _ _ => .inr rfl) (fun _ _ _ _ _ => rfl) (fun _ _ _ _ _ => rfl) (fun _ _ _ _ _ => rfl) (fun _ _ _ _ _ => rfl) (fun _ _ _ _ _ => rfl) ?_))))
    refine xi_any ?_
    walk_at "xv"
    refine ⟨_, rfl, fd, fun q => some (q.1, q.2 - m), rfl, by omega, ?_, ?_⟩
    · intro q hq
      refine ⟨_, rfl, fun μ' s1 H1 C1 cl1 fp1 => ?_⟩
      walk_at "x"
      intro s2 H2 C2 cl2 fp2
      walk_at "x"
      refine ⟨by simp, ?_⟩
      exact ⟨_, rfl, rfl, rfl⟩
    refine xa_nil ?_
    have hmap2 : (fd.filterMap fun q : Nat × Int => some (q.1, q.2 - m)) = fd.map fun e => (e.1, e.2 - m) := by simp [List.filterMap_eq_map']
    rw [hmap2]
    refine ⟨_, cd_sortedE rfl hr.units (e := nD) rfl (nD_sortOk (by rw [List.length_map]; omega)), ?_⟩
    have hkeys := told_keys (as := as) (fd := fd) (m := m)
    rw [nD_sorted (m := toldN as fd m) (by rw [hkeys]; exact us_sorted _) (told_perm ok)]
    refine xa_nil ⟨_, rfl, fun pa => ?_⟩
    have hval : ∀ x ∈ us as.flatten, valN (toldN as fd m) x = valN fd x - m := fun x hx => valN_mem (by unfold Pdl.keys; rw [hkeys]; exact us_nodup _) (List.mem_map.mpr ⟨x, hx, rfl⟩)
    have hfit : fitB as bs (valN (toldN as fd m)) = fitB as bs (fun p => valN fd p - m) := by
      unfold fitB
      rw [Bool.eq_iff_iff, List.all_eq_true, List.all_eq_true]
      have key : ∀ x ∈ as.zip bs, valN (toldN as fd m) (fst2 x.1) = valN fd (fst2 x.1) - m ∧ valN (toldN as fd m) (snd2 x.1) = valN fd (snd2 x.1) - m := by
        rintro ⟨l, o⟩ hx
        have hl := (List.of_mem_zip hx).1
        obtain ⟨a, b, rfl⟩ := ha.two l hl
        exact ⟨hval a (mem_us.mpr (List.mem_flatten.mpr ⟨_, hl, by simp⟩)), hval b (mem_us.mpr (List.mem_flatten.mpr ⟨_, hl, by simp⟩))⟩
      constructor
      · intro hh x hx
        have := hh x hx
        rw [(key x hx).1, (key x hx).2] at this
        exact this
      · intro hh x hx
        rw [(key x hx).1, (key x hx).2]
        exact hh x hx
    refine xb_one (xs_ret (xe_if ?_))
    refine xt_cut (fitB as bs (fun p => valN fd p - m)) ?_ ?_
    · walk_at "x"
      intro Qc hq
      refine ⟨as, rfl, hq _ ?_⟩; clear hq Qc
      walk_at "x"
      intro Qc hq
      refine ⟨bs, rfl, hq _ ?_⟩; clear hq Qc
      refine xa_cons (xe_dictX' (i := 4) (c1 := []) (c2 := []) (kvs := numK (toldN as fd m)) rfl (numK_pr _).symm rfl zd rfl (.inl rfl) rfl ?_ (numK_nodup (by rw [hkeys]; exact us_nodup _)) ?_)
      · unfold numK toldN
        rw [List.length_map, List.length_map]
        omega
      refine xa_nil ?_
      intro Qc hq
      refine ⟨as, bs, _, rfl, ha, hb.two, hs, by rw [hkeys]; exact us_nodup _, fun x hx => by rw [hkeys]; exact mem_us.mpr hx, hq _ ?_⟩; clear hq Qc
      exact ⟨_, rfl, hfit, rfl⟩
    · refine ite_b (fun hc => ?_) (fun hc => ?_)
      · have hfit2 := (fitB_iff ha.two).mp hc
        refine xe_var_freeze (c1 := []) (c2 := []) (i := 4) rfl (.inl rfl) rfl rfl ?_
        refine h2 (fun p => valN fd p - m) hfit2 (fun p hp => ?_) ?_
        · have hp' := ok.perm.mem_iff.mpr (mem_us.mpr hp)
          obtain ⟨⟨p', n⟩, q1, q2⟩ := List.mem_map.mp hp'
          have q2 : p' = p := q2
          subst q2
          show 0 ≤ valN fd p' - m
          rw [valN_mem ok.nd q1]
          have := hml n (List.mem_map.mpr ⟨_, q1, rfl⟩)
          omega
        · obtain ⟨⟨p', n⟩, q1, q2⟩ := List.mem_map.mp hm
          have q2 : n = m := q2
          subst q2
          refine ⟨p', mem_us.mp (ok.perm.mem_iff.mp (List.mem_map.mpr ⟨_, q1, rfl⟩)), ?_⟩
          show valN fd p' - n = 0
          rw [valN_mem ok.nd q1]
          omega
      · refine xe_drop (c1 := []) (c2 := []) ?_
        walk_at "x"
        refine h3 fun ⟨g, hg⟩ => ?_
        have := (fitB_iff ha.two).mpr ((ok.fit g hg).shift (m := m))
        rw [hc] at this
        cases this
  · have hs' : ¬ as.map pr2 = bs.map pr2 := hs
    rw [decide_eq_false hs']
    refine ite_nf ?_
    walk_at "x"
    exact h1 hs
theorem f_times {g : Addr} {fd : FuncData} (df : Fun T.K "times" "times" s_times g fd) (c1 : Cp T "check_both" 2 (sBoth Cy)) (c2 : Cp T "numbers_of" 10 (sNumOf Cy)) : FnOk T.P T.w T.K T.mg T.base CX0 11 g fd ["way", "other_way"] (spD T.K (pS (sNumOf Cy))) := by
  refine fnp df sc_times (fun ds Q ⟨a, b, h, _⟩ => by rw [h]; rfl) ?_
  rintro hN f cdv A outer s H E0 hr m ds Q E ⟨as, bs, rfl, ha, hb, h1, h2⟩
  walk_at "x"
  intro Qc hq
  refine ⟨as, bs, rfl, hq _ ?_⟩; clear hq Qc
  walk_at "x"
  intro Qc hq
  exact ⟨as, bs, rfl, ha, hb, fun z => hq _ (h1 z), fun z => ⟨fun f hf h0 hz => hq _ ((h2 z).1 f hf h0 hz), fun hno => hq _ ((h2 z).2 hno)⟩⟩
theorem f_are_like {g : Addr} {fd : FuncData} (df : Fun T.K "are_like" "are_like" s_are_like g fd) (c1 : Cp T "check_both" 2 (sBoth Cy)) (c2 : Cp T "numbers_of" 10 (sNumOf Cy)) : FnOk T.P T.w T.K T.mg T.base CX0 11 g fd ["way", "other_way"] (spD T.K (pS (sLike Cy))) := by
  refine fnp df sc_are_like (fun ds Q ⟨a, b, h, _⟩ => by rw [h]; rfl) ?_
  rintro hN f cdv A outer s H E0 hr m ds Q E ⟨as, bs, rfl, ha, hb, h1, h2⟩
  walk_at "x"
  intro Qc hq
  refine ⟨as, bs, rfl, hq _ ?_⟩; clear hq Qc
  walk_at "x"
  intro Qc hq
  refine ⟨as, bs, rfl, ha, hb, fun z => hq _ ?_, fun z => ⟨fun f hf h0 hz => hq _ ?_, fun hno => hq _ ?_⟩⟩
  · clear hq Qc
    walk_at "x"
    refine h2 fun ⟨row, hr⟩ => z (hr.facts ha.two ha.rk).2.2.1
  · clear hq Qc
    walk_at "x"
    exact h1 ((fit_iff ha hb.two z).mp ⟨f, hf⟩)
  · clear hq Qc
    walk_at "x"
    exact h2 fun hre => hno ((fit_iff ha hb.two z).mpr hre)
theorem c_length (zs : T.mg "sum" = none) (df : De T "length" ["way", "other_way"] s_length) (c1 : Cp T "times" 11 (sNumOf Cy)) : Cp T "length" 12 (sLength Cy) := by
  refine cp_of df sc_length (fun ds Q ⟨a, b, h, _⟩ => by rw [h]; rfl) ?_
  rintro hN f cdv A outer s H E0 hr m ds Q E ⟨as, bs, rfl, ha, hb, h1, h2⟩
  walk_at "x"
  intro Qc hq
  refine ⟨as, bs, rfl, ha, hb, fun z => hq _ ?_, fun z => ⟨fun f hf h0 hz => hq _ ?_, fun hno => hq _ ?_⟩⟩
  · clear hq Qc
    walk_at "x"
    refine h1 fun ⟨row, hr⟩ => z (hr.facts ha.two ha.rk).2.2.1
  · clear hq Qc
    walk_at "x"
    obtain ⟨n, hsum, hlen⟩ := fit_len ha hb.two z hf h0 hz
    have hfew := ha.few
    refine xe_callB rfl zs PyProof.Rows.boot_sum (xa_cons ?_)
    refine xe_lcA nD D.int (i := 3) hN rfl (by show blkC n_length (defScope s_length) _ _ = true; decide +kernel) (fun _ _ _ _ _ => .inl rfl) (fun _ _ _ _ _ => .inr rfl) ?_
    refine xi_any ?_
    walk_at "xv"
    refine ⟨_, rfl, (us as.flatten).map fun p => (p, f p), fun e => some e.2, rfl, by rw [List.length_map]; omega, ?_, ?_⟩
    · intro e he μ' s1 H1 C1 cl1 fp1
      walk_at "x"
      intro s2 H2 C2 cl2 fp2
      unfold nD
      walk_at "x"
      refine ⟨_, ixd_tup (atI_nat (k := 1) rfl), ?_⟩
      exact ⟨_, rfl, rfl, rfl⟩
    have hfm : (((us as.flatten).map fun p => (p, f p)).filterMap fun e : Nat × Int => some e.2) = (us as.flatten).map f := by
      rw [List.filterMap_eq_map', List.map_map]
      rfl
    rw [hfm]
    refine xa_nil ⟨_, cd_sum rfl, ?_⟩
    rw [hsum]
    exact h2 n hlen
  · clear hq Qc
    walk_at "x"
    exact h1 fun hre => hno ((fit_iff ha hb.two z).mpr hre)
theorem c_does_give (df : De T "does_give" ["arrows", "place"] s_does_give) : Cp T "does_give" 1 sGives := by
  refine cp_of df sc_does_give (fun ds Q ⟨a, b, h, _⟩ => by rw [h]; rfl) ?_
  rintro hN f cdv A outer s H E0 hr m ds Q E ⟨as, p, rfl, h2, hl, h⟩
  walk_at "x"
  refine xe_lcA (fun l => .str (S l)) D.bl (i := 2) hN rfl (by show blkC n_does_give (defScope s_does_give) _ _ = true; decide +kernel) (fun _ _ _ _ _ => .inl rfl) (fun _ _ _ _ _ => .inr rfl) ?_
  refine xi_any ?_
  walk_at "xv"
  refine ⟨_, items_tup _, as, fun l => some (decide ([snd2 l] = [p])), rfl, by omega, ?_, ?_⟩
  · intro l hl μ' s1 H1 C1 cl1 fp1
    obtain ⟨a, b, rfl⟩ := h2 l hl
    walk_at "x"
    intro s2 H2 C2 cl2 fp2
    walk_at "x"
    exact ⟨rfl, rfl⟩
  refine xa_nil ⟨_, cd_any rfl, ?_⟩
  walk_at "x"
  have e : (as.filterMap fun l => some (decide ([snd2 l] = [p]))).any id = as.any fun l => decide ([snd2 l] = [p]) := by
    rw [List.filterMap_eq_map', List.any_map]
    rfl
  rw [e]
  exact h
theorem c_exchanged (df : De T "exchanged" ["arrows", "place"] s_exchanged) : Cp T "exchanged" 1 sExch := by
  refine cp_of df sc_exchanged (fun ds Q ⟨a, b, h, _⟩ => by rw [h]; rfl) ?_
  rintro hN f cdv A outer s H E0 hr m ds Q E ⟨as, p, rfl, h2, hl, h⟩
  walk_at "x"
  refine xe_lcA (fun l => .str (S l)) (fun l => .str (S l)) (i := 2) hN rfl (by show blkC n_exchanged (defScope s_exchanged) _ _ = true; decide +kernel) (fun _ _ _ _ _ => .inl rfl) (fun _ _ _ _ _ => .inr rfl) ?_
  refine xi_any ?_
  walk_at "xv"
  refine ⟨_, items_tup _, as, fun l => some (exF p l), rfl, by omega, ?_, ?_⟩
  · intro l hl μ' s1 H1 C1 cl1 fp1
    obtain ⟨a, b, rfl⟩ := h2 l hl
    walk_at "x"
    intro s2 H2 C2 cl2 fp2
    walk_at "x"
    refine ite_c (fun hp => ?_) (fun hp => ?_)
    · walk_at "x"
      refine ⟨by simp, ?_⟩
      exact ⟨_, rfl, by unfold exF; rw [if_pos hp], rfl⟩
    · walk_at "x"
      exact ⟨by unfold exF; rw [if_neg hp], rfl⟩
  have e : (as.filterMap fun l => some (exF p l)).map (fun l => D.str (S l)) = SL (exch as p) := by
    rw [List.filterMap_eq_map']
    rfl
  rw [e]
  walk_at "x"
  exact h
theorem c_row_slip (df : De T "row_slip" ["arrows", "row"] s_row_slip) (c1 : Cp T "places_in" 1 sPlaces) (c2 : Cp T "does_give" 1 sGives) (c3 : Cp T "exchanged" 1 sExch) : Cp T "row_slip" 2 sSlip := by
  refine cp_of df sc_row_slip (fun ds Q ⟨a, b, h, _⟩ => by rw [h]; rfl) ?_
  rintro hN f cdv A outer s H E0 hr m ds Q E ⟨as, row, rfl, h2, hl, hrl, h⟩
  have hfl : as.flatten.length ≤ 1000 := by
    have := flat2 (fun l hl => h2 l hl)
    omega
  obtain ⟨pl, hpl⟩ : ∃ pl, pl = us as.flatten := ⟨_, rfl⟩
  rw [← hpl] at h
  refine xb_cons (xs_par (i := 2) (j := 3) rfl hN rfl rfl (by decide) rfl rfl ?_)
  walk_at "x"
  intro Qc hq
  refine ⟨_, as, rfl, .inr rfl, by omega, by omega, hq _ ?_⟩; clear hq Qc
  rw [← hpl]
  walk_at "x"
  refine ⟨_, _, rfl, ?_⟩
  refine xb_cons (xs_forN (i := 4) PassesOwn.never hN rfl (.inl rfl) (xi_rng1 rfl B.range ?_))
  walk_at "x"
  refine ⟨by omega, by omega, ?_⟩
  rw [show ((row.length : Int)).toNat = row.length by omega]
  refine ⟨fun k Γ1 => ∃ here o4, Γ1 = ⟨[some (.tup (SL as)), some (.str (S row)), some (.str (S pl)), some (.tup (SL here)), o4], []⟩ ∧ Two here ∧ here.length = as.length ∧ slipR pl as row 0 = slipR pl here (row.drop k) k, ⟨as, none, rfl, h2, rfl, by simp⟩, ?_, ?_⟩
  · rintro k d Γ2 hd ⟨here, o4, rfl, h2', hlh, hsl⟩
    obtain ⟨hk, rfl⟩ := rng_get hd
    have hkc : row[k]? = some row[k] := List.getElem?_eq_getElem hk
    have hdrop : row.drop k = row[k] :: row.drop (k + 1) := List.drop_eq_getElem_cons hk
    rw [hdrop, show ∀ c r, slipR pl here (c :: r) k = if c ∈ pl ∧ givesB here c = true then slipR pl (exch here c) r (k + 1) else (k : Int) from fun _ _ => rfl] at hsl
    generalize row[k] = c at hkc hsl
    refine xb_cons (xs_if_b (!decide (c ∈ pl ∧ givesB here c = true)) ?_ ?_)
    · walk_at "x"
      refine ⟨_, ixd_str (by omega) (atI_nat hkc), ?_⟩
      walk_at "x"
      by_cases h1 : c ∈ pl
      · rw [decide_eq_true h1]
        walk_at "x"
        refine ⟨_, ixd_str (by omega) (atI_nat hkc), ?_⟩
        walk_at "x"
        intro Qc hq
        refine ⟨here, c, rfl, h2', by omega, hq _ ?_⟩; clear hq Qc
        refine ⟨_, rfl, ?_, rfl⟩
        by_cases h3 : givesB here c = true <;> simp [h1, h3]
      · rw [decide_eq_false h1]
        walk_at "x"
        refine ⟨?_, rfl⟩
        simp [h1]
    · by_cases hc : c ∈ pl ∧ givesB here c = true
      · rw [decide_eq_true hc]
        rw [if_pos hc] at hsl
        refine ite_nt (xb_nil ?_)
        walk_at "x"
        refine ⟨_, ixd_str (by omega) (atI_nat hkc), ?_⟩
        walk_at "x"
        intro Qc hq
        refine ⟨here, c, rfl, h2', by omega, hq _ ?_⟩; clear hq Qc
        exact ⟨_, _, rfl, exch_two h2', by rw [exch_len]; exact hlh, hsl⟩
      · rw [decide_eq_false hc]
        rw [if_neg hc] at hsl
        refine ite_nf ?_
        walk_at "x"
        rw [hsl] at h
        exact h
  · rintro Γ2 ⟨here, o4, rfl, h2', hlh, hsl⟩
    rw [rng_len, List.drop_length] at hsl
    walk_at "x"
    rw [hsl] at h
    exact h
theorem c_check_row (df : De T "check_row" ["way", "row"] s_check_row) (p1 : Pr T Cy "arrows" 1 (sWayArrows Cy)) (c1 : Cp T "row_slip" 2 sSlip) : Cp T "check_row" 3 (sChkRow Cy) := by
  refine cp_of df sc_check_row (fun ds Q ⟨a, b, r, h, _⟩ => by rw [h]; rfl) ?_
  rintro hN f cdv A outer s H E0 hr m ds Q E ⟨as, bs, row, rfl, ha, hrow, hrl, h⟩
  have hl := ha.len
  refine xb_cons (xs_if_f ?_ ?_)
  · walk_at "x"
    exact ⟨rfl, rfl⟩
  · walk_at "x"
    intro Qc hq
    refine ⟨as, rfl, hq _ ?_⟩; clear hq Qc
    walk_at "x"
    intro Qc hq
    refine ⟨as, row, rfl, ha.two, by omega, hrl, hq _ ?_⟩; clear hq Qc
    rw [(row_slip hrow ha.two (fun x => mem_us)).1]
    refine xb_one (xs_if_f ?_ ?_)
    · walk_at "x"
      exact ⟨rfl, rfl⟩
    · walk_at "x"
      exact h
theorem c_arrows_behind (df : De T "arrows_behind" ["arrows", "row"] s_arrows_behind) (c3 : Cp T "exchanged" 1 sExch) : Cp T "arrows_behind" 2 sBehindR := by
  refine cp_of df sc_arrows_behind (fun ds Q ⟨a, b, h, _⟩ => by rw [h]; rfl) ?_
  rintro hN f cdv A outer s H E0 hr m ds Q E ⟨as, row, rfl, h2, hl, hrl, h⟩
  refine xb_cons (xs_forN (i := 2) PassesOwn.never hN rfl (.inl rfl) (xi_str ?_))
  walk_at "x"
  refine ⟨fun k Γ1 => ∃ here o, Γ1 = ⟨[some (.tup (SL here)), some (.str (S row)), o], []⟩ ∧ Two here ∧ here.length = as.length ∧ behindR as row = behindR here (row.drop k), ⟨as, none, rfl, h2, rfl, by simp⟩, ?_, ?_⟩
  · rintro k d Γ2 hd ⟨here, o, rfl, h2', hlh, hsl⟩
    rw [List.getElem?_map] at hd
    obtain ⟨c, hc, rfl⟩ := Option.map_eq_some_iff.mp hd
    have hk : k < row.length := (List.getElem?_eq_some_iff.mp hc).1
    have hdrop : row.drop k = c :: row.drop (k + 1) := by
      rw [List.drop_eq_getElem_cons hk, (List.getElem?_eq_some_iff.mp hc).2]
    rw [hdrop] at hsl
    walk_at "x"
    intro Qc hq
    refine ⟨here, c, rfl, h2', by omega, hq _ ?_⟩; clear hq Qc
    exact ⟨_, _, rfl, exch_two h2', by rw [exch_len]; exact hlh, hsl⟩
  · rintro Γ2 ⟨here, o, rfl, h2', hlh, hsl⟩
    rw [List.length_map, List.drop_length] at hsl
    walk_at "x"
    rw [hsl] at h
    exact h
theorem m_Way_by (df : DeM T Cy "by" "Way.by" ["self", "row"] s_Way_by) (cl : Cls T.K Cy) (n1 : NoAttr T.K Cy "lot") (c1 : Cp T "check_row" 3 (sChkRow Cy)) (c2 : Cp T "arrows_behind" 2 sBehindR) (m1 : Mk' T "Way" Cy 5 sWayI) : Me T Cy "by" 10 (sBy Cy) := by
  refine me_of df sc_Way_by (fun ds Q ⟨a, b, r, h, _⟩ => by rw [h]; rfl) ?_
  rintro hN f cdv A outer s H E0 hr m ds Q E ⟨as, bs, row, rfl, ha, hrow, hrl, h⟩
  have hl := ha.len
  walk_at "x"
  intro Qc hq
  refine ⟨as, bs, row, rfl, ha, hrow, hrl, hq _ ?_⟩; clear hq Qc
  walk_at "x"
  refine ⟨_, _, _, rfl, cl, n1, rfl, ?_⟩
  walk_at "x"
  intro Qc hq
  refine ⟨as, row, rfl, ha.two, by omega, hrl, hq _ ?_⟩; clear hq Qc
  rw [(row_slip (i := 0) hrow ha.two (fun x => mem_us)).2]
  walk_at "x"
  intro Qc hq
  refine ⟨_, rfl, hrow.arrs ha, hq _ ?_⟩; clear hq Qc
  exact h
theorem e_Way (df : DeQ T Cy "Way.__eq__" ["self", "other"] s_Way___eq__) (oc : OCls T.K Cy) (io : IsO T.K Cy) (n1 : NoAttr T.K Cy "lot") (hW : T.mg "Way" = some (.ref Cy)) : Eq' T Cy 1 (sWayEq Cy) := by
  refine eq_of df sc_Way___eq__ (fun ds Q ⟨a, b, h, _⟩ => by rw [h]; rfl) ?_
  rintro hN f cdv A outer s H E0 hr m ds Q E ⟨a, b, rfl, ha, hb, h⟩
  walk_at "x"
  refine ⟨Cy, _, _, rfl, oc.c, n1, rfl, ?_⟩
  walk_at "x"
  refine ⟨Cy, _, _, rfl, oc.c, n1, rfl, ?_⟩
  exact ⟨_, od_eqT hr.units ha hb, h⟩
theorem k_jar (df : De T "_law_jar" ["_law_script", "_law_k"] s_Ljar) : Ck T "_law_jar" 1 kKeg := by
  refine ck_of df sc_Ljar (fun ds ⟨ns, k, h, _⟩ => by rw [h]; rfl) ?_
  rintro hN f cdv A outer s H E0 hr m ds Q E ⟨ns, k, rfl, hk, hl⟩ h
  refine xb_closeN ?_
  walk_at "x"
  refine ⟨_, od_mul (.inl ⟨by omega, by omega⟩), ?_⟩
  walk_at "x"
  refine ⟨_, od_mul (.inr ⟨by omega, by omega⟩), ?_⟩
  walk_at "x"
  refine ⟨_, od_mul (.inl ⟨by omega, by omega⟩), ?_⟩
  walk_at "x"
  refine xs_forN (i := 3) PassesOwn.never hN rfl (.inl rfl) (xi_lst ?_)
  walk_at "x"
  have hcut : cutD (ns.map D.int) none (some 4) = (ns.take 4).map D.int := by
    have := cutD_to (ns.map D.int) 4
    rw [show ((4 : Nat) : Int) = 4 from rfl] at this
    rw [this, List.map_take]
  rw [hcut]
  refine ⟨fun j Γ1 => ∃ u o, Γ1 = ⟨[some (.lst (ns.map D.int)), some (.int (k : Int)), some (.int u), o, none, none], []⟩, ⟨_, none, rfl⟩, ?_, ?_⟩
  · rintro j d Γ2 hd ⟨u, o, rfl⟩
    rw [List.getElem?_map] at hd
    obtain ⟨z, hz, rfl⟩ := Option.map_eq_some_iff.mp hd
    walk_at "x"
    refine ⟨_, od_mul (.inr ⟨by omega, by omega⟩), ?_⟩
    walk_at "x"
    refine ⟨_, od_mod (by omega), ?_⟩
    walk_at "x"
    exact ⟨_, _, rfl⟩
  · rintro Γ2 ⟨u, o, rfl⟩
    refine xb_cons ?_
    walk_at "xset"
    refine XE.imp (Q := fun d Γ1 => ∃ v : Int, d = .int v ∧ Γ1 = ⟨[some (.lst (ns.map D.int)), some (.int (k : Int)), some (.int u), o, none, none], []⟩) ?_ ?_
    · walk_at "x"
      refine ite_c (fun hlt => ?_) (fun hlt => ?_)
      · have hlt : k < ns.length := by simpa using hlt
        walk_at "x"
        refine ⟨_, ixd_lst (atI_nat (d := .int ns[k]) (by simp [hlt])), ?_⟩
        exact ⟨_, rfl, rfl⟩
      · walk_at "x"
        rfl
    rintro d Γ1 ⟨v, rfl, rfl⟩
    refine xb_cons ?_
    walk_at "xset"
    refine XE.imp (Q := fun d Γ1 => ∃ c : Int, 0 ≤ c ∧ d = .int c ∧ Γ1 = ⟨[some (.lst (ns.map D.int)), some (.int (k : Int)), some (.int u), o, some (.int v), none], []⟩) ?_ ?_
    · walk_at "x"
      refine ite_c (fun hneg => ?_) (fun hneg => ?_)
      · walk_at "x"
        exact ⟨_, by split <;> omega, rfl, rfl⟩
      · walk_at "x"
        refine ⟨_, od_pow ⟨by omega, by omega, by decide⟩, ?_⟩
        walk_at "x"
        refine ite_c (fun hbig => ?_) (fun hbig => ?_)
        · walk_at "x"
          exact ⟨_, by split <;> omega, rfl, rfl⟩
        · walk_at "x"
          exact ⟨_, by omega, rfl, rfl⟩
    rintro d Γ1 ⟨c, hc, rfl, rfl⟩
    refine xb_one (xs_ret (xe_own_lst (xa_cons ?_)))
    walk_at "x"
    refine ⟨_, od_mul (.inr ⟨by omega, by omega⟩), ?_⟩
    walk_at "x"
    refine ⟨_, od_mul (.inr ⟨by omega, by omega⟩), ?_⟩
    walk_at "x"
    refine ⟨_, od_mul (.inl ⟨by omega, by omega⟩), ?_⟩
    walk_at "x"
    refine ⟨_, od_mod (by omega), ?_⟩
    generalize ha : (u * 8117 + v * 64013 + 105019 * ((k : Int) + 1)) % 2147483563 = a
    have ha0 : 0 ≤ a := by rw [← ha]; exact Int.emod_nonneg _ (by omega)
    refine xa_cons (xe_int ?_)
    exact xa_nil ⟨by simp, fun p => ⟨p, c, a, 0, hc, ha0, by omega, rfl, rfl, h p⟩⟩
theorem j_right (df : De T "_law_right" ["_law_jar_here"] s_Lright) (c1 : Cj T "_law_ties" 4 sJties) (c2 : Cj T "_law_laid" 2 sJlaid) (c3 : Cj T "_law_walk" 3 sWalk) (c4 : Cp T "_law_order" 2 sLorder) (m1 : Mk' T "Way" Cy 5 sWayI) (c5 : Cp T "times" 11 (sNumOf Cy)) (c6 : Cp T "are_like" 11 (sLike Cy)) (c7 : Cp T "length" 12 (sLength Cy))
    (m2 : Me T Cy "by" 10 (sBy Cy)) (e2 : Eq' T Cy 1 (sWayEq Cy)) : CjG T "_law_right" 13 sRight := by
  refine cjg_of df sc_Lright (fun ds Q ⟨h, _⟩ => by rw [h]; rfl) ?_
  rintro hN f0 cdv A outer s H E0 hr hgd m J ds Q E ⟨rfl, h⟩
  refine xb_cons (xs_forN (i := 1) PassesOwn.never hN rfl (.inl rfl) (xi_rng1 rfl B.range ?_))
  walk_at "x"
  refine ⟨by omega, by omega, ?_⟩
  refine ⟨fun j Γ1 => ∃ o1 o2 o3 o4 o5 o6 o7 o8 o9 o10 o11 o12 o13 o14, Γ1 = ⟨[some (.ref J), o1, o2, o3, o4, o5, o6, o7, o8, o9, o10, o11, o12, o13, o14], [(J, .jar)]⟩, ⟨none, none, none, none, none, none, none, none, none, none, none, none, none, none, rfl⟩, ?_, ?_⟩
  · rintro j d Γ2 hj ⟨o1, o2, o3, o4, o5, o6, o7, o8, o9, o10, o11, o12, o13, o14, rfl⟩
    refine xb_cons (xs_asg ?_)
    walk_at "x"
    refine ⟨J, _, _, rfl, rfl, ?_⟩
    intro Qc hq
    refine ⟨7, rfl, by omega, by omega, fun l ls hok => hq _ ?_⟩; clear hq Qc
    have ht := hok.ties
    refine xg_tup rfl rfl (xgs_cons ?_)
    walk_at "xgn"
    refine xgs_cons ?_
    walk_at "xgn"
    refine xgs_nil ?_
    walk_at "x"
    refine ⟨J, _, _, rfl, rfl, ?_⟩
    intro Qc hq
    refine ⟨ls, l, rfl, ht, hok.all, fun o hp => hq _ ?_⟩; clear hq Qc
    have ha : Arrs (ls.map (lay o)) := lay_arrs ht fun x hx => hp.mem_iff.mpr (by rw [← hok.all]; exact mem_us.mpr hx)
    have hpr : (ls.map (lay o)).map pr2 = ls := lay_pr2 ht
    have hul : us (ls.map (lay o)).flatten = l := by rw [← us_pr2 ha.two, hpr, hok.all]
    obtain ⟨as, hae⟩ : ∃ as, as = ls.map (lay o) := ⟨_, rfl⟩
    rw [← hae] at ha hpr hul ⊢
    clear hae hp
    walk_at "x"
    intro Qc hq
    refine ⟨as, rfl, ha, hq _ ?_⟩; clear hq Qc
    refine xb_cons (xs_if_f ?_ (xb_nil ?_))
    · walk_at "x"
      intro Qc hq
      refine ⟨as, rfl, ha, fun W hW hWl => hq _ ?_⟩; clear hq Qc
      walk_at "x"
      intro Qc hq
      refine ⟨as, as, W, rfl, ha, hW, by omega, hq _ ?_⟩; clear hq Qc
      walk_at "x"
      refine ⟨_, od_neOwn (r := decide (as = as)) e2 (hr.mono (by decide)) (fun Qc hq => ⟨_, _, rfl, ha.lw, ha.lw, hq⟩), ?_⟩
      rw [decide_eq_true rfl]
      exact ⟨by simp, rfl⟩
    refine xb_cons (xs_asg (xe_ix ?_))
    walk_at "x"
    refine ⟨J, _, _, rfl, rfl, ?_⟩
    intro Qc hq
    refine ⟨as, 10, rfl, ha, by omega, fun row1 bs hrow1 hrl1 => hq _ ?_⟩; clear hq Qc
    walk_at "x"
    refine ⟨_, ixd_tup (atI_nat (k := 1) rfl), ?_⟩
    refine xg_name (i := 6) hN rfl (.inl rfl) ?_
    have hre1 : Reach as bs := ⟨row1, hrow1⟩
    have hb := hre1.arrs ha
    refine xb_cons (xs_asg (xe_ix ?_))
    walk_at "x"
    refine ⟨J, _, _, rfl, rfl, ?_⟩
    intro Qc hq
    refine ⟨bs, 10, rfl, hb, by omega, fun row2 cs hrow2 hrl2 => hq _ ?_⟩; clear hq Qc
    walk_at "x"
    refine ⟨_, ixd_tup (atI_nat (k := 1) rfl), ?_⟩
    refine xg_name (i := 7) hN rfl (.inl rfl) ?_
    have hre2 : Reach bs cs := ⟨row2, hrow2⟩
    have hcA := hre2.arrs hb
    have hre3 : Reach as cs := hre1.trans hre2
    have hsw : SameW as bs := (hrow1.facts ha.two ha.rk).2.2.1
    have hex : ∃ f, Fit as bs f := (fit_iff ha hb.two hsw).mpr hre1
    have hex2 : ∃ g, Fit bs as g := (fit_iff hb ha.two hsw.symm).mpr (hre1.symm ha)
    have hub : us bs.flatten = l := by rw [← hul, ← us_pr2 ha.two, ← us_pr2 hb.two]; exact congrArg (fun x => us x.flatten) hsw.symm
    have hmem : ∀ x, x ∈ l ↔ x ∈ as.flatten := fun x => by rw [← hul, mem_us]
    have hmemb : ∀ x, x ∈ l ↔ x ∈ bs.flatten := fun x => by rw [← hub, mem_us]
    have hl7 : l.length ≤ 7 := hok.most
    refine xb_cons (xs_par (i := 8) (j := 9) rfl hN rfl rfl (by decide) rfl rfl (xa_cons ?_))
    walk_at "x"
    intro Qc hq
    refine ⟨bs, rfl, hb, hq _ ?_⟩; clear hq Qc
    walk_at "x"
    intro Qc hq
    refine ⟨cs, rfl, hcA, hq _ ?_⟩; clear hq Qc
    refine xa_nil ⟨_, _, rfl, ?_⟩
    refine xb_cons (xs_asg (xe_tup (xa_cons ?_)))
    walk_at "x"
    intro Qc hq
    refine ⟨as, bs, rfl, ha, hb, fun z => absurd hsw z, fun _ => ⟨fun f hf hf0 hfz => hq _ ?_, fun z => absurd hex z⟩⟩; clear hq Qc
    refine xa_cons ?_
    walk_at "x"
    intro Qc hq
    refine ⟨bs, as, rfl, hb, ha, fun z => absurd hsw.symm z, fun _ => ⟨fun g hg hg0 hgz => hq _ ?_, fun z => absurd hex2 z⟩⟩; clear hq Qc
    rw [hul, hub]
    obtain ⟨c0, hc0⟩ := Fit.const ha hsw hf (Fit.symm hb.two ha.two hsw.symm hg)
    obtain ⟨M, hM⟩ : ∃ M, M = -c0 := ⟨_, rfl⟩
    have hfg : ∀ x ∈ l, f x + g x = M := fun x hx => by
      have := hc0 x ((hmem x).mp hx)
      omega
    have hf6 := fit_few ha hb.two hsw hf hf0 hfz
    have hg6 := fit_few hb ha.two hsw.symm hg hg0 hgz
    have hl2 : 2 ≤ l.length := hok.two
    have hM0 : 0 ≤ M ∧ M ≤ 12 := by
      obtain ⟨p, hp, hz⟩ := hfz
      have hpl := (hmem p).mpr hp
      have h1 := hfg p hpl
      have h2 := hg0 p ((hmemb p).mp hpl)
      have h3 := hg6 p ((hmemb p).mp hpl)
      omega
    refine xa_nil ⟨by simp, ?_⟩
    refine xg_tup rfl rfl (xgs_cons ?_)
    walk_at "xgn"
    refine xgs_cons ?_
    walk_at "xgn"
    refine xgs_nil ?_
    refine xb_cons (xs_lcA (fun k : Nat => .int (k : Int)) D.int (i := 13) (j := 12) hN rfl (by show blkC n_Lright (defScope s_Lright) _ _ = true; decide +kernel) (fun _ _ _ _ _ => .inl rfl) (fun _ _ _ _ _ => .inr rfl) rfl rfl rfl rfl (by decide +kernel) ?_)
    refine xi_rng1 rfl B.range ?_
    walk_at "x"
    refine ⟨by omega, by omega, ?_⟩
    rw [Int.toNat_natCast]
    refine ⟨List.range l.length, fun _ => some M, by unfold rngD; simp, by simp; omega, ?_, ?_⟩
    · intro k hk μ' s1 H1 C1 cl1 fp1
      have hk1 : k < l.length := by simpa using hk
      have e1 : l[k]? = some l[k] := List.getElem?_eq_getElem hk1
      have hkm : l[k] ∈ l := List.getElem_mem hk1
      walk_at "x"
      intro s2 H2 C2 cl2 fp2
      walk_at "x"
      refine ⟨_, ixd_tupx (atI_nat (k := k) (d := nD (l[k], f l[k])) (by unfold numD; simp [e1])), ?_⟩
      walk_at "x"
      refine ⟨_, ixd_tup (atI_nat (k := 1) rfl), ?_⟩
      walk_at "x"
      refine ⟨_, ixd_tupx (atI_nat (k := k) (d := nD (l[k], g l[k])) (by unfold numD; simp [e1])), ?_⟩
      walk_at "x"
      refine ⟨_, ixd_tup (atI_nat (k := 1) rfl), ?_⟩
      walk_at "x"
      exact ⟨congrArg D.int (hfg _ hkm), rfl⟩
    rw [fm_mapA]
    obtain ⟨ns, hns⟩ : ∃ ns : List Int, ns = (List.range l.length).map fun _ => M := ⟨_, rfl⟩
    rw [← hns]
    have hnm : ∀ x, x ∈ ns ↔ x = M := fun x => by
      rw [hns, List.mem_map]
      constructor
      · rintro ⟨_, _, e⟩; exact e.symm
      · rintro rfl; exact ⟨0, List.mem_range.mpr (by omega), rfl⟩
    have hnl : ns.length ≤ 100 := by rw [hns]; simp; omega
    refine xb_cons (xs_if_f ?_ (xb_nil ?_))
    · refine xt_w (xw_or (xt_cut false ?_ ?_))
      · refine xt_cmp rfl ?_
        refine xe_callB rfl B.sorted PyProof.Rows.boot_sorted (xa_cons (xe_callTy rfl B.set PyProof.Rows.boot_set (xa_cons ?_)))
        walk_at "xv"
        refine xa_nil ⟨_, cd_setI rfl (by omega), ?_⟩
        refine xa_nil ⟨_, cd_sorted_setI (zs := [M]) rfl hr.units (by omega) (by simp) (fun x => by rw [hnm]; simp), ?_⟩
        walk_at "x"
        refine ⟨_, cd_maxL rfl ((hnm M).mpr rfl) (fun y hy => by rw [(hnm y).mp hy]; exact Int.le_refl _), ?_⟩
        refine xa_nil ⟨by simp, ?_⟩
        refine ⟨_, od_neRefl hr.units (by show (decide _ && true) = true; simp; omega) (by show 1 ≤ 64; decide), ?_⟩
        exact ⟨rfl, rfl⟩
      · refine xw_or1 (xt_cmp rfl ?_)
        refine xe_callB rfl B.max PyProof.Rows.boot_max (xa_cons ?_)
        refine xe_lcA (fun p : Nat => nD (p, f p)) D.int (i := 14) hN rfl (by show blkC n_Lright (defScope s_Lright) _ _ = true; decide +kernel) (fun _ _ _ _ _ => .inl rfl) (fun _ _ _ _ _ => .inr rfl) ?_
        refine xi_any ?_
        walk_at "xv"
        refine ⟨_, rfl, l, fun p => some (f p), by unfold numD; rw [List.map_map]; rfl, by omega, ?_, ?_⟩
        · intro p hp μ' s1 H1 C1 cl1 fp1
          walk_at "x"
          intro s2 H2 C2 cl2 fp2
          walk_at "x"
          refine ⟨_, ixd_tup (atI_nat (k := 1) rfl), ?_⟩
          exact ⟨_, rfl, rfl, rfl⟩
        rw [fm_mapA]
        refine xa_nil ⟨_, cd_maxL (m := M) rfl ?_ ?_, ?_⟩
        · obtain ⟨p, hp, hz⟩ := hgz
          have hpl := (hmemb p).mpr hp
          refine List.mem_map.mpr ⟨p, hpl, ?_⟩
          have := hfg p hpl
          omega
        · intro y hy
          obtain ⟨p, hp, rfl⟩ := List.mem_map.mp hy
          have h1 := hfg p hp
          have h2 := hg0 p ((hmemb p).mp hp)
          omega
        walk_at "x"
        refine ⟨_, cd_maxL rfl ((hnm M).mpr rfl) (fun y hy => by rw [(hnm y).mp hy]; exact Int.le_refl _), ?_⟩
        walk_at "x"
        exact ⟨by simp, rfl⟩
    refine xb_cons (xs_if_f ?_ (xb_nil ?_))
    · walk_at "x"
      intro Qc hq
      refine ⟨as, cs, rfl, ha, hcA, fun _ => hq _ ?_, fun z => absurd hre3 z⟩; clear hq Qc
      walk_at "x"
      intro Qc hq
      refine ⟨cs, bs, rfl, hcA, hb, fun _ => hq _ ?_, fun z => absurd (hre2.symm hb) z⟩; clear hq Qc
      walk_at "x"
      intro Qc hq
      refine ⟨as, as, rfl, ha, ha, fun z => absurd ⟨[], .nil⟩ z, fun n hn => hq _ ?_⟩; clear hq Qc
      have hn0 : n = 0 := Nat.le_zero.mp (hn.least [] .nil)
      subst hn0
      walk_at "x"
      exact ⟨by simp, rfl⟩
    refine xb_one (xs_if_f ?_ (xb_nil ?_))
    · walk_at "x"
      intro Qc hq
      refine ⟨as, cs, rfl, ha, hcA, fun z => absurd hre3 z, fun n1 hn1 => hq _ ?_⟩; clear hq Qc
      walk_at "x"
      intro Qc hq
      refine ⟨as, bs, rfl, ha, hb, fun z => absurd hre1 z, fun n2 hn2 => hq _ ?_⟩; clear hq Qc
      walk_at "x"
      intro Qc hq
      refine ⟨bs, cs, rfl, hb, hcA, fun z => absurd hre2 z, fun n3 hn3 => hq _ ?_⟩; clear hq Qc
      obtain ⟨w2, hw2, e2⟩ := hn2.row
      obtain ⟨w3, hw3, e3⟩ := hn3.row
      have hle := hn1.least _ (hw2.app hw3)
      rw [List.length_append] at hle
      walk_at "x"
      exact ⟨decide_eq_false (by omega), rfl⟩
    exact ⟨_, _, _, _, _, _, _, _, _, _, _, _, _, _, rfl⟩
  · rintro Γ2 ⟨o1, o2, o3, o4, o5, o6, o7, o8, o9, o10, o11, o12, o13, o14, rfl⟩
    walk_at "x"
    exact h
theorem f_lawJ {k : Nat} {g : Addr} {fd : FuncData} (hk1 : 1 ≤ k) (df : Fun T.K "law" "law" s_law g fd) (c1 : Ck T "_law_jar" 1 kKeg) (c2 : CjG T "_law_right" k sRight) : FnG T.P T.w T.K T.mg T.base (k + 1) g fd ["_law_script"] (spD T.K sLaw) := by
  refine fn_GD df sc_law (fun ds c Q E ⟨_, ⟨ns, h, _⟩, _⟩ => by rw [h]; rfl) ?_
  rintro cdv A outer s H E0 hr hgd m ds c Q E ⟨rfl, ⟨ns, rfl, hl⟩, h⟩
  have hN := sc_law.nd
  show XB (cX T n_law "law" s_law g cdv A outer s H E0) (mdOf m [] H E) (defBody s_law) ⟨startD n_law [.lst (ns.map D.int)], []⟩ (poOf Q)
  refine xb_cons (xs_forN (i := 1) PassesOwn.never hN rfl (.inl rfl) (xi_rng1 rfl B.range ?_))
  walk_at "x"
  obtain ⟨z, hze⟩ : ∃ z : Int, (if (if (4 : Int) < ((ns.map D.int).length : Int) then (4 : Int) else ((ns.map D.int).length : Int)) > 2 then (if (4 : Int) < ((ns.map D.int).length : Int) then (4 : Int) else ((ns.map D.int).length : Int)) else 2) = z := ⟨_, rfl⟩
  rw [hze]
  have hz2 : 2 ≤ z := by rw [← hze]; split <;> omega
  have hz4 : z ≤ 4 := by rw [← hze]; split <;> (try split) <;> omega
  clear hze
  refine ⟨by omega, by omega, fun k Γ1 => ∃ o c, Γ1 = ⟨[some (.lst (ns.map D.int)), o], c⟩, ⟨none, [], rfl⟩, ?_, ?_⟩
  · rintro k d Γ2 hd ⟨o, cs, rfl⟩
    obtain ⟨hk, rfl⟩ := rng_get hd
    refine xb_one (xs_if (xt_not (xt_val (xe_cjG c2 hr hgd (Nat.le_refl _) rfl (xa_cons (xe_ck c1 hr hk1 rfl ?_))))))
    walk_at "x"
    refine ⟨⟨ns, k, rfl, by omega, hl⟩, fun p => ?_⟩
    walk_at "x"
    refine ⟨p, _, [], rfl, rfl, ?_⟩
    intro Qc hq
    refine ⟨rfl, hq _ ?_⟩
    exact ⟨_, rfl, ite_nt (xb_nil ⟨_, _, rfl⟩)⟩
  · rintro Γ2 ⟨o, cs, rfl⟩
    walk_at "x"
    exact h _
end
theorem all_mk {P : Program} {w : World} {K : PySem.W.Frag} {h : Heap} {mg : Str → Option Value} {fa : Addr} (KX : K.In h) (G : h.Ns mainGlobals mg) (hfa : mg "law" = some (.ref fa)) (c : SaysX fcs dfs K) :
    ∃ fd : FuncData, (∀ (s : Shared) (v : Value), BindsTo s fd ⟨[v], []⟩ [("_law_script", v)]) ∧ ∀ base : Heap, K.In base → base.Ns mainGlobals mg → FnG P w K mg base 14 fa fd ["_law_script"] (spD K sLaw) := by
  have e := hfa.symm.trans (glo_mg KX G (c.fact 59))
  cases e
  have B : Bl mg := ⟨free_mg KX G (c.fact 0), free_mg KX G (c.fact 1), free_mg KX G (c.fact 2), free_mg KX G (c.fact 3), free_mg KX G (c.fact 4), free_mg KX G (c.fact 5), free_mg KX G (c.fact 6), free_mg KX G (c.fact 7), free_mg KX G (c.fact 8), free_mg KX G (c.fact 9), free_mg KX G (c.fact 10), free_mg KX G (c.fact 11), free_mg KX G (c.fact 12), free_mg KX G (c.fact 13), free_mg KX G (c.fact 14)⟩
  obtain ⟨fdl, Fl⟩ := c.fo 38
  have bl := Fl.binds (ps := ["_law_script"]) fun _ _ _ _ _ _ us hl => match us, hl with | [_], _ => rfl
  refine ⟨fdl, fun s v => ?_, fun base _ _ => ?_⟩
  · obtain ⟨oc, od, kV, doc, pm, an, cdv, ct, osl, rfl, lk, hcd⟩ := Fl.ex
    exact .of_eq rfl
  let T : Wd := ⟨P, w, K, mg, base⟩
  have B : Bl T.mg := B
  have KX : T.K.In h := KX
  have G : h.Ns mainGlobals T.mg := G
  have z_dict : T.mg "dict" = none := free_mg KX G (c.fact 15)
  have z_sum : T.mg "sum" = none := free_mg KX G (c.fact 16)
  have z_zip : T.mg "zip" = none := free_mg KX G (c.fact 17)
  have g_MOST_PLACES : GI T.mg "MOST_PLACES" 7 := int_mg KX G (c.fact 18)
  have g_MOST_TIES : GI T.mg "MOST_TIES" 10 := int_mg KX G (c.fact 19)
  have g_LETTERS : GS T.mg "LETTERS" az := str_mg KX G (c.fact 20)
  have d_Ldip : De T "_law_dip" ["_law_jar_here", "_law_wide"] s_Ldip := de_at KX G (c.fact 21) (c.fo 0) fun _ _ _ _ _ _ us hl => match us, hl with | [_, _], _ => rfl
  have d_Lflip : De T "_law_flip" ["_law_arrows_here", "_law_glyph"] s_Lflip := de_at KX G (c.fact 22) (c.fo 1) fun _ _ _ _ _ _ us hl => match us, hl with | [_, _], _ => rfl
  have d_Lgives : De T "_law_gives" ["_law_arrows_here", "_law_glyph"] s_Lgives := de_at KX G (c.fact 23) (c.fo 2) fun _ _ _ _ _ _ us hl => match us, hl with | [_, _], _ => rfl
  have d_Lglyphs_of : De T "_law_glyphs_of" ["_law_ties_here"] s_Lglyphs_of := de_at KX G (c.fact 24) (c.fo 3) fun _ _ _ _ _ _ us hl => match us, hl with | [_], _ => rfl
  have d_Ljar : De T "_law_jar" ["_law_script", "_law_k"] s_Ljar := de_at KX G (c.fact 25) (c.fo 4) fun _ _ _ _ _ _ us hl => match us, hl with | [_, _], _ => rfl
  have d_Llaid : De T "_law_laid" ["_law_jar_here", "_law_ties_here", "_law_glyphs"] s_Llaid := de_at KX G (c.fact 26) (c.fo 5) fun _ _ _ _ _ _ us hl => match us, hl with | [_, _, _], _ => rfl
  have d_Lorder : De T "_law_order" ["_law_arrows_here"] s_Lorder := de_at KX G (c.fact 27) (c.fo 6) fun _ _ _ _ _ _ us hl => match us, hl with | [_], _ => rfl
  have d_Lpick : De T "_law_pick" ["_law_jar_here", "_law_menu"] s_Lpick := de_at KX G (c.fact 28) (c.fo 7) fun _ _ _ _ _ _ us hl => match us, hl with | [_, _], _ => rfl
  have d_Lpool : De T "_law_pool" ["_law_jar_here", "_law_many"] s_Lpool := de_at KX G (c.fact 29) (c.fo 8) fun _ _ _ _ _ _ us hl => match us, hl with | [_, _], _ => rfl
  have d_Lright : De T "_law_right" ["_law_jar_here"] s_Lright := de_at KX G (c.fact 30) (c.fo 9) fun _ _ _ _ _ _ us hl => match us, hl with | [_], _ => rfl
  have d_Lties : De T "_law_ties" ["_law_jar_here", "_law_most"] s_Lties := de_at KX G (c.fact 31) (c.fo 10) fun _ _ _ _ _ _ us hl => match us, hl with | [_, _], _ => rfl
  have d_Ltwo : De T "_law_two" ["_law_one", "_law_other"] s_Ltwo := de_at KX G (c.fact 32) (c.fo 11) fun _ _ _ _ _ _ us hl => match us, hl with | [_, _], _ => rfl
  have d_Lwalk : De T "_law_walk" ["_law_jar_here", "_law_arrows_here", "_law_most"] s_Lwalk := de_at KX G (c.fact 33) (c.fo 12) fun _ _ _ _ _ _ us hl => match us, hl with | [_, _, _], _ => rfl
  have d_are_like : De T "are_like" ["way", "other_way"] s_are_like := de_at KX G (c.fact 34) (c.fo 13) fun _ _ _ _ _ _ us hl => match us, hl with | [_, _], _ => rfl
  have d_arrows_behind : De T "arrows_behind" ["arrows", "row"] s_arrows_behind := de_at KX G (c.fact 35) (c.fo 14) fun _ _ _ _ _ _ us hl => match us, hl with | [_, _], _ => rfl
  have d_check_arrows : De T "check_arrows" ["arrows"] s_check_arrows := de_at KX G (c.fact 36) (c.fo 15) fun _ _ _ _ _ _ us hl => match us, hl with | [_], _ => rfl
  have d_check_both : De T "check_both" ["way", "other_way"] s_check_both := de_at KX G (c.fact 37) (c.fo 16) fun _ _ _ _ _ _ us hl => match us, hl with | [_, _], _ => rfl
  have d_check_row : De T "check_row" ["way", "row"] s_check_row := de_at KX G (c.fact 38) (c.fo 17) fun _ _ _ _ _ _ us hl => match us, hl with | [_, _], _ => rfl
  have d_check_ties : De T "check_ties" ["ties"] s_check_ties := de_at KX G (c.fact 39) (c.fo 18) fun _ _ _ _ _ _ us hl => match us, hl with | [_], _ => rfl
  have d_check_way : De T "check_way" ["value"] s_check_way := de_at KX G (c.fact 40) (c.fo 19) fun _ _ _ _ _ _ us hl => match us, hl with | [_], _ => rfl
  have d_do_hang : De T "do_hang" ["ties"] s_do_hang := de_at KX G (c.fact 41) (c.fo 20) fun _ _ _ _ _ _ us hl => match us, hl with | [_], _ => rfl
  have d_does_give : De T "does_give" ["arrows", "place"] s_does_give := de_at KX G (c.fact 42) (c.fo 21) fun _ _ _ _ _ _ us hl => match us, hl with | [_, _], _ => rfl
  have d_exchanged : De T "exchanged" ["arrows", "place"] s_exchanged := de_at KX G (c.fact 43) (c.fo 22) fun _ _ _ _ _ _ us hl => match us, hl with | [_, _], _ => rfl
  have d_is_fitting : De T "is_fitting" ["arrows", "others", "numbers"] s_is_fitting := de_at KX G (c.fact 44) (c.fo 23) fun _ _ _ _ _ _ us hl => match us, hl with | [_, _, _], _ => rfl
  have d_is_pair : De T "is_pair" ["value"] s_is_pair := de_at KX G (c.fact 45) (c.fo 24) fun _ _ _ _ _ _ us hl => match us, hl with | [_], _ => rfl
  have d_is_place : De T "is_place" ["value"] s_is_place := de_at KX G (c.fact 46) (c.fo 25) fun _ _ _ _ _ _ us hl => match us, hl with | [_], _ => rfl
  have d_is_ringed : De T "is_ringed" ["arrows"] s_is_ringed := de_at KX G (c.fact 47) (c.fo 26) fun _ _ _ _ _ _ us hl => match us, hl with | [_], _ => rfl
  have d_is_two : De T "is_two" ["value"] s_is_two := de_at KX G (c.fact 48) (c.fo 27) fun _ _ _ _ _ _ us hl => match us, hl with | [_], _ => rfl
  have d_length : De T "length" ["way", "other_way"] s_length := de_at KX G (c.fact 49) (c.fo 28) fun _ _ _ _ _ _ us hl => match us, hl with | [_, _], _ => rfl
  have d_met_from : De T "met_from" ["ties", "places"] s_met_from := de_at KX G (c.fact 50) (c.fo 29) fun _ _ _ _ _ _ us hl => match us, hl with | [_, _], _ => rfl
  have d_numbers_from : De T "numbers_from" ["arrows", "others"] s_numbers_from := de_at KX G (c.fact 51) (c.fo 30) fun _ _ _ _ _ _ us hl => match us, hl with | [_, _], _ => rfl
  have d_numbers_of : De T "numbers_of" ["way", "other_way"] s_numbers_of := de_at KX G (c.fact 52) (c.fo 31) fun _ _ _ _ _ _ us hl => match us, hl with | [_, _], _ => rfl
  have d_pair_of : De T "pair_of" ["one", "other"] s_pair_of := de_at KX G (c.fact 53) (c.fo 32) fun _ _ _ _ _ _ us hl => match us, hl with | [_, _], _ => rfl
  have d_places_in : De T "places_in" ["ties"] s_places_in := de_at KX G (c.fact 54) (c.fo 33) fun _ _ _ _ _ _ us hl => match us, hl with | [_], _ => rfl
  have d_row_slip : De T "row_slip" ["arrows", "row"] s_row_slip := de_at KX G (c.fact 55) (c.fo 34) fun _ _ _ _ _ _ us hl => match us, hl with | [_, _], _ => rfl
  have d_step_over : De T "step_over" ["arrow", "other", "place"] s_step_over := de_at KX G (c.fact 56) (c.fo 35) fun _ _ _ _ _ _ us hl => match us, hl with | [_, _, _], _ => rfl
  have d_times : De T "times" ["way", "other_way"] s_times := de_at KX G (c.fact 57) (c.fo 36) fun _ _ _ _ _ _ us hl => match us, hl with | [_, _], _ => rfl
  have d_web_of : De T "web_of" ["arrows"] s_web_of := de_at KX G (c.fact 58) (c.fo 37) fun _ _ _ _ _ _ us hl => match us, hl with | [_], _ => rfl
  have hm_Way : T.mg "Way" = some (.ref (gA "Way" T.K)) := glo_mg KX G (c.fact 60)
  have io_Way : IsO T.K (gA "Way" T.K) := isO_self
  have cl_Way : Cls T.K (gA "Way" T.K) := cls_of (c.fact 61)
  have oc_Way : OCls T.K (gA "Way" T.K) := ocls_of (c.fact 61) (c.fact 62)
  have di_Way : DeI T "Way" (gA "Way" T.K) "Way.__init__" ["self", "arrows"] s_Way___init__ := dei_at KX G (c.fact 60) (c.fact 63) (c.fo 39) fun _ _ _ _ _ _ us hl => match us, hl with | [_, _], _ => rfl
  have dm_Way_by : DeM T (gA "Way" T.K) "by" "Way.by" ["self", "row"] s_Way_by := dem_at (c.fact 61) (c.fact 64) (c.fo 40) fun _ _ _ _ _ _ us hl => match us, hl with | [_, _], _ => rfl
  have dp_Way_arrows : DeP T (gA "Way" T.K) "arrows" "Way.arrows" ["self"] s_Way_arrows := dep_at (c.fact 61) (c.fact 65) (c.fo 41) fun _ _ _ _ _ _ us hl => match us, hl with | [_], _ => rfl
  have dp_Way_web : DeP T (gA "Way" T.K) "web" "Way.web" ["self"] s_Way_web := dep_at (c.fact 61) (c.fact 66) (c.fo 42) fun _ _ _ _ _ _ us hl => match us, hl with | [_], _ => rfl
  have dq_Way : DeQ T (gA "Way" T.K) "Way.__eq__" ["self", "other"] s_Way___eq__ := deq_at (c.fact 67) (c.fo 43) fun _ _ _ _ _ _ us hl => match us, hl with | [_, _], _ => rfl
  have na_Way_lot : NoAttr T.K (gA "Way" T.K) "lot" := no_of (c.fact 68)
  have hm_Web : T.mg "Web" = some (.ref (gA "Web" T.K)) := glo_mg KX G (c.fact 69)
  have io_Web : IsO T.K (gA "Web" T.K) := isO_self
  have cl_Web : Cls T.K (gA "Web" T.K) := cls_of (c.fact 70)
  have oc_Web : OCls T.K (gA "Web" T.K) := ocls_of (c.fact 70) (c.fact 71)
  have di_Web : DeI T "Web" (gA "Web" T.K) "Web.__init__" ["self", "ties"] s_Web___init__ := dei_at KX G (c.fact 69) (c.fact 72) (c.fo 44) fun _ _ _ _ _ _ us hl => match us, hl with | [_, _], _ => rfl
  have dq_Web : DeQ T (gA "Web" T.K) "Web.__eq__" ["self", "other"] s_Web___eq__ := deq_at (c.fact 73) (c.fo 45) fun _ _ _ _ _ _ us hl => match us, hl with | [_, _], _ => rfl
  have na_Web_letters : NoAttr T.K (gA "Web" T.K) "letters" := no_of (c.fact 74)
  have na_Web_pairs : NoAttr T.K (gA "Web" T.K) "pairs" := no_of (c.fact 75)
  have k_dip := Pdl.j_dip B d_Ldip
  have k_Jpick := Pdl.jj_pick B d_Lpick k_dip
  have k_pool := Pdl.jj_pool B d_Lpool k_dip
  have k_Ltwo := Pdl.c_Ltwo B d_Ltwo
  have k_Jties := Pdl.jj_ties B d_Lties k_dip k_Jpick k_pool k_Ltwo
  have k_Jlaid := Pdl.jj_laid B d_Llaid k_dip
  have k_Lglyphs_of := Pdl.c_Lglyphs_of B d_Lglyphs_of
  have k_Lgives := Pdl.c_Lgives B d_Lgives
  have k_Lflip := Pdl.c_Lflip B d_Lflip
  have k_Jwalk := Pdl.jj_walk B d_Lwalk k_dip k_Jpick k_Lglyphs_of k_Lgives k_Lflip
  have k_Lorder19 := Pdl.c_Lorder19 B d_Lorder k_Lglyphs_of
  have k_is_place := Pdl.c_is_place B d_is_place g_LETTERS
  have k_is_two := Pdl.c_is_two B d_is_two k_is_place
  have k_pair_of := Pdl.c_pair_of B d_pair_of
  have k_places_in := Pdl.c_places_in B d_places_in
  have k_met_from := Pdl.c_met_from B d_met_from k_places_in
  have k_do_hang := Pdl.c_do_hang B d_do_hang k_places_in k_met_from
  have k_is_ringed := Pdl.c_is_ringed B d_is_ringed
  have k_check_arrows := Pdl.c_check_arrows B d_check_arrows g_MOST_TIES g_MOST_PLACES k_is_two k_pair_of k_places_in k_do_hang k_is_ringed
  have k_Way := Pdl.m_Way B di_Way cl_Way na_Way_lot k_check_arrows
  have k_check_way := Pdl.c_check_way B d_check_way oc_Way io_Way hm_Way
  have k_check_both := Pdl.c_check_both B d_check_both k_check_way
  have k_is_pair := Pdl.c_is_pair B d_is_pair k_is_two
  have k_check_ties := Pdl.c_check_ties B d_check_ties g_MOST_TIES g_MOST_PLACES k_places_in k_is_pair k_do_hang
  have k_Web := Pdl.m_Web B di_Web cl_Web na_Web_pairs na_Web_letters k_check_ties k_places_in
  have k_web_of := Pdl.c_web_of B d_web_of k_Web k_pair_of
  have k_Way_web := Pdl.p_Way_web B dp_Way_web cl_Way na_Way_lot k_web_of
  have k_Way_arrows := Pdl.p_Way_arrows B dp_Way_arrows cl_Way na_Way_lot
  have k_Web_eq := Pdl.e_Web B dq_Web oc_Web io_Web na_Web_pairs hm_Web
  have k_step_over := Pdl.c_step_over B d_step_over
  have k_numbers_from := Pdl.c_numbers_from B z_zip d_numbers_from k_places_in k_step_over
  have k_is_fitting := Pdl.c_is_fitting B z_zip d_is_fitting k_step_over
  have k_numbers_of := Pdl.c_numbers_of B z_dict d_numbers_of k_Way_web k_Way_arrows k_Web_eq k_numbers_from k_is_fitting
  obtain ⟨a_times, fd_times, ha_times, hk_times, F_times, b_times⟩ := d_times
  have n_times := Pdl.f_times B F_times k_check_both k_numbers_of
  have k_times' : Cp T "times" 11 (sNumOf _) := ⟨_, _, _, ha_times, hk_times, n_times, b_times⟩
  obtain ⟨a_are_like, fd_are_like, ha_are_like, hk_are_like, F_are_like, b_are_like⟩ := d_are_like
  have n_are_like := Pdl.f_are_like B F_are_like k_check_both k_numbers_of
  have k_are_like' : Cp T "are_like" 11 (sLike _) := ⟨_, _, _, ha_are_like, hk_are_like, n_are_like, b_are_like⟩
  have k_length := Pdl.c_length B z_sum d_length k_times'
  have k_does_give := Pdl.c_does_give B d_does_give
  have k_exchanged := Pdl.c_exchanged B d_exchanged
  have k_row_slip := Pdl.c_row_slip B d_row_slip k_places_in k_does_give k_exchanged
  have k_check_row := Pdl.c_check_row B d_check_row k_Way_arrows k_row_slip
  have k_arrows_behind := Pdl.c_arrows_behind B d_arrows_behind k_exchanged
  have k_Way_by := Pdl.m_Way_by B dm_Way_by cl_Way na_Way_lot k_check_row k_arrows_behind k_Way
  have k_Way_eq := Pdl.e_Way B dq_Way oc_Way io_Way na_Way_lot hm_Way
  have k_jar' := Pdl.k_jar B d_Ljar
  have k_right := j_right B d_Lright k_Jties k_Jlaid k_Jwalk k_Lorder19 k_Way k_times' k_are_like' k_length k_Way_by k_Way_eq
  exact Pdl.f_lawJ B (by decide) Fl k_jar' k_right
end Pdl
open PySem PySem.W PySem.Calls PyProof.Rows
set_option maxHeartbeats 0 in
theorem PySem.Challenge.cw_pushdowns_k19_whole_turned_round_and_bac_holds : PySem.Challenge.rw_pushdowns_k19_whole_turned_round_and_bac.Holds := by
  refine Pdl.head0 Pdl.ob_eq Pdl.run ?_
  have hname : (HandSHeadRun.topDef Pdl.Rw.prog 67).name = ("law" : PySem.Str) := by kernel_rfl
  refine Pdl.walk_endG (l := PySem.Challenge.rw_pushdowns_k19_whole_turned_round_and_bac) (k := 14) rfl (by kernel_rfl) ⟨rfl, by decide, by decide⟩ hname fun w mg fa h K KX G hmg c => Pdl.all_mk KX G hmg c
