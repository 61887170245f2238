import PyProof.Rows.All
import Wide.All
import OpenK.AllK
import Wide.FinOn
import HandS.ForMost
import HandS.SetFor
import HandS.Exc
import HandS.Lambda
import HandS.Property
import HandS.Defaults
import HandS.TupAny
import HandS.Replace
import KE.SortData
import HandS.SetTxtIn
import HandS.StrMore
import HandS.Style
import HandS.IsInst
import HandS.WordsDict
import HandS.Small
import HandS.More
import HandS.OwnEq
import PyProof.ListStr
import PyProof.ReprRoads
import PyProof.Rows.RegFStrParts
import HandS.Head0
import HandS.Head1
import HandS.Head2
import HandS.HeadEnd
import HandS.HeadHook1
import HandS.HeadHook2
import KE.KStateDown
import HandS.HeadNt
import HandS.Star
import HandS.Zip
import HandS.Comp
import HandS.ClsMeth
import KE.KDictPairs
import KE.KDictDisplayH
import HandS.Conv
import HandS.SlotsOwn
import KE.RegKCallOwn
import KE.GoesEnum
import HandS.TupMul
import HandS.WordsExc
import HandS.ExcOwn
import HandS.ExcInit
import HandS.ExcField
import HandS.TryMany
import PyProof.TupleOfStr
import HandS.HeadHook3
import PyProof.EqKinds
import PyProof.FactsAll.dict_1
import PyProof.Conv_bool
import HandS.MakeKwOnly
import HandS.Text
import KE.GoesZip
import HandS.ReplaceLit
import KE.KRevSl
import HandS.TryOnly
import HandS.ExcValue
import KE.KExcIs
import HandS.HotCalls
import HandS.EndTab
import HandS.HeadHook4
import HandS.RaiseMore
import KE.KExcInit
import PyProof.ExcBaseAll.ValueError
import PyProof.ExcBaseAll.LookupError
import PyProof.ExcBaseAll.ArithmeticError
import PyProof.CallFns
import PyProof.StrLawsRepr
import PyProof.ReprText
import PyProof.FactsAll.list_3
import PyProof.NeKinds
import PyProof.InstStoreFacts
import PySem.Challenge.RW_pushdowns_k11_whole_ways_turned
set_option Elab.async false
set_option linter.all false
set_option maxRecDepth 100000
set_option maxHeartbeats 4000000
namespace Pdl
open PySem L2
def kOf (e : Int × Value) : Key := match e.2 with | .int k _ => .inl k | .str x _ => .inr x | _ => .inl 0
def GoodK (w : World) (e : Int × Value) : Prop := keyIs (kOf e) e.2 = true ∧ e.1 = keyH w (kOf e)
theorem kOf_is {k : Key} {v : Value} {i : Int} (h : keyIs k v = true) : kOf (i, v) = k := by
  rcases keyIs_shape h with ⟨j, t, rfl, rfl⟩ | ⟨x, t, rfl, rfl⟩ <;> rfl
/-- at a stands a set with just the keys of L -/
def SetQ (w : World) (h : Heap) (a : Addr) (L : List Key) : Prop :=
  ∃ o es ep t, h.get? a = some o ∧ o.ExactSet ∧ o.data = .set es ep t ∧ (∀ e ∈ es.toList, GoodK w e) ∧ (es.toList.map kOf).Nodup ∧ (∀ k, k ∈ L ↔ k ∈ es.toList.map kOf) ∧
    es.size ≤ L.length ∧ t.fits es.size = true ∧ Ris t.place.toList ∧ (w.params.followText "set-order" = true ∨ t.led = true)
theorem SetQ.at {w : World} {h h' : Heap} {a : Addr} {L : List Key} (R : SetQ w h a L) (k : ∀ o, h.get? a = some o → h'.get? a = some o) : SetQ w h' a L := let ⟨o, es, ep, t, ho, r⟩ := R; ⟨o, es, ep, t, k o ho, r⟩
def SetE (w : World) (a : Addr) (L : List Key) : HO := .ext fun h => SetQ w h a L
inductive D where
  | non | bl (b : Bool) | int (i : Int) | str (x : Str) | ty (n : String) | ref (a : Addr)
  | lst (xs : List D) | tup (xs : List D) | dct (kvs : List (Key × D)) | ins (C : Addr) (fs : List (Str × D)) | exc (C : Addr) (fs : List (Str × D)) | set (w : World) (L : List Key) | dcT (kvs : List (List Key × D)) | tupx (xs : List D) | dcL (kvs : List (List Key × D))
/-- an exception as a value: of the class at C, its dict (none | at d) -/
def exV (a C : Addr) (d : Option Addr) : HO := .ext fun h => ∃ oe : Obj, h.get? a = some oe ∧ Zc (.ref C) d oe ∧ ∃ vs, oe.data = .fields vs
/-- a tuple that is tracked as such -/
def TpX (G : Hp) (a : Addr) (xs : List V) : Prop := G a = some (.tup xs)
theorem TpX.of {G : Hp} {a : Addr} {xs : List V} (h : G a = some (.tup xs)) : TpX G a xs := h
theorem TpX.sq {K : PySem.W.Frag} {G : Hp} {a : Addr} {xs : List V} (h : TpX G a xs) : SqT K G a xs := .of h
mutual
/-- a value shows data in a heap -/
inductive Rp (K : PySem.W.Frag) (G : Hp) : V → D → Prop
  | non : Rp K G .non .non
  | bl (b : Bool) : Rp K G (.bl b) (.bl b)
  | int (i : Int) : Rp K G (.int i) (.int i)
  | str (x : Str) : Rp K G (.str x) (.str x)
  | ty (n : String) : Rp K G (.ty n) (.ty n)
  | ref (a : Addr) : Rp K G (.ref a) (.ref a)
  | lst {a : Addr} {xs : List V} {ds : List D} : SqL K G a xs → RpA K G xs ds → Rp K G (.ref a) (.lst ds)
  | tup {a : Addr} {xs : List V} {ds : List D} : TpX G a xs → RpA K G xs ds → Rp K G (.ref a) (.tup ds)
  | tupx {a : Addr} {xs : List V} {ds : List D} : SqT K G a xs → RpA K G xs ds → Rp K G (.ref a) (.tupx ds)
  | dct {a : Addr} {kvs : List (Key × V)} {ds : List (Key × D)} : G a = some (.dK kvs) → RpK K G kvs ds → Rp K G (.ref a) (.dct ds)
  | ins {a C dx : Addr} {fs : List (Str × V)} {ds : List (Str × D)} : G a = some (.ins C dx fs) → RpF K G fs ds → Rp K G (.ref a) (.ins C ds)
  | exc0 {a C : Addr} : G a = some (exV a C none) → Rp K G (.ref a) (.exc C [])
  | exc1 {a C dx : Addr} {fs : List (Str × V)} {ds : List (Str × D)} : G a = some (exV a C (some dx)) → G dx = some (.xd fs) → RpF K G fs ds → Rp K G (.ref a) (.exc C ds)
  | set {a : Addr} {w : World} {L : List Key} : G a = some (SetE w a L) → Rp K G (.ref a) (.set w L)
  | dcT {a : Addr} {kvs : List (List Key × V)} {ds : List (List Key × D)} : G a = some (.dT kvs) → RpT K G kvs ds → Rp K G (.ref a) (.dcT ds)
  | dcL {a : Addr} {o : Obj} {kvs : List (List Key × V)} {ds : List (List Key × D)} : G a = some (.frz o (.dT kvs)) → RpT K G kvs ds → Rp K G (.ref a) (.dcL ds)
inductive RpA (K : PySem.W.Frag) (G : Hp) : List V → List D → Prop
  | nil : RpA K G [] []
  | cons {v : V} {d : D} {vs : List V} {ds : List D} : Rp K G v d → RpA K G vs ds → RpA K G (v :: vs) (d :: ds)
inductive RpK (K : PySem.W.Frag) (G : Hp) : List (Key × V) → List (Key × D) → Prop
  | nil : RpK K G [] []
  | cons {k : Key} {v : V} {d : D} {vs : List (Key × V)} {ds : List (Key × D)} : Rp K G v d → RpK K G vs ds → RpK K G ((k, v) :: vs) ((k, d) :: ds)
inductive RpT (K : PySem.W.Frag) (G : Hp) : List (List Key × V) → List (List Key × D) → Prop
  | nil : RpT K G [] []
  | cons {k : List Key} {v : V} {d : D} {vs : List (List Key × V)} {ds : List (List Key × D)} : Rp K G v d → RpT K G vs ds → RpT K G ((k, v) :: vs) ((k, d) :: ds)
inductive RpF (K : PySem.W.Frag) (G : Hp) : List (Str × V) → List (Str × D) → Prop
  | nil : RpF K G [] []
  | cons {k : Str} {v : V} {d : D} {vs : List (Str × V)} {ds : List (Str × D)} : Rp K G v d → RpF K G vs ds → RpF K G ((k, v) :: vs) ((k, d) :: ds)
end
/-- every object of the one stands in the other -/
def Sub (G G' : Hp) : Prop := ∀ a o, G a = some o → G' a = some o
theorem Sub.refl (G : Hp) : Sub G G := fun _ _ h => h
theorem Sub.trans {G G1 G2 : Hp} (a : Sub G G1) (b : Sub G1 G2) : Sub G G2 := fun x o h => b x o (a x o h)
theorem Sub.sqL {K : PySem.W.Frag} {G G' : Hp} {a : Addr} {xs : List V} (e : Sub G G') (h : SqL K G a xs) : SqL K G' a xs := by
  rcases h with (h | ⟨o, h⟩) | h
  · exact .inl (.inl (e _ _ h))
  · exact .inl (.inr ⟨o, e _ _ h⟩)
  · exact .inr h
theorem Sub.sqT {K : PySem.W.Frag} {G G' : Hp} {a : Addr} {xs : List V} (e : Sub G G') (h : SqT K G a xs) : SqT K G' a xs := by
  rcases h with (h | ⟨o, h⟩) | h
  · exact .inl (.inl (e _ _ h))
  · exact .inl (.inr ⟨o, e _ _ h⟩)
  · exact .inr h
section
variable {K : PySem.W.Frag} {G G' : Hp}
mutual
theorem Rp.mono (e : Sub G G') : ∀ {v : V} {d : D}, Rp K G v d → Rp K G' v d
  | _, _, .non => .non
  | _, _, .bl b => .bl b
  | _, _, .int i => .int i
  | _, _, .str x => .str x
  | _, _, .ty n => .ty n
  | _, _, .ref a => .ref a
  | _, _, .lst h r => .lst (e.sqL h) (RpA.mono e r)
  | _, _, .tup h r => .tup (e _ _ h) (RpA.mono e r)
  | _, _, .tupx h r => .tupx (e.sqT h) (RpA.mono e r)
  | _, _, .dct h r => .dct (e _ _ h) (RpK.mono e r)
  | _, _, .ins h r => .ins (e _ _ h) (RpF.mono e r)
  | _, _, .exc0 h => .exc0 (e _ _ h)
  | _, _, .exc1 h h2 r => .exc1 (e _ _ h) (e _ _ h2) (RpF.mono e r)
  | _, _, .set h => .set (e _ _ h)
  | _, _, .dcT h r => .dcT (e _ _ h) (RpT.mono e r)
  | _, _, .dcL h r => .dcL (e _ _ h) (RpT.mono e r)
theorem RpA.mono (e : Sub G G') : ∀ {v : List V} {d : List D}, RpA K G v d → RpA K G' v d
  | _, _, .nil => .nil
  | _, _, .cons h r => .cons (Rp.mono e h) (RpA.mono e r)
theorem RpK.mono (e : Sub G G') : ∀ {v : List (Key × V)} {d : List (Key × D)}, RpK K G v d → RpK K G' v d
  | _, _, .nil => .nil
  | _, _, .cons h r => .cons (Rp.mono e h) (RpK.mono e r)
theorem RpT.mono (e : Sub G G') : ∀ {v : List (List Key × V)} {d : List (List Key × D)}, RpT K G v d → RpT K G' v d
  | _, _, .nil => .nil
  | _, _, .cons h r => .cons (Rp.mono e h) (RpT.mono e r)
theorem RpF.mono (e : Sub G G') : ∀ {v : List (Str × V)} {d : List (Str × D)}, RpF K G v d → RpF K G' v d
  | _, _, .nil => .nil
  | _, _, .cons h r => .cons (Rp.mono e h) (RpF.mono e r)
end
end
theorem RpA.length {K : PySem.W.Frag} {G : Hp} : ∀ {vs : List V} {ds : List D}, RpA K G vs ds → vs.length = ds.length
  | _, _, .nil => rfl
  | _, _, .cons _ r => by simp [RpA.length r]
theorem RpA.get {K : PySem.W.Frag} {G : Hp} : ∀ {vs : List V} {ds : List D} {i : Nat} {v : V}, RpA K G vs ds → vs[i]? = some v → ∃ d, ds[i]? = some d ∧ Rp K G v d
  | _, _, _, _, .nil, e => by simp at e
  | _, _, 0, _, .cons h _, e => by simp at e; subst e; exact ⟨_, rfl, h⟩
  | _, _, i + 1, v, .cons _ r, e => by
    obtain ⟨d, h1, h2⟩ := RpA.get (i := i) (v := v) r (by simpa using e)
    exact ⟨d, by simpa using h1, h2⟩
theorem RpA.got {K : PySem.W.Frag} {G : Hp} : ∀ {vs : List V} {ds : List D} {i : Nat} {d : D}, RpA K G vs ds → ds[i]? = some d → ∃ v, vs[i]? = some v ∧ Rp K G v d
  | _, _, _, _, .nil, e => by simp at e
  | _, _, 0, _, .cons h _, e => by simp at e; subst e; exact ⟨_, rfl, h⟩
  | _, _, i + 1, v, .cons _ r, e => by
    obtain ⟨d, h1, h2⟩ := RpA.got (i := i) r (by simpa using e)
    exact ⟨d, by simpa using h1, h2⟩
theorem RpA.app {K : PySem.W.Frag} {G : Hp} : ∀ {vs us : List V} {ds es : List D}, RpA K G vs ds → RpA K G us es → RpA K G (vs ++ us) (ds ++ es)
  | _, _, _, _, .nil, r => r
  | _, _, _, _, .cons h t, r => .cons h (RpA.app t r)
theorem RpA.take {K : PySem.W.Frag} {G : Hp} : ∀ {vs : List V} {ds : List D} (n : Nat), RpA K G vs ds → RpA K G (vs.take n) (ds.take n)
  | _, _, 0, _ => by simpa using .nil
  | _, _, _ + 1, .nil => .nil
  | _, _, n + 1, .cons h t => .cons h (RpA.take n t)
theorem RpA.drop {K : PySem.W.Frag} {G : Hp} : ∀ {vs : List V} {ds : List D} (n : Nat), RpA K G vs ds → RpA K G (vs.drop n) (ds.drop n)
  | _, _, 0, r => by simpa using r
  | _, _, _ + 1, .nil => .nil
  | _, _, n + 1, .cons _ t => RpA.drop n t
theorem RpA.set {K : PySem.W.Frag} {G : Hp} {v : V} {d : D} (h : Rp K G v d) : ∀ {vs : List V} {ds : List D} (n : Nat), RpA K G vs ds → RpA K G (vs.set n v) (ds.set n d)
  | _, _, _, .nil => .nil
  | _, _, 0, .cons _ t => .cons h t
  | _, _, n + 1, .cons q t => .cons q (RpA.set h n t)
theorem RpA.reverse {K : PySem.W.Frag} {G : Hp} : ∀ {vs : List V} {ds : List D}, RpA K G vs ds → RpA K G vs.reverse ds.reverse
  | _, _, .nil => .nil
  | _, _, .cons h t => by
    rw [List.reverse_cons, List.reverse_cons]
    exact (RpA.reverse t).app (.cons h .nil)
theorem RpA.strs {K : PySem.W.Frag} {G : Hp} : ∀ (zs : List Str), RpA K G (zs.map V.str) (zs.map D.str)
  | [] => .nil
  | z :: zs => .cons (.str z) (RpA.strs zs)
theorem RpA.of_strs {K : PySem.W.Frag} {G : Hp} : ∀ {zs : List Str} {vs : List V}, RpA K G vs (zs.map D.str) → vs = zs.map V.str
  | [], _, .nil => rfl
  | _ :: _, _, .cons h t => by
    cases h
    rw [RpA.of_strs t]
    all_goals rfl
theorem RpA.ints {K : PySem.W.Frag} {G : Hp} : ∀ (zs : List Int), RpA K G (zs.map V.int) (zs.map D.int)
  | [] => .nil
  | z :: zs => .cons (.int z) (RpA.ints zs)
theorem RpA.of_ints {K : PySem.W.Frag} {G : Hp} : ∀ {zs : List Int} {vs : List V}, RpA K G vs (zs.map D.int) → vs = zs.map V.int
  | [], _, .nil => rfl
  | _ :: _, _, .cons h t => by
    cases h
    rw [RpA.of_ints t]
    all_goals rfl
theorem RpF.lookup {K : PySem.W.Frag} {G : Hp} {f : Str} : ∀ {fs : List (Str × V)} {ds : List (Str × D)}, RpF K G fs ds →
    (∀ d, ds.lookup f = some d → ∃ v, fs.lookup f = some v ∧ Rp K G v d) ∧ (ds.lookup f = none → fs.lookup f = none)
  | _, _, .nil => ⟨fun d h => (by cases h), fun _ => rfl⟩
  | _, _, .cons (k := k) h t => by
    obtain ⟨i1, i2⟩ := RpF.lookup (f := f) t
    simp only [List.lookup]
    cases e : (f == k) with
    | true => exact ⟨fun d hd => (by cases hd; exact ⟨_, rfl, h⟩), fun hd => (by cases hd)⟩
    | false => exact ⟨i1, i2⟩
theorem RpF.length {K : PySem.W.Frag} {G : Hp} : ∀ {vs : List (Str × V)} {ds : List (Str × D)}, RpF K G vs ds → vs.length = ds.length
  | _, _, .nil => rfl
  | _, _, .cons _ r => by simp [RpF.length r]
/-- what is known of an object that may change -/
inductive Cell where
  | jar | lst (xs : List D) | dct (kvs : List (Key × D)) | ins (C : Addr) (fs : List (Str × D)) | dcT (kvs : List (List Key × D)) | tupx (xs : List D) | dcL (kvs : List (List Key × D)) | tbl (q : Str)
def CellRp (K : PySem.W.Frag) (G : Hp) (o : Option HO) : Cell → Prop
  | .jar => ∃ a b c : Int, o = some (.lst [.int a, .int b, .int c]) ∧ 0 ≤ a ∧ 0 ≤ b ∧ 0 ≤ c
  | .lst xs => ∃ vs, o = some (.lst vs) ∧ RpA K G vs xs
  | .dct kvs => ∃ vs, o = some (.dK vs) ∧ RpK K G vs kvs
  | .ins C fs => ∃ dx vs, o = some (.ins C dx vs) ∧ RpF K G vs fs
  | .dcT kvs => ∃ vs, o = some (.dT vs) ∧ RpT K G vs kvs
  | .dcL kvs => ∃ (ob : Obj) (vs : List (List Key × V)), o = some (.frz ob (.dT vs)) ∧ RpT K G vs kvs
  | .tupx xs => ∃ (ob : Obj) (vs : List V), o = some (.frz ob (.tup vs)) ∧ ob.cls = .type "tuple" ∧ ob.dict = none ∧ RpA K G vs xs
  | .tbl q => ∃ ps : Array Value, o = some (.tbl ps) ∧ TriplesOk ps.toList ∧ ∀ (pos : Pos) (cv : Value), codeAmong pos ps.toList = some cv → ∃ c, cv = .ref c ∧ G c = some (LamX.CodeO c q)
theorem CellRp.mono {K : PySem.W.Frag} {G G' : Hp} {o : Option HO} (e : Sub G G') : ∀ {c : Cell}, CellRp K G o c → CellRp K G' o c
  | .jar, h => h
  | .lst _, ⟨vs, h, r⟩ => ⟨vs, h, r.mono e⟩
  | .dct _, ⟨vs, h, r⟩ => ⟨vs, h, r.mono e⟩
  | .ins _ _, ⟨dx, vs, h, r⟩ => ⟨dx, vs, h, r.mono e⟩
  | .dcT _, ⟨vs, h, r⟩ => ⟨vs, h, r.mono e⟩
  | .dcL _, ⟨ob, vs, h, r⟩ => ⟨ob, vs, h, r.mono e⟩
  | .tupx _, ⟨ob, vs, h, h1, h2, r⟩ => ⟨ob, vs, h, h1, h2, r.mono e⟩
  | .tbl _, ⟨ps, h, ht, r⟩ => ⟨ps, h, ht, fun pos cv hc => let ⟨c, e1, e2⟩ := r pos cv hc; ⟨c, e1, e _ _ e2⟩⟩
/-- no tuple -/
def nT : HO → Bool
  | .tup _ => false
  | .ext _ => false
  | _ => true
theorem CellRp.someT {K : PySem.W.Frag} {G : Hp} {o : Option HO} : ∀ {c : Cell}, CellRp K G o c → ∃ u, o = some u ∧ nT u = true
  | .jar, ⟨_, _, _, h, _⟩ => ⟨_, h, rfl⟩
  | .lst _, ⟨_, h, _⟩ => ⟨_, h, rfl⟩
  | .dct _, ⟨_, h, _⟩ => ⟨_, h, rfl⟩
  | .ins _ _, ⟨_, _, h, _⟩ => ⟨_, h, rfl⟩
  | .dcT _, ⟨_, h, _⟩ => ⟨_, h, rfl⟩
  | .dcL _, ⟨_, _, h, _⟩ => ⟨_, h, rfl⟩
  | .tupx _, ⟨_, _, h, _⟩ => ⟨_, h, rfl⟩
  | .tbl _, ⟨_, h, _⟩ => ⟨_, h, rfl⟩
theorem CellRp.some {K : PySem.W.Frag} {G : Hp} {o : Option HO} {c : Cell} (h : CellRp K G o c) : ∃ u, o = some u := let ⟨u, e, _⟩ := h.someT; ⟨u, e⟩
abbrev Cs := List (Addr × Cell)
structure En where
  s : List (Option D)
  c : Cs := []
def inC (c : Cs) (a : Addr) : Bool := c.any fun p => p.1 == a
def tot (m : Addr → Bool) (c : Cs) : Addr → Bool := fun a => m a || inC c a
def hid (m : Addr → Bool) (H : Hp) : Hp := fun a => if m a = true then none else H a
theorem inC_of {c : Cs} {p : Addr × Cell} (h : p ∈ c) : inC c p.1 = true := List.any_eq_true.mpr ⟨p, h, by simp⟩
theorem of_inC {c : Cs} {a : Addr} (h : inC c a = true) : ∃ p ∈ c, p.1 = a := by
  obtain ⟨p, h1, h2⟩ := List.any_eq_true.mp h
  exact ⟨p, h1, by simpa using h2⟩
theorem hid_some {m : Addr → Bool} {H : Hp} {a : Addr} {o : HO} : hid m H a = some o ↔ m a = false ∧ H a = some o := by
  unfold hid
  cases e : m a <;> simp
theorem hid_sub (m : Addr → Bool) (H : Hp) : Sub (hid m H) H := fun a o h => (hid_some.mp h).2
theorem hid_mono {m m' : Addr → Bool} {H H' : Hp} (h : ∀ a o, m a = false → H a = some o → m' a = false ∧ H' a = some o) : Sub (hid m H) (hid m' H') := fun a o e => by
  obtain ⟨h1, h2⟩ := hid_some.mp e
  exact hid_some.mpr (h a o h1 h2)
theorem tot_false {m : Addr → Bool} {c : Cs} {a : Addr} : tot m c a = false ↔ m a = false ∧ inC c a = false := by
  unfold tot
  simp
def SlotRp (K : PySem.W.Frag) (G : Hp) (σ : L2.St) (s : List (Option D)) : Prop := σ.length = s.length ∧ ∀ (i : Nat) (d : D), s[i]? = some (some d) → ∃ v, σ[i]? = some (some v) ∧ Rp K G v d
theorem SlotRp.mono {K : PySem.W.Frag} {G G' : Hp} {σ : L2.St} {s : List (Option D)} (e : Sub G G') (h : SlotRp K G σ s) : SlotRp K G' σ s := ⟨h.1, fun i d q => let ⟨v, a, b⟩ := h.2 i d q; ⟨v, a, b.mono e⟩⟩
theorem SlotRp.set {K : PySem.W.Frag} {G : Hp} {σ : L2.St} {s : List (Option D)} {v : V} {d : D} (i : Nat) (h : SlotRp K G σ s) (r : Rp K G v d) : SlotRp K G (σ.set i (some v)) (s.set i (some d)) := by
  refine ⟨by simp [h.1], fun j e q => ?_⟩
  by_cases hj : i = j
  · subst hj
    have hlt : i < s.length := by
      have := (List.getElem?_eq_some_iff.mp q).1
      simpa using this
    rw [List.getElem?_set_self hlt] at q
    cases q
    exact ⟨v, by rw [List.getElem?_set_self (by rw [h.1]; exact hlt)], r⟩
  · rw [List.getElem?_set_ne hj] at q
    obtain ⟨w, h1, h2⟩ := h.2 j e q
    exact ⟨w, by rw [List.getElem?_set_ne hj]; exact h1, h2⟩
theorem SlotRp.unset {K : PySem.W.Frag} {G : Hp} {σ : L2.St} {s : List (Option D)} (i : Nat) (h : SlotRp K G σ s) : SlotRp K G (σ.set i none) (s.set i none) := by
  refine ⟨by simp [h.1], fun j e q => ?_⟩
  by_cases hj : i = j
  · subst hj
    by_cases hlt : i < s.length
    · rw [List.getElem?_set_self hlt] at q; cases q
    · rw [List.getElem?_eq_none (by simpa using hlt)] at q; cases q
  · rw [List.getElem?_set_ne hj] at q
    obtain ⟨w, h1, h2⟩ := h.2 j e q
    exact ⟨w, by rw [List.getElem?_set_ne hj]; exact h1, h2⟩
/-- an exception: its class, what it keeps -/
structure Xn where
  cls : Value
  fs : Option (List (Str × D))
/-- where one stands: what is masked (others' cells); the cells and the heap at the entry; what is wanted of an exception -/
structure Md where
  m : Addr → Bool
  c0 : Cs
  H0 : Hp
  E : Xn → En → Prop
/-- what is no cell stays, and becomes none -/
def Fw (c c' : Cs) (H H' : Hp) : Prop := ∀ a o, inC c a = false → H a = some o → H' a = some o ∧ inC c' a = false
theorem Fw.refl (c : Cs) (H : Hp) : Fw c c H H := fun _ _ h e => ⟨e, h⟩
theorem Fw.trans {c c1 c2 : Cs} {H H1 H2 : Hp} (a : Fw c c1 H H1) (b : Fw c1 c2 H1 H2) : Fw c c2 H H2 := fun x o h e =>
  let ⟨h1, h2⟩ := a x o h e
  b x o h2 h1
theorem Fw.sub {c c' : Cs} {H H' : Hp} {m : Addr → Bool} (a : Fw c c' H H') : Sub (hid (tot m c) H) (hid (tot m c') H') := hid_mono fun x o h e => by
  obtain ⟨h1, h2⟩ := tot_false.mp h
  obtain ⟨h3, h4⟩ := a x o h2 e
  exact ⟨tot_false.mpr ⟨h1, h4⟩, h3⟩
theorem Fw.of_sub {c : Cs} {H H' : Hp} (e : Sub H H') : Fw c c H H' := fun a o h q => ⟨e a o q, h⟩
/-- the cells as they stand; m: what is masked -/
structure COk (K : PySem.W.Frag) (m : Addr → Bool) (H : Hp) (c : Cs) : Prop where
  dom : ∀ a, m a = true → ∃ o, H a = some o ∧ nT o = true
  nd : (c.map (·.1)).Nodup
  off : ∀ p ∈ c, m p.1 = false
  cells : ∀ p ∈ c, CellRp K (hid (tot m c) H) (H p.1) p.2
theorem COk.more {K : PySem.W.Frag} {m : Addr → Bool} {H H' : Hp} {c : Cs} (R : COk K m H c) (e : Sub H H') : COk K m H' c := by
  have f : Sub (hid (tot m c) H) (hid (tot m c) H') := (Fw.of_sub (c := c) e).sub
  refine ⟨fun a h => ?_, R.nd, R.off, fun p hp => ?_⟩
  · obtain ⟨o, q, z⟩ := R.dom a h
    exact ⟨o, e a o q, z⟩
  · have h := R.cells p hp
    obtain ⟨u, hu⟩ := h.some
    have e' : H' p.1 = H p.1 := by rw [hu]; exact e _ _ hu
    rw [e']
    exact h.mono f
theorem COk.domT {K : PySem.W.Frag} {m : Addr → Bool} {H : Hp} {c : Cs} (R : COk K m H c) : ∀ a, tot m c a = true → ∃ o, H a = some o ∧ nT o = true := fun a h => by
  unfold tot at h
  rcases (Bool.or_eq_true _ _).mp h with h | h
  · exact R.dom a h
  · obtain ⟨p, hp, rfl⟩ := of_inC h
    exact (R.cells p hp).someT
/-- a def's slots and heap show an environment -/
structure Rel (K : PySem.W.Frag) (μ : Md) (H : Hp) (σ : L2.St) (Γ : En) : Prop where
  co : COk K μ.m H Γ.c
  slots : SlotRp K (hid (tot μ.m Γ.c) H) σ Γ.s
  fw : Fw μ.c0 Γ.c μ.H0 H
abbrev Vw (μ : Md) (Γ : En) (H : Hp) : Hp := hid (tot μ.m Γ.c) H
section
variable {K : PySem.W.Frag} {μ : Md} {H H' : Hp} {σ : L2.St} {Γ : En} {v : V} {d : D}
/-- new objects alone -/
theorem Rel.more (R : Rel K μ H σ Γ) (e : Sub H H') : Rel K μ H' σ Γ :=
  ⟨R.co.more e, R.slots.mono (Fw.of_sub (c := Γ.c) e).sub, R.fw.trans (Fw.of_sub e)⟩
theorem Rel.domT (R : Rel K μ H σ Γ) : ∀ a, tot μ.m Γ.c a = true → ∃ o, H a = some o ∧ nT o = true := R.co.domT
theorem Rel.set (R : Rel K μ H σ Γ) (i : Nat) (r : Rp K (Vw μ Γ H) v d) : Rel K μ H (σ.set i (some v)) { Γ with s := Γ.s.set i (some d) } :=
  ⟨R.co, R.slots.set i r, R.fw⟩
/-- a new address is not masked -/
theorem Rel.fresh (R : Rel K μ H σ Γ) {p : Addr} (h : H p = none) : tot μ.m Γ.c p = false := by
  cases e : tot μ.m Γ.c p with
  | false => rfl
  | true =>
    obtain ⟨o, q, _⟩ := R.domT p e
    rw [h] at q
    cases q
end
theorem sub_upd {H : Hp} {p : Addr} {o : HO} (h : H p = none) : Sub H (upd H p o) := fun a u e => by
  rw [upd_ne (ne_of_none e h)]
  exact e
theorem hid_upd {m : Addr → Bool} {H : Hp} {p : Addr} {o : HO} (h : m p = false) : hid m (upd H p o) p = some o := hid_some.mpr ⟨h, upd_same⟩
/-- all readings at once -/
def uE (X : Cx) (e : Expr) : TE := fun σ H Q => ∃ t, PE X e t ∧ t σ H Q
theorem pe_u {X : Cx} {e : Expr} : PE X e (uE X e) := ⟨fun pins s σ H Q I ⟨_, h, q⟩ => h.run pins s σ H Q I q⟩
def uT (X : Cx) (e : Expr) : TT := fun σ H Q => ∃ t, PT X e t ∧ t σ H Q
theorem pt_u {X : Cx} {e : Expr} : PT X e (uT X e) := ⟨fun pins s σ H Q I ⟨_, h, q⟩ => h.run pins s σ H Q I q⟩
def uW (X : Cx) (e : Expr) : TT := fun σ H Q => ∃ t, PW X e t ∧ t σ H Q
theorem pw_u {X : Cx} {e : Expr} : PW X e (uW X e) := ⟨fun wh pins s σ H Q I ⟨_, h, q⟩ => h.run wh pins s σ H Q I q⟩
def uA (X : Cx) (es : List Expr) : TA := fun σ H Q => ∃ t, PA X es t ∧ t σ H Q
theorem pa_u {X : Cx} {es : List Expr} : PA X es (uA X es) := ⟨fun pos pins s σ H Q I ⟨_, h, q⟩ => h.run pos pins s σ H Q I q⟩
def uK (X : Cx) (ks : List Keyword) : TA := fun σ H Q => ∃ t, PK X ks t ∧ t σ H Q
theorem pk_u {X : Cx} {ks : List Keyword} : PK X ks (uK X ks) := ⟨fun pos pins s σ H Q I ⟨_, h, q⟩ => h.run pos pins s σ H Q I q⟩
def uS (X : Cx) (st : Stmt) : TS := fun D σ H => ∃ t, PS X st t ∧ t D σ H
theorem ps_u {X : Cx} {st : Stmt} : PS X st (uS X st) := ⟨fun pins s σ H D I ⟨_, h, q⟩ => h.run pins s σ H D I q⟩
def uSs (X : Cx) (st : List Stmt) : TS := fun D σ H => ∃ t, PSs X st t ∧ t D σ H
theorem pss_u {X : Cx} {st : List Stmt} : PSs X st (uSs X st) := ⟨fun pins s σ H D I ⟨_, h, q⟩ => h.run pins s σ H D I q⟩
def uG (X : Cx) (tg : Expr) : TG := fun v σ H Q => ∃ t, PG X tg t ∧ t v σ H Q
theorem pg_u {X : Cx} {tg : Expr} : PG X tg (uG X tg) := ⟨fun pins s σ H v u Q I r ⟨_, h, q⟩ => h.run pins s σ H v u Q I r q⟩
def uGs (X : Cx) (tg : List Expr) : TGs := fun v σ H Q => ∃ t, PGs X tg t ∧ t v σ H Q
theorem pgs_u {X : Cx} {tg : List Expr} : PGs X tg (uGs X tg) := ⟨fun pins s σ H v u Q I r ⟨_, h, q⟩ => h.run pins s σ H v u Q I r q⟩
def uO (X : Cx) (e : Option Expr) : TO := fun σ H Q => ∃ t, PO X e t ∧ t σ H Q
theorem po_u {X : Cx} {e : Option Expr} : PO X e (uO X e) := ⟨fun pins s σ H Q I ⟨_, h, q⟩ => h.run pins s σ H Q I q⟩
theorem PE.imp {X : Cx} {e : Expr} {t u : TE} (h : PE X e t) (i : ∀ σ H Q, u σ H Q → t σ H Q) : PE X e u := ⟨fun pins s σ H Q I q => h.run pins s σ H Q I (i _ _ _ q)⟩
theorem PT.imp {X : Cx} {e : Expr} {t u : TT} (h : PT X e t) (i : ∀ σ H Q, u σ H Q → t σ H Q) : PT X e u := ⟨fun pins s σ H Q I q => h.run pins s σ H Q I (i _ _ _ q)⟩
theorem PW.imp {X : Cx} {e : Expr} {t u : TT} (h : PW X e t) (i : ∀ σ H Q, u σ H Q → t σ H Q) : PW X e u := ⟨fun wh pins s σ H Q I q => h.run wh pins s σ H Q I (i _ _ _ q)⟩
theorem PA.imp {X : Cx} {e : List Expr} {t u : TA} (h : PA X e t) (i : ∀ σ H Q, u σ H Q → t σ H Q) : PA X e u := ⟨fun pos pins s σ H Q I q => h.run pos pins s σ H Q I (i _ _ _ q)⟩
theorem PK.imp {X : Cx} {e : List Keyword} {t u : TA} (h : PK X e t) (i : ∀ σ H Q, u σ H Q → t σ H Q) : PK X e u := ⟨fun pos pins s σ H Q I q => h.run pos pins s σ H Q I (i _ _ _ q)⟩
theorem PS.imp {X : Cx} {e : Stmt} {t u : TS} (h : PS X e t) (i : ∀ D σ H, u D σ H → t D σ H) : PS X e u := ⟨fun pins s σ H Q I q => h.run pins s σ H Q I (i _ _ _ q)⟩
theorem PSs.imp {X : Cx} {e : List Stmt} {t u : TS} (h : PSs X e t) (i : ∀ D σ H, u D σ H → t D σ H) : PSs X e u := ⟨fun pins s σ H Q I q => h.run pins s σ H Q I (i _ _ _ q)⟩
theorem PG.imp {X : Cx} {e : Expr} {t u : TG} (h : PG X e t) (i : ∀ v σ H Q, u v σ H Q → t v σ H Q) : PG X e u := ⟨fun pins s σ H v w Q I r q => h.run pins s σ H v w Q I r (i _ _ _ _ q)⟩
theorem PGs.imp {X : Cx} {e : List Expr} {t u : TGs} (h : PGs X e t) (i : ∀ v σ H Q, u v σ H Q → t v σ H Q) : PGs X e u := ⟨fun pins s σ H v w Q I r q => h.run pins s σ H v w Q I r (i _ _ _ _ q)⟩
theorem PI.imp {X : Cx} {tg e : Expr} {t u : TI} (h : PI X tg e t) (i : ∀ σ H Q, u σ H Q → t σ H Q) : PI X tg e u := ⟨fun pins s σ H Q I q => h.run pins s σ H Q I (i _ _ _ q)⟩
theorem PO.imp {X : Cx} {e : Option Expr} {t u : TO} (h : PO X e t) (i : ∀ σ H Q, u σ H Q → t σ H Q) : PO X e u := ⟨fun pins s σ H Q I q => h.run pins s σ H Q I (i _ _ _ q)⟩
abbrev QE := D → En → Prop
/-- an expression, by data -/
def tD (K : PySem.W.Frag) (μ : Md) (Γ : En) (Q : QE) : TE := fun σ H q => Rel K μ H σ Γ ∧ ∀ v H' d Γ', Γ'.s = Γ.s → Fw Γ.c Γ'.c H H' → Rel K μ H' σ Γ' → Rp K (Vw μ Γ' H') v d → Q d Γ' → q v H'
def tTD (K : PySem.W.Frag) (μ : Md) (Γ : En) (Q : Bool → En → Prop) : TT := fun σ H q => Rel K μ H σ Γ ∧ ∀ H' b Γ', Γ'.s = Γ.s → Fw Γ.c Γ'.c H H' → Rel K μ H' σ Γ' → Q b Γ' → q b H'
def tAD (K : PySem.W.Frag) (μ : Md) (Γ : En) (Q : List D → En → Prop) : TA := fun σ H q => Rel K μ H σ Γ ∧ ∀ vs H' ds Γ', Γ'.s = Γ.s → Fw Γ.c Γ'.c H H' → Rel K μ H' σ Γ' → RpA K (Vw μ Γ' H') vs ds → Q ds Γ' → q vs H'
def tOD (K : PySem.W.Frag) (μ : Md) (Γ : En) (Q : Option Int → En → Prop) : TO := fun σ H q => Rel K μ H σ Γ ∧ ∀ H' b Γ', Γ'.s = Γ.s → Fw Γ.c Γ'.c H H' → Rel K μ H' σ Γ' → Q b Γ' → q b H'
structure Po where
  nx : En → Prop
  rt : QE
  bk : En → Prop := fun _ => False
  ct : En → Prop := fun _ => False
def tSD (K : PySem.W.Frag) (μ : Md) (Γ : En) (P : Po) : TS := fun D σ H => Rel K μ H σ Γ ∧ (∀ σ' H' Γ', Fw Γ.c Γ'.c H H' → Rel K μ H' σ' Γ' → P.nx Γ' → D.nx σ' H') ∧
  (∀ v σ' H' d Γ', Fw Γ.c Γ'.c H H' → Rel K μ H' σ' Γ' → Rp K (Vw μ Γ' H') v d → P.rt d Γ' → D.rt v H') ∧
  (∀ σ' H' Γ', Fw Γ.c Γ'.c H H' → Rel K μ H' σ' Γ' → P.bk Γ' → D.bk σ' H') ∧ (∀ σ' H' Γ', Fw Γ.c Γ'.c H H' → Rel K μ H' σ' Γ' → P.ct Γ' → D.ct σ' H')
def XE (X : Cx) (μ : Md) (e : Expr) (Γ : En) (Q : QE) : Prop := PE X e (tD X.K μ Γ Q)
def XT (X : Cx) (μ : Md) (e : Expr) (Γ : En) (Q : Bool → En → Prop) : Prop := PT X e (tTD X.K μ Γ Q)
def XW (X : Cx) (μ : Md) (e : Expr) (Γ : En) (Q : Bool → En → Prop) : Prop := PW X e (tTD X.K μ Γ Q)
def XA (X : Cx) (μ : Md) (es : List Expr) (Γ : En) (Q : List D → En → Prop) : Prop := PA X es (tAD X.K μ Γ Q)
def XKw (X : Cx) (μ : Md) (es : List Keyword) (Γ : En) (Q : List D → En → Prop) : Prop := PK X es (tAD X.K μ Γ Q)
def XO (X : Cx) (μ : Md) (e : Option Expr) (Γ : En) (Q : Option Int → En → Prop) : Prop := PO X e (tOD X.K μ Γ Q)
def XS (X : Cx) (μ : Md) (st : Stmt) (Γ : En) (P : Po) : Prop := PS X st (tSD X.K μ Γ P)
def XB (X : Cx) (μ : Md) (st : List Stmt) (Γ : En) (P : Po) : Prop := PSs X st (tSD X.K μ Γ P)
section
variable {X : Cx} {μ : Md} {Γ : En} {Q : QE} {a b c e : Expr} {es : List Expr} {pos : Pos} {P : Po} {st : Stmt} {sts : List Stmt}
/-- weaken -/
theorem XE.imp {Q' : QE} (h : XE X μ e Γ Q) (i : ∀ d Γ', Q d Γ' → Q' d Γ') : XE X μ e Γ Q' := PE.imp h fun σ H q ⟨R, k⟩ => ⟨R, fun v H' d Γ' s f R' r z => k v H' d Γ' s f R' r (i _ _ z)⟩
theorem XT.imp {Q Q' : Bool → En → Prop} (h : XT X μ e Γ Q) (i : ∀ d Γ', Q d Γ' → Q' d Γ') : XT X μ e Γ Q' := PT.imp h fun σ H q ⟨R, k⟩ => ⟨R, fun H' d Γ' s f R' z => k H' d Γ' s f R' (i _ _ z)⟩
theorem xe_int {i : Int} {j} (h : Q (.int i) Γ) : XE X μ (.Constant (.int i) j pos) Γ Q := PE.imp pe_int fun σ H q ⟨R, k⟩ => k _ H _ Γ rfl (Fw.refl _ _) R (.int i) h
theorem xe_bl {i : Bool} {j} (h : Q (.bl i) Γ) : XE X μ (.Constant (.bool i) j pos) Γ Q := PE.imp pe_bl fun σ H q ⟨R, k⟩ => k _ H _ Γ rfl (Fw.refl _ _) R (.bl i) h
theorem xe_non {j} (h : Q .non Γ) : XE X μ (.Constant .none j pos) Γ Q := PE.imp pe_non fun σ H q ⟨R, k⟩ => k _ H _ Γ rfl (Fw.refl _ _) R .non h
theorem xe_str {i : Str} {j} (h : Q (.str i) Γ) : XE X μ (.Constant (.str i) j pos) Γ Q := PE.imp pe_str fun σ H q ⟨R, k⟩ => k _ H _ Γ rfl (Fw.refl _ _) R (.str i) h
theorem xe_var {i : Nat} {x : Str} {d : D} (hN : X.N[i]? = some x) (hv : Vis X.env.scope x) (hd : Γ.s[i]? = some (some d)) (h : Q d Γ) (h1 : (x == ("__debug__" : Str)) = false := by decide) (h2 : (x == ("__classdict__" : Str)) = false := by decide) : XE X μ (.Name x pos) Γ Q :=
  PE.imp (pe_var hN hv h1 h2) fun σ H q ⟨R, k⟩ => by
    obtain ⟨v, hv, r⟩ := R.slots.2 i d hd
    exact ⟨v, hv, k v H d Γ rfl (Fw.refl _ _) R r h⟩
/-- a module's constant -/
theorem xe_glob {x : Str} {u : Value} {d : D} {v : V} (hg : Gl X x) (hm : X.mg x = some u) (r : RelV v u) (rd : ∀ G, Rp X.K G v d) (h : Q d Γ) (h1 : (x == ("__debug__" : Str)) = false := by decide) : XE X μ (.Name x pos) Γ Q :=
  PE.imp (pe_glob hg hm r h1) fun σ H q ⟨R, k⟩ => k v H d Γ rfl (Fw.refl _ _) R (rd _) h
/-- an operation on data -/
def rP (K : PySem.W.Frag) (x y d : D) : R2 := fun a b H q => ∃ m : Addr → Bool, (∀ a, m a = true → ∃ o, H a = some o ∧ nT o = true) ∧ Rp K (hid m H) a x ∧ Rp K (hid m H) b y ∧ ∀ v H', Sub H H' → Rp K (hid m H') v d → q v H'
def OpD (X : Cx) (f : Value → Value → Sem Value) (x y d : D) : Prop := OpR X f (rP X.K x y d)
def UnD (X : Cx) (f : Value → Sem Value) (x d : D) : Prop := UnR X f fun a H q => ∃ m : Addr → Bool, (∀ a, m a = true → ∃ o, H a = some o ∧ nT o = true) ∧ Rp X.K (hid m H) a x ∧ ∀ v H', Sub H H' → Rp X.K (hid m H') v d → q v H'
def uR2 (X : Cx) (f : Value → Value → Sem Value) : R2 := fun a b H q => ∃ r, OpR X f r ∧ r a b H q
theorem or_u (f : Value → Value → Sem Value) : OpR X f (uR2 X f) := fun pins s σ H x y v u Q I rx ry ⟨_, h, q⟩ => h pins s σ H x y v u Q I rx ry q
theorem xe_op2 {f : Value → Value → Sem Value} {σ : L2.St} {H : Hp} {q : VK} {G : En} (ha : XE X μ a Γ fun x Γ1 => XE X μ b Γ1 fun y Γ2 => ∃ d, OpD X f x y d ∧ Q d Γ2) (h : tD X.K μ Γ Q σ H q) :
    tOp (uR2 X f) (tD X.K μ Γ fun x Γ1 => XE X μ b Γ1 fun y Γ2 => ∃ d, OpD X f x y d ∧ Q d Γ2) (uE X b) σ H q := by
  obtain ⟨R, k⟩ := h
  refine ⟨R, fun v H1 x Γ1 s1 f1 R1 r1 hb => ⟨_, hb, R1, fun w H2 y Γ2 s2 f2 R2 r2 ⟨d, ho, hq⟩ => ⟨_, ho, tot μ.m Γ2.c, R2.domT, r1.mono f2.sub, r2, fun z H3 e3 r3 => ?_⟩⟩⟩
  exact k z H3 d Γ2 (s2.trans s1) ((f1.trans f2).trans (Fw.of_sub e3)) (R2.more e3) r3 hq
theorem xe_op {op : Operator} (h : XE X μ a Γ fun x Γ1 => XE X μ b Γ1 fun y Γ2 => ∃ d, OpD X (binaryOp op) x y d ∧ Q d Γ2) : XE X μ (.BinOp a op b pos) Γ Q :=
  PE.imp (pe_op (or_u _) h pe_u) fun _ _ _ q => xe_op2 (G := Γ) h q
theorem xe_cmp {op : CmpOp} (hm : behindInMarks op b = false) (h : XE X μ a Γ fun x Γ1 => XE X μ b Γ1 fun y Γ2 => ∃ d, OpD X (compareOp op) x y d ∧ Q d Γ2) : XE X μ (.Compare a [op] [b] pos) Γ Q :=
  PE.imp (pe_cmpR (or_u _) h pe_u hm) fun _ _ _ q => xe_op2 (G := Γ) h q
theorem xt_cmp {op : CmpOp} {Q : Bool → En → Prop} (hm : behindInMarks op b = false) (h : XE X μ a Γ fun x Γ1 => XE X μ b Γ1 fun y Γ2 => ∃ c, OpD X (compareOp op) x y (.bl c) ∧ Q c Γ2) : XT X μ (.Compare a [op] [b] pos) Γ Q := by
  refine PT.imp (pt_cmpR (or_u _) h pe_u hm) fun σ H q ⟨R, k⟩ => ?_
  refine ⟨R, fun v H1 x Γ1 s1 f1 R1 r1 hb => ⟨_, hb, R1, fun w H2 y Γ2 s2 f2 R2 r2 ⟨d, ho, hq⟩ => ⟨_, ho, tot μ.m Γ2.c, R2.domT, r1.mono f2.sub, r2, fun z H3 e3 r3 => ?_⟩⟩⟩
  cases r3
  exact ⟨d, rfl, k H3 d Γ2 (s2.trans s1) ((f1.trans f2).trans (Fw.of_sub e3)) (R2.more e3) hq⟩
def uU (X : Cx) (f : Value → Sem Value) : V → Hp → VK → Prop := fun a H q => ∃ r, UnR X f r ∧ r a H q
theorem un_u (f : Value → Sem Value) : UnR X f (uU X f) := fun pins s σ H x v Q I rx ⟨_, h, q⟩ => h pins s σ H x v Q I rx q
theorem xe_un {op : UnaryOp} (h : XE X μ a Γ fun x Γ1 => ∃ d, UnD X (unaryOp op) x d ∧ Q d Γ1) : XE X μ (.UnaryOp op a pos) Γ Q :=
  PE.imp (pe_un (un_u _) h) fun σ H q ⟨R, k⟩ => ⟨R, fun v H1 x Γ1 s1 f1 R1 r1 ⟨d, ho, hq⟩ => ⟨_, ho, tot μ.m Γ1.c, R1.domT, r1, fun z H3 e3 r3 => k z H3 d Γ1 s1 (f1.trans (Fw.of_sub e3)) (R1.more e3) r3 hq⟩⟩
theorem xt_val {Q : Bool → En → Prop} (h : XE X μ e Γ fun x Γ1 => ∃ c, x = .bl c ∧ Q c Γ1) (he : ∀ whole, isTrue e X.env whole = (do let v ← whole; standAt e.pos; holding [v] (truthy v)) := by intro _; rfl) : XT X μ e Γ Q :=
  PT.imp (pt_val h he) fun σ H q ⟨R, k⟩ => ⟨R, fun v H1 x Γ1 s1 f1 R1 r1 ⟨c, hc, hq⟩ => by
    subst hc
    cases r1
    exact ⟨c, rfl, k H1 c Γ1 s1 f1 R1 hq⟩⟩
theorem xt_not {Q : Bool → En → Prop} (h : XT X μ a Γ fun x Γ1 => Q (!x) Γ1) : XT X μ (.UnaryOp .Not a pos) Γ Q :=
  PT.imp (pt_not h) fun σ H q ⟨R, k⟩ => ⟨R, fun H1 x Γ1 s1 f1 R1 hq => k H1 _ Γ1 s1 f1 R1 hq⟩
theorem xw_and1 {Q : Bool → En → Prop} (h : XT X μ a Γ Q) : XW X μ (.BoolOp .And [a] pos) Γ Q := pw_and1 h
theorem xw_or1 {Q : Bool → En → Prop} (h : XT X μ a Γ Q) : XW X μ (.BoolOp .Or [a] pos) Γ Q := pw_or1 h
theorem xw_and {Q : Bool → En → Prop} (h : XT X μ a Γ fun c Γ1 => if c = true then XW X μ (.BoolOp .And (b :: es) pos) Γ1 Q else Q false Γ1) : XW X μ (.BoolOp .And (a :: b :: es) pos) Γ Q :=
  PW.imp (pw_and h pw_u) fun σ H q ⟨R, k⟩ => ⟨R, fun H1 c Γ1 s1 f1 R1 hq => by
    cases c with
    | true =>
      rw [if_pos rfl] at hq
      show uW X _ σ H1 q
      exact ⟨_, hq, R1, fun H2 c2 Γ2 s2 f2 R2 hq => k H2 c2 Γ2 (s2.trans s1) (f1.trans f2) R2 hq⟩
    | false =>
      rw [if_neg Bool.false_ne_true] at hq
      exact k H1 false Γ1 s1 f1 R1 hq⟩
theorem xw_or {Q : Bool → En → Prop} (h : XT X μ a Γ fun c Γ1 => if c = true then Q true Γ1 else XW X μ (.BoolOp .Or (b :: es) pos) Γ1 Q) : XW X μ (.BoolOp .Or (a :: b :: es) pos) Γ Q :=
  PW.imp (pw_or h pw_u) fun σ H q ⟨R, k⟩ => ⟨R, fun H1 c Γ1 s1 f1 R1 hq => by
    cases c with
    | false =>
      rw [if_neg Bool.false_ne_true] at hq
      show uW X _ σ H1 q
      exact ⟨_, hq, R1, fun H2 c2 Γ2 s2 f2 R2 hq => k H2 c2 Γ2 (s2.trans s1) (f1.trans f2) R2 hq⟩
    | true =>
      rw [if_pos rfl] at hq
      exact k H1 true Γ1 s1 f1 R1 hq⟩
theorem xt_w {Q : Bool → En → Prop} (h : XW X μ e Γ Q) : XT X μ e Γ Q := PW.pt h
/-- and, or, not as values of bools -/
theorem xe_one {op} (h : XE X μ a Γ Q) : XE X μ (.BoolOp op [a] pos) Γ Q := pe_one h
theorem xe_and (h : XE X μ a Γ fun x Γ1 => ∃ c, x = .bl c ∧ if c = true then XE X μ (.BoolOp .And (b :: es) pos) Γ1 Q else Q (.bl false) Γ1) : XE X μ (.BoolOp .And (a :: b :: es) pos) Γ Q :=
  PE.imp (pe_and h pe_u) fun σ H q ⟨R, k⟩ => ⟨R, fun v H1 x Γ1 s1 f1 R1 r1 ⟨c, hc, hq⟩ => by
    subst hc
    cases r1
    refine ⟨c, rfl, ?_⟩
    cases c with
    | true =>
      rw [if_pos rfl] at hq
      show uE X _ σ H1 q
      exact ⟨_, hq, R1, fun v2 H2 c2 Γ2 s2 f2 R2 r2 hq => k v2 H2 c2 Γ2 (s2.trans s1) (f1.trans f2) R2 r2 hq⟩
    | false =>
      rw [if_neg Bool.false_ne_true] at hq
      exact k _ H1 _ Γ1 s1 f1 R1 (.bl false) hq⟩
theorem xe_or (h : XE X μ a Γ fun x Γ1 => ∃ c, x = .bl c ∧ if c = true then Q (.bl true) Γ1 else XE X μ (.BoolOp .Or (b :: es) pos) Γ1 Q) : XE X μ (.BoolOp .Or (a :: b :: es) pos) Γ Q :=
  PE.imp (pe_or h pe_u) fun σ H q ⟨R, k⟩ => ⟨R, fun v H1 x Γ1 s1 f1 R1 r1 ⟨c, hc, hq⟩ => by
    subst hc
    cases r1
    refine ⟨c, rfl, ?_⟩
    cases c with
    | false =>
      rw [if_neg Bool.false_ne_true] at hq
      show uE X _ σ H1 q
      exact ⟨_, hq, R1, fun v2 H2 c2 Γ2 s2 f2 R2 r2 hq => k v2 H2 c2 Γ2 (s2.trans s1) (f1.trans f2) R2 r2 hq⟩
    | true =>
      rw [if_pos rfl] at hq
      exact k _ H1 _ Γ1 s1 f1 R1 (.bl true) hq⟩
theorem xe_not (h : XE X μ a Γ fun x Γ1 => ∃ c, x = .bl c ∧ Q (.bl (!c)) Γ1) : XE X μ (.UnaryOp .Not a pos) Γ Q :=
  PE.imp (pe_not h) fun σ H q ⟨R, k⟩ => ⟨R, fun v H1 x Γ1 s1 f1 R1 r1 ⟨c, hc, hq⟩ => by
    subst hc
    cases r1
    exact ⟨c, rfl, k _ H1 _ Γ1 s1 f1 R1 (.bl _) hq⟩⟩
theorem xe_if (h : XT X μ c Γ fun x Γ1 => if x = true then XE X μ a Γ1 Q else XE X μ b Γ1 Q) : XE X μ (.IfExp c a b pos) Γ Q :=
  PE.imp (pe_ifExp h pe_u pe_u) fun σ H q ⟨R, k⟩ => ⟨R, fun H1 x Γ1 s1 f1 R1 hq => by
    cases x with
    | true =>
      rw [if_pos rfl] at hq
      exact ⟨_, hq, R1, fun v2 H2 c2 Γ2 s2 f2 R2 r2 hq => k v2 H2 c2 Γ2 (s2.trans s1) (f1.trans f2) R2 r2 hq⟩
    | false =>
      rw [if_neg Bool.false_ne_true] at hq
      exact ⟨_, hq, R1, fun v2 H2 c2 Γ2 s2 f2 R2 r2 hq => k v2 H2 c2 Γ2 (s2.trans s1) (f1.trans f2) R2 r2 hq⟩⟩
theorem xa_nil {Q : List D → En → Prop} (h : Q [] Γ) : XA X μ [] Γ Q := PA.imp pa_nil fun σ H q ⟨R, k⟩ => k [] H [] Γ rfl (Fw.refl _ _) R .nil h
theorem xa_cons {Q : List D → En → Prop} (h : XE X μ e Γ fun x Γ1 => XA X μ es Γ1 fun xs Γ2 => Q (x :: xs) Γ2) (hs : starEach (e :: es) X.env = (false, eval e X.env) :: starEach es X.env := by rfl) : XA X μ (e :: es) Γ Q :=
  PA.imp (pa_cons h pa_u hs) fun σ H q ⟨R, k⟩ => ⟨R, fun v H1 x Γ1 s1 f1 R1 r1 hq => ⟨_, hq, R1, fun vs H2 xs Γ2 s2 f2 R2 r2 hq => k (v :: vs) H2 (x :: xs) Γ2 (s2.trans s1) (f1.trans f2) R2 (.cons (r1.mono f2.sub) r2) hq⟩⟩
theorem xk_nil {Q : List D → En → Prop} (h : Q [] Γ) : XKw X μ [] Γ Q := PK.imp pk_nil fun σ H q ⟨R, k⟩ => k [] H [] Γ rfl (Fw.refl _ _) R .nil h
theorem xk_cons {Q : List D → En → Prop} {nm : Option Str} {kpos : Pos} {ks : List Keyword} (h : XE X μ e Γ fun x Γ1 => XKw X μ ks Γ1 fun xs Γ2 => Q (x :: xs) Γ2) : XKw X μ (⟨nm, e, kpos⟩ :: ks) Γ Q :=
  PK.imp (pk_cons h pk_u) fun σ H q ⟨R, k⟩ => ⟨R, fun v H1 x Γ1 s1 f1 R1 r1 hq => ⟨_, hq, R1, fun vs H2 xs Γ2 s2 f2 R2 r2 hq => k (v :: vs) H2 (x :: xs) Γ2 (s2.trans s1) (f1.trans f2) R2 (.cons (r1.mono f2.sub) r2) hq⟩⟩
theorem xe_tup {j} (h : XA X μ es Γ fun xs Γ1 => xs.length ≤ 100000 ∧ Q (.tup xs) Γ1) : XE X μ (.Tuple es j pos) Γ Q :=
  PE.imp (pe_tup h) fun σ H q ⟨R, k⟩ => ⟨R, fun vs H1 xs Γ1 s1 f1 R1 r1 ⟨hl, hq⟩ => ⟨by rw [r1.length]; exact Nat.le_trans hl (by decide), fun p hp => by
    have hf := R1.fresh hp
    have e := sub_upd (o := .tup vs) hp
    exact k _ _ _ Γ1 s1 (f1.trans (Fw.of_sub e)) (R1.more e) (.tup (.of (hid_upd hf)) (r1.mono (Fw.of_sub (c := Γ1.c) e).sub)) hq⟩⟩
theorem xe_lst (h : XA X μ es Γ fun xs Γ1 => xs.length ≤ 100000 ∧ Q (.lst xs) Γ1) : XE X μ (.List es pos) Γ Q :=
  PE.imp (pe_lst h) fun σ H q ⟨R, k⟩ => ⟨R, fun vs H1 xs Γ1 s1 f1 R1 r1 ⟨hl, hq⟩ => ⟨by rw [r1.length]; exact Nat.le_trans hl (by decide), fun p hp => by
    have hf := R1.fresh hp
    have e := sub_upd (o := .lst vs) hp
    exact k _ _ _ Γ1 s1 (f1.trans (Fw.of_sub e)) (R1.more e) (.lst (.of (hid_upd hf)) (r1.mono (Fw.of_sub (c := Γ1.c) e).sub)) hq⟩⟩
theorem xb_nil (h : P.nx Γ) : XB X μ [] Γ P := PSs.imp pss_nil fun D σ H ⟨R, k, _⟩ => k σ H Γ (Fw.refl _ _) R h
theorem xb_cons (h : XS X μ st Γ { P with nx := fun Γ1 => XB X μ sts Γ1 P }) : XB X μ (st :: sts) Γ P :=
  PSs.imp (pss_cons h pss_u) fun D σ H ⟨R, k1, k2, k3, k4⟩ => ⟨R, fun σ1 H1 Γ1 f1 R1 hq => ⟨_, hq, R1, fun σ2 H2 Γ2 f2 R2 z => k1 σ2 H2 Γ2 (f1.trans f2) R2 z, fun v σ2 H2 d Γ2 f2 R2 r z => k2 v σ2 H2 d Γ2 (f1.trans f2) R2 r z,
    fun σ2 H2 Γ2 f2 R2 z => k3 σ2 H2 Γ2 (f1.trans f2) R2 z, fun σ2 H2 Γ2 f2 R2 z => k4 σ2 H2 Γ2 (f1.trans f2) R2 z⟩, k2, k3, k4⟩
theorem xb_one (h : XS X μ st Γ P) : XB X μ [st] Γ P := pss_one h
theorem xs_pass (h : P.nx Γ) : XS X μ (.Pass pos) Γ P := PS.imp ps_pass fun D σ H ⟨R, k, _⟩ => k σ H Γ (Fw.refl _ _) R h
theorem xs_expr (h : XE X μ e Γ fun _ Γ1 => P.nx Γ1) (hs : swapsWith e none pos.line X.env = pure false := by rfl) : XS X μ (.Expr e pos) Γ P :=
  PS.imp (ps_expr h hs) fun D σ H ⟨R, k, _⟩ => ⟨R, fun v H1 x Γ1 s1 f1 R1 r1 hq => k σ H1 Γ1 f1 R1 hq⟩
theorem xs_ret (h : XE X μ e Γ P.rt) : XS X μ (.Return (some e) pos) Γ P :=
  PS.imp (ps_ret h) fun D σ H ⟨R, _, k, _⟩ => ⟨R, fun v H1 x Γ1 s1 f1 R1 r1 hq => k v σ H1 x Γ1 f1 R1 r1 hq⟩
theorem xs_if {t u : List Stmt} (h : XT X μ c Γ fun x Γ1 => if x = true then XB X μ t Γ1 P else XB X μ u Γ1 P) : XS X μ (.If c t u pos) Γ P :=
  PS.imp (ps_if h pss_u pss_u) fun D σ H ⟨R, k1, k2, k3, k4⟩ => ⟨R, fun H1 x Γ1 s1 f1 R1 hq => by
    cases x with
    | true =>
      rw [if_pos rfl] at hq
      exact ⟨_, hq, R1, fun σ2 H2 Γ2 f2 R2 z => k1 σ2 H2 Γ2 (f1.trans f2) R2 z, fun v σ2 H2 d Γ2 f2 R2 r z => k2 v σ2 H2 d Γ2 (f1.trans f2) R2 r z, fun σ2 H2 Γ2 f2 R2 z => k3 σ2 H2 Γ2 (f1.trans f2) R2 z, fun σ2 H2 Γ2 f2 R2 z => k4 σ2 H2 Γ2 (f1.trans f2) R2 z⟩
    | false =>
      rw [if_neg Bool.false_ne_true] at hq
      exact ⟨_, hq, R1, fun σ2 H2 Γ2 f2 R2 z => k1 σ2 H2 Γ2 (f1.trans f2) R2 z, fun v σ2 H2 d Γ2 f2 R2 r z => k2 v σ2 H2 d Γ2 (f1.trans f2) R2 r z, fun σ2 H2 Γ2 f2 R2 z => k3 σ2 H2 Γ2 (f1.trans f2) R2 z, fun σ2 H2 Γ2 f2 R2 z => k4 σ2 H2 Γ2 (f1.trans f2) R2 z⟩⟩
/-- x = e -/
theorem xs_set {i : Nat} {x : Str} {pos' : Pos} (hN : X.N.Nodup) (hi : X.N[i]? = some x) (hx : Loc X.env.scope x) (h : XE X μ e Γ fun d Γ1 => P.nx { Γ1 with s := Γ1.s.set i (some d) }) (hs : swapsWith e (some (.Name x pos')) pos.line X.env = pure false := by rfl)
    (hf : X.fn x = true ∨ X.env.scope.names.lookup x = some .local := by first | exact .inl rfl | exact .inr rfl | assumption) : XS X μ (.Assign [.Name x pos'] e pos) Γ P :=
  PS.imp (ps_set (i := i) hN hi hx h hs hf) fun D σ H ⟨R, k, _⟩ => ⟨R, fun v H1 d Γ1 s1 f1 R1 r1 hq => k _ H1 { Γ1 with s := Γ1.s.set i (some d) } f1 (R1.set i r1) hq⟩
end
end Pdl
namespace Pdl
open PySem L2 PyProof.Rows
/-- an exception shows what it keeps -/
def ExRp (K : PySem.W.Frag) (G : Hp) (cls : Value) (dx : Option Addr) (x : Xn) : Prop :=
  x.cls = cls ∧ match dx, x.fs with
    | none, none => True
    | some a, some fs => ∃ vs, G a = some (.xd vs) ∧ RpF K G vs fs
    | _, _ => False
/-- the arguments, the cells, what is wanted of the result and of an exception -/
abbrev SpD := List D → Cs → (D → Cs → Prop) → (Xn → Cs → Prop) → Prop
def spD (K : PySem.W.Frag) (S : SpD) : Sp := fun vs H Q E => ∃ (m : Addr → Bool) (ds : List D) (c : Cs), COk K m H c ∧ RpA K (hid (tot m c) H) vs ds ∧
  S ds c (fun d c' => ∀ v H', Fw c c' H H' → COk K m H' c' → Rp K (hid (tot m c') H') v d → Q v H') (fun x c' => ∀ cls dx H', Fw c c' H H' → COk K m H' c' → ExRp K (hid (tot m c') H') cls dx x → E cls dx H')
def startD (N : List Str) (ds : List D) : List (Option D) := ds.map some ++ List.replicate (N.length - ds.length) none
theorem slots_start {K : PySem.W.Frag} {G : Hp} {N : List Str} {vs : List V} {ds : List D} (r : RpA K G vs ds) : SlotRp K G (L2.start N vs) (startD N ds) := by
  have hl := r.length
  refine ⟨by simp [L2.start, startD, hl], fun i d h => ?_⟩
  unfold startD at h
  have hi : i < ds.length := by
    by_cases hi : i < ds.length
    · exact hi
    · rw [List.getElem?_append_right (by simpa using hi)] at h
      rw [List.getElem?_replicate] at h
      split at h <;> cases h
  rw [List.getElem?_append_left (by simpa using hi), List.getElem?_map] at h
  obtain ⟨d', e, e2⟩ := Option.map_eq_some_iff.mp h
  cases e2
  obtain ⟨v, hv, rv⟩ := r.got e
  refine ⟨v, ?_, rv⟩
  unfold L2.start
  rw [List.getElem?_append_left (by rw [List.length_map, hl]; exact hi), List.getElem?_map, hv]
  all_goals rfl
/-- the mode at a def's entry -/
abbrev mdOf (m : Addr → Bool) (c : Cs) (H : Hp) (E : Xn → Cs → Prop) : Md := { m := m, c0 := c, H0 := H, E := fun x Γ => E x Γ.c }
abbrev poOf (Q : D → Cs → Prop) : Po := { nx := fun Γ => Q .non Γ.c, rt := fun d Γ => Q d Γ.c }
section
variable {P : Program} {w : World} {K : PySem.W.Frag} {mg : Str → Option Value} {base : Heap}
theorem body_D {X : Cx} {S : SpD} {N : List Str} {vs : List V} {H : Hp} {Q : VK} {E : XK} {body : List Stmt} (hK : X.K = K)
    (hb : ∀ m ds c Q E, ds.length = vs.length → S ds c Q E → XB X (mdOf m c H E) body ⟨startD N ds, c⟩ (poOf Q)) (h : spD K S vs H Q E) :
    ∃ t, PSs X body t ∧ t { nx := fun _ H' => Q .non H', rt := Q } (L2.start N vs) H := by
  subst hK
  obtain ⟨m, ds, c, co, r, hs⟩ := h
  refine ⟨_, hb m ds c _ _ r.length.symm hs, ⟨co, slots_start r, Fw.refl _ _⟩, fun σ' H' Γ' f R q => q _ H' f R.co .non, fun v σ' H' d Γ' f R rd q => q v H' f R.co rd, fun _ _ _ _ _ q => q.elim, fun _ _ _ _ _ q => q.elim⟩
/-- the body's context -/
abbrev bX (P : Program) (w : World) (K : PySem.W.Frag) (mg : Str → Option Value) (base : Heap) (N : List Str) (qual : Str) (st : Stmt) (f : Addr) (cdv : Value) (A : Around) (outer : List Env) (s : Shared) (H : Hp) (E : XK) : Cx :=
  (cxOf CX0 P w K mg base N qual (defScope st) f cdv A outer s H E).nox
/-- THE RULE for a def that lets no exception out -/
theorem fn_D {x qual : Str} {st : Stmt} {f : Addr} {fd : FuncData} {N ps : List Str} {k : Nat} {S : SpD} (F : Fun K x qual st f fd) (sc : FnScope N ps (defScope st)) (len : ∀ ds c Q E, S ds c Q E → ds.length = ps.length)
    (hbody : ∀ (cdv : Value) (A : Around) (outer : List Env) (s : Shared) (H : Hp) (E0 : XK), Room k (bX P w K mg base N qual st f cdv A outer s H E0).A →
      ∀ m ds c Q E, S ds c Q E → XB (bX P w K mg base N qual st f cdv A outer s H E0) (mdOf m c H E) (defBody st) ⟨startD N ds, c⟩ (poOf Q)) : FnOk P w K mg base CX0 (k + 1) f fd ps (spD K S) := by
  refine F.ok sc (fun vs H Q E h => ?_) (fun cdv A outer s H vs Q E hr h => ?_)
  · obtain ⟨m, ds, c, _, r, hs⟩ := h
    rw [r.length]
    exact len _ _ _ _ hs
  · exact body_D (X := bX P w K mg base N qual st f cdv A outer s H E) rfl (fun m ds c Q' E' _ hs => hbody cdv A outer s H E hr m ds c Q' E' hs) h
end
theorem inC_app {c d : Cs} {a : Addr} : inC (c ++ d) a = (inC c a || inC d a) := by simp [inC, List.any_append]
theorem tot_app (m : Addr → Bool) (c d : Cs) : tot (tot m d) c = tot m (c ++ d) := by
  funext a
  simp only [tot, inC_app]
  cases m a <;> cases inC c a <;> cases inC d a <;> rfl
/-- the callee's part -/
theorem COk.part {K : PySem.W.Frag} {m : Addr → Bool} {H : Hp} {c1 c2 : Cs} (R : COk K m H (c1 ++ c2)) : COk K (tot m c2) H c1 := by
  have nd := R.nd
  rw [List.map_append, List.nodup_append] at nd
  refine ⟨fun a h => R.domT a ?_, nd.1, fun p hp => ?_, fun p hp => ?_⟩
  · unfold tot at h ⊢
    rw [inC_app]
    cases e : m a
    · rw [e] at h
      simp only [Bool.false_or] at h
      simp [h]
    · rfl
  · refine tot_false.mpr ⟨R.off p (List.mem_append_left _ hp), ?_⟩
    cases e : inC c2 p.1 with
    | false => rfl
    | true =>
      obtain ⟨q, hq, eq⟩ := of_inC e
      exact absurd eq.symm (nd.2.2 p.1 (List.mem_map_of_mem hp) q.1 (List.mem_map_of_mem hq))
  · rw [tot_app]
    exact R.cells p (List.mem_append_left _ hp)
/-- .. and put back -/
theorem COk.back {K : PySem.W.Frag} {m : Addr → Bool} {H H' : Hp} {c1 c2 c' : Cs} (R : COk K m H (c1 ++ c2)) (f : Fw c1 c' H H') (co : COk K (tot m c2) H' c') : COk K m H' (c' ++ c2) ∧ Fw (c1 ++ c2) (c' ++ c2) H H' := by
  have nd := R.nd
  rw [List.map_append, List.nodup_append] at nd
  have off2 : ∀ p ∈ c2, inC c1 p.1 = false := fun p hp => by
    cases e : inC c1 p.1 with
    | false => rfl
    | true =>
      obtain ⟨q, hq, eq⟩ := of_inC e
      exact absurd eq (nd.2.2 q.1 (List.mem_map_of_mem hq) p.1 (List.mem_map_of_mem hp))
  have sb : Sub (hid (tot m (c1 ++ c2)) H) (hid (tot m (c' ++ c2)) H') := by
    rw [← tot_app, ← tot_app]
    exact f.sub
  refine ⟨⟨fun a h => co.dom a (by unfold tot; rw [h]; rfl), ?_, fun p hp => ?_, fun p hp => ?_⟩, fun a o h e => ?_⟩
  · rw [List.map_append, List.nodup_append]
    refine ⟨co.nd, nd.2.1, fun a ha b hb e => ?_⟩
    obtain ⟨p, hp, rfl⟩ := List.mem_map.mp ha
    obtain ⟨q, hq, rfl⟩ := List.mem_map.mp hb
    have z := (tot_false.mp (co.off p hp)).2
    rw [e, inC_of hq] at z
    cases z
  · rcases List.mem_append.mp hp with hp | hp
    · exact (tot_false.mp (co.off p hp)).1
    · exact R.off p (List.mem_append_right _ hp)
  · rcases List.mem_append.mp hp with hp | hp
    · rw [← tot_app]
      exact co.cells p hp
    · have h := R.cells p (List.mem_append_right _ hp)
      obtain ⟨u, hu⟩ := h.some
      have e' : H' p.1 = H p.1 := by rw [hu]; exact (f _ _ (off2 p hp) hu).1
      rw [e']
      exact h.mono sb
  · rw [inC_app, Bool.or_eq_false_iff] at h
    obtain ⟨h1, h2⟩ := f a o h.1 e
    exact ⟨h1, by rw [inC_app, h2, h.2]; rfl⟩
section
variable {X : Cx} {μ : Md} {Γ : En} {S : SpD} {Q : QE}
/-- what a caller shows for a callee's promise: the callee's cells stand in front -/
def Asks (μ : Md) (S : SpD) (Q : QE) (ds : List D) (Γ : En) : Prop := ∃ c1 c2, Γ.c = c1 ++ c2 ∧ ∀ (Qc : D → Cs → Prop) (Ec : Xn → Cs → Prop), (∀ d c', Q d ⟨Γ.s, c' ++ c2⟩ → Qc d c') → (∀ x c', μ.E x ⟨Γ.s, c' ++ c2⟩ → Ec x c') → S ds c1 Qc Ec
/-- the exceptions that the mode wants -/
def wD (K : PySem.W.Frag) (μ : Md) (σ : L2.St) : XK := fun cls dx H => ∃ x Γ, Rel K μ H σ Γ ∧ ExRp K (Vw μ Γ H) cls dx x ∧ μ.E x Γ
theorem asks_sp {vs : List V} {ds : List D} {H : Hp} {σ : L2.St} {q : VK} (R : Rel X.K μ H σ Γ) (r : RpA X.K (Vw μ Γ H) vs ds) (hs : Asks μ S Q ds Γ)
    (k : ∀ v H' d Γ', Γ'.s = Γ.s → Fw Γ.c Γ'.c H H' → Rel X.K μ H' σ Γ' → Rp X.K (Vw μ Γ' H') v d → Q d Γ' → q v H') : spD X.K S vs H q (wD X.K μ σ) := by
  obtain ⟨c1, c2, ec, hs⟩ := hs
  obtain ⟨sl, c⟩ := Γ
  have ec : c = c1 ++ c2 := ec
  subst ec
  have back : ∀ {c' : Cs} {H' : Hp}, Fw c1 c' H H' → COk X.K (tot μ.m c2) H' c' → Fw (c1 ++ c2) (c' ++ c2) H H' ∧ Rel X.K μ H' σ ⟨sl, c' ++ c2⟩ := fun {c' H'} f co => by
    obtain ⟨h1, h2⟩ := R.co.back f co
    exact ⟨h2, h1, R.slots.mono h2.sub, R.fw.trans h2⟩
  refine ⟨tot μ.m c2, ds, c1, R.co.part, by rw [tot_app]; exact r, hs _ _ (fun d c' hq v H' f co rv => ?_) (fun x c' hx cls dx H' f co rx => ?_)⟩
  · obtain ⟨f2, R2⟩ := back f co
    exact k v H' d ⟨sl, c' ++ c2⟩ rfl f2 R2 (by rw [tot_app] at rv; exact rv) hq
  · obtain ⟨f2, R2⟩ := back f co
    exact ⟨x, ⟨sl, c' ++ c2⟩, R2, (by rw [tot_app] at rx; exact rx), hx⟩
end
section
variable {X : Cx} {μ : Md} {Γ : En} {S : SpD} {Q : QE} {k : Nat} {f C : Addr} {fd : FuncData} {ps : List Str} {x : Str} {p pos apos : Pos} {e o : Expr} {es : List Expr}
/-- a def that lets no exception out: what is wanted of one does not matter -/
theorem pass0' {E : XK} : Passes CX0 X E := fun _ _ _ _ _ _ _ h => h.elim
end
end Pdl
namespace Pdl
open PySem L2 PyProof.Rows
def S (l : List Nat) : Str := ⟨l.toArray⟩
theorem S_cps (l : List Nat) : (S l).cps.toList = l := rfl
theorem S_len (l : List Nat) : (S l).length = l.length := by
  show l.toArray.size = l.length
  simp
theorem S_inj {a b : List Nat} (h : S a = S b) : a = b := by
  have := congrArg (fun x : Str => x.cps.toList) h
  exact this
theorem S_eq {a b : List Nat} : S a = S b ↔ a = b := ⟨S_inj, fun h => by rw [h]⟩
theorem S_app (a b : List Nat) : S a ++ S b = S (a ++ b) := by
  show (⟨a.toArray ++ b.toArray⟩ : Str) = ⟨(a ++ b).toArray⟩
  simp
section
variable {X : Cx} {μ : Md} {Γ : En} {Q : QE} {a b c e : Expr} {es : List Expr} {pos apos cpos : Pos} {x y d : D} {m : Addr → Bool} {H : Hp}
theorem OpD.of {f : Value → Value → Sem Value} {r : R2} (h : OpR X f r) (i : ∀ a b H q m, (∀ a, m a = true → ∃ o, H a = some o ∧ nT o = true) → Rp X.K (hid m H) a x → Rp X.K (hid m H) b y → (∀ v H', Sub H H' → Rp X.K (hid m H') v d → q v H') → r a b H q) : OpD X f x y d :=
  fun pins s σ H a b v u Q I ra rb ⟨m, hm, h1, h2, k⟩ => h pins s σ H a b v u Q I ra rb (i a b H Q m hm h1 h2 k)
theorem fresh_m {p : Addr} (hm : ∀ a, m a = true → ∃ o, H a = some o ∧ nT o = true) (h : H p = none) : m p = false := by
  cases e : m p with
  | false => rfl
  | true =>
    obtain ⟨o, q, _⟩ := hm p e
    rw [h] at q
    cases q
theorem sub_hid {H' : Hp} (e : Sub H H') : Sub (hid m H) (hid m H') := hid_mono fun a o h q => ⟨h, e a o q⟩
theorem od_add {i j : Int} : OpD X (binaryOp .Add) (.int i) (.int j) (.int (i + j)) := .of op_add fun a b H q m _ h1 h2 k => by
  cases h1; cases h2; exact ⟨i, j, rfl, rfl, k _ H (Sub.refl H) (.int _)⟩
theorem od_sub {i j : Int} : OpD X (binaryOp .Sub) (.int i) (.int j) (.int (i - j)) := .of op_sub fun a b H q m _ h1 h2 k => by
  cases h1; cases h2; exact ⟨i, j, rfl, rfl, k _ H (Sub.refl H) (.int _)⟩
theorem od_mul {i j : Int} (hc : CMul i j) : OpD X (binaryOp .Mult) (.int i) (.int j) (.int (i * j)) := .of op_mul fun a b H q m _ h1 h2 k => by
  cases h1; cases h2; exact ⟨i, j, rfl, rfl, hc, k _ H (Sub.refl H) (.int _)⟩
theorem od_fdiv {i j : Int} (hc : CDiv i j) : OpD X (binaryOp .FloorDiv) (.int i) (.int j) (.int (i / j)) := .of op_fdiv fun a b H q m _ h1 h2 k => by
  cases h1; cases h2; exact ⟨i, j, rfl, rfl, hc, k _ H (Sub.refl H) (.int _)⟩
theorem od_mod {i j : Int} (hc : 0 < j) : OpD X (binaryOp .Mod) (.int i) (.int j) (.int (i % j)) := .of op_mod fun a b H q m _ h1 h2 k => by
  cases h1; cases h2; exact ⟨i, j, rfl, rfl, hc, k _ H (Sub.refl H) (.int _)⟩
theorem od_pow {i j : Int} (hc : CPow i j) : OpD X (binaryOp .Pow) (.int i) (.int j) (.int (i ^ j.toNat)) := .of op_pow fun a b H q m _ h1 h2 k => by
  cases h1; cases h2; exact ⟨i, j, rfl, rfl, hc, k _ H (Sub.refl H) (.int _)⟩
theorem od_lt {i j : Int} : OpD X (compareOp .Lt) (.int i) (.int j) (.bl (decide (i < j))) := .of op_lt fun a b H q m _ h1 h2 k => by
  cases h1; cases h2; exact ⟨i, j, rfl, rfl, k _ H (Sub.refl H) (.bl _)⟩
theorem od_le {i j : Int} : OpD X (compareOp .LtE) (.int i) (.int j) (.bl (decide (i ≤ j))) := .of op_le fun a b H q m _ h1 h2 k => by
  cases h1; cases h2; exact ⟨i, j, rfl, rfl, k _ H (Sub.refl H) (.bl _)⟩
theorem od_gt {i j : Int} : OpD X (compareOp .Gt) (.int i) (.int j) (.bl (decide (j < i))) := .of op_gt fun a b H q m _ h1 h2 k => by
  cases h1; cases h2; exact ⟨i, j, rfl, rfl, k _ H (Sub.refl H) (.bl _)⟩
theorem od_ge {i j : Int} : OpD X (compareOp .GtE) (.int i) (.int j) (.bl (decide (j ≤ i))) := .of op_ge fun a b H q m _ h1 h2 k => by
  cases h1; cases h2; exact ⟨i, j, rfl, rfl, k _ H (Sub.refl H) (.bl _)⟩
theorem od_eqI {i j : Int} : OpD X (compareOp .Eq) (.int i) (.int j) (.bl (decide (i = j))) := .of op_eq fun a b H q m _ h1 h2 k => by
  cases h1; cases h2; exact ⟨rfl, by rw [show decide (V.int i = V.int j) = decide (i = j) by simp]; exact k _ H (Sub.refl H) (.bl _)⟩
theorem od_neI {i j : Int} : OpD X (compareOp .NotEq) (.int i) (.int j) (.bl (!decide (i = j))) := .of op_ne fun a b H q m _ h1 h2 k => by
  cases h1; cases h2; exact ⟨rfl, by rw [show decide (V.int i = V.int j) = decide (i = j) by simp]; exact k _ H (Sub.refl H) (.bl _)⟩
theorem od_eqB {i j : Bool} : OpD X (compareOp .Eq) (.bl i) (.bl j) (.bl (decide (i = j))) := .of op_eq fun a b H q m _ h1 h2 k => by
  cases h1; cases h2; exact ⟨rfl, by rw [show decide (V.bl i = V.bl j) = decide (i = j) by simp]; exact k _ H (Sub.refl H) (.bl _)⟩
theorem od_neB {i j : Bool} : OpD X (compareOp .NotEq) (.bl i) (.bl j) (.bl (!decide (i = j))) := .of op_ne fun a b H q m _ h1 h2 k => by
  cases h1; cases h2; exact ⟨rfl, by rw [show decide (V.bl i = V.bl j) = decide (i = j) by simp]; exact k _ H (Sub.refl H) (.bl _)⟩
theorem od_eqS {i j : List Nat} : OpD X (compareOp .Eq) (.str (S i)) (.str (S j)) (.bl (decide (i = j))) := .of op_eq fun a b H q m _ h1 h2 k => by
  cases h1; cases h2; exact ⟨rfl, by rw [show decide (V.str (S i) = V.str (S j)) = decide (i = j) by simp [S_eq]]; exact k _ H (Sub.refl H) (.bl _)⟩
theorem od_neS {i j : List Nat} : OpD X (compareOp .NotEq) (.str (S i)) (.str (S j)) (.bl (!decide (i = j))) := .of op_ne fun a b H q m _ h1 h2 k => by
  cases h1; cases h2; exact ⟨rfl, by rw [show decide (V.str (S i) = V.str (S j)) = decide (i = j) by simp [S_eq]]; exact k _ H (Sub.refl H) (.bl _)⟩
theorem od_ltS {i j : List Nat} : OpD X (compareOp .Lt) (.str (S i)) (.str (S j)) (.bl (decide (i < j))) := .of op_lt_str fun a b H q m _ h1 h2 k => by
  cases h1; cases h2; exact ⟨_, _, rfl, rfl, k _ H (Sub.refl H) (.bl _)⟩
theorem od_leS {i j : List Nat} : OpD X (compareOp .LtE) (.str (S i)) (.str (S j)) (.bl (!decide (j < i))) := .of op_le_str fun a b H q m _ h1 h2 k => by
  cases h1; cases h2; exact ⟨_, _, rfl, rfl, k _ H (Sub.refl H) (.bl _)⟩
theorem od_gtS {i j : List Nat} : OpD X (compareOp .Gt) (.str (S i)) (.str (S j)) (.bl (decide (j < i))) := .of op_gt_str fun a b H q m _ h1 h2 k => by
  cases h1; cases h2; exact ⟨_, _, rfl, rfl, k _ H (Sub.refl H) (.bl _)⟩
/-- one sign in a text -/
theorem od_inS {c : Nat} {j : List Nat} : OpD X (compareOp .In) (.str (S [c])) (.str (S j)) (.bl (decide (c ∈ j))) := .of op_in_sign fun a b H q m _ h1 h2 k => by
  cases h1; cases h2; exact ⟨c, _, rfl, rfl, k _ H (Sub.refl H) (.bl _)⟩
theorem od_notinS {c : Nat} {j : List Nat} : OpD X (compareOp .NotIn) (.str (S [c])) (.str (S j)) (.bl (!decide (c ∈ j))) := .of op_notIn_sign fun a b H q m _ h1 h2 k => by
  cases h1; cases h2; exact ⟨c, _, rfl, rfl, k _ H (Sub.refl H) (.bl _)⟩
theorem od_addS {i j : List Nat} (hz : i.length + j.length ≤ 100000) : OpD X (binaryOp .Add) (.str (S i)) (.str (S j)) (.str (S (i ++ j))) := .of op_add_str fun a b H q m _ h1 h2 k => by
  cases h1; cases h2; exact ⟨_, _, rfl, rfl, by rw [S_len, S_len]; exact Nat.le_trans hz (by decide), by rw [S_app]; exact k _ H (Sub.refl H) (.str _)⟩
def isNon : D → Bool
  | .non => true
  | _ => false
theorem Rp.non_iff {K : PySem.W.Frag} {G : Hp} {v : V} {x : D} (r : Rp K G v x) : decide (v = .non) = isNon x := by
  cases r <;> simp [isNon]
theorem od_isN : OpD X (compareOp .Is) x .non (.bl (isNon x)) := .of op_isN fun a b H q m _ h1 h2 k => by
  cases h2; exact ⟨rfl, by rw [h1.non_iff]; exact k _ H (Sub.refl H) (.bl _)⟩
theorem od_notN : OpD X (compareOp .IsNot) x .non (.bl (!isNon x)) := .of op_notN fun a b H q m _ h1 h2 k => by
  cases h2; exact ⟨rfl, by rw [h1.non_iff]; exact k _ H (Sub.refl H) (.bl _)⟩
mutual
def toPy : D → PyData
  | .bl b => .bool b
  | .int i => .int i
  | .str x => .str x
  | .lst xs => .list (toPyL xs)
  | .tup xs => .tuple (toPyL xs)
  | .tupx xs => .tuple (toPyL xs)
  | _ => .none
def toPyL : List D → List PyData
  | [] => []
  | x :: xs => toPy x :: toPyL xs
end
mutual
def isPy : D → Bool
  | .non => true
  | .bl b => true
  | .int i => true
  | .str x => true
  | .lst xs => isPyL xs
  | .tup xs => isPyL xs
  | .tupx xs => isPyL xs
  | _ => false
def isPyL : List D → Bool
  | [] => true
  | x :: xs => isPy x && isPyL xs
end
mutual
theorem Rp.dp {K : PySem.W.Frag} {G : Hp} : ∀ {v : V} {d : D}, Rp K G v d → isPy d = true → Dp K G v (toPy d)
  | _, _, .non, _ => .non
  | _, _, .bl b, _ => .bl b
  | _, _, .int b, _ => .int b
  | _, _, .str b, _ => .str b
  | _, _, .lst h r, e => .lst h (RpA.dp r (by rw [isPy] at e; exact e))
  | _, _, .tup h r, e => .tup h.sq (RpA.dp r (by rw [isPy] at e; exact e))
  | _, _, .tupx h r, e => .tup h (RpA.dp r (by rw [isPy] at e; exact e))
  | _, _, .ty _, e => by simp [isPy] at e
  | _, _, .ref _, e => by simp [isPy] at e
  | _, _, .dct _ _, e => by simp [isPy] at e
  | _, _, .ins _ _, e => by simp [isPy] at e
  | _, _, .set _, e => by simp [isPy] at e
  | _, _, .dcT _ _, e => by simp [isPy] at e
  | _, _, .dcL _ _, e => by simp [isPy] at e
theorem RpA.dp {K : PySem.W.Frag} {G : Hp} : ∀ {v : List V} {d : List D}, RpA K G v d → isPyL d = true → DpAll K G v (toPyL d)
  | _, _, .nil, _ => .nil
  | _, _, .cons h r, e => .cons (Rp.dp h (Bool.and_eq_true_iff.mp e).1) (RpA.dp r (Bool.and_eq_true_iff.mp e).2)
end
/-- == and != of data without instances -/
theorem od_eqD (hu : X.A.units + 64 < cLine) (hx : isPy x = true) (hy : isPy y = true) (sx : SeqAt.shaped (toPy x) = true) (sy : SeqAt.shaped (toPy y) = true) : OpD X (compareOp .Eq) x y (.bl (PyData.eqv (toPy x) (toPy y))) :=
  .of (op_eqD hu) fun a b H q m hm h1 h2 k => ⟨_, _, (h1.mono (hid_sub m H)).dp hx, (h2.mono (hid_sub m H)).dp hy, sx, sy, k _ H (Sub.refl H) (.bl _)⟩
theorem od_neD (hu : X.A.units + 64 < cLine) (hx : isPy x = true) (hy : isPy y = true) (sx : SeqAt.shaped (toPy x) = true) (sy : SeqAt.shaped (toPy y) = true) : OpD X (compareOp .NotEq) x y (.bl (!PyData.eqv (toPy x) (toPy y))) :=
  .of (op_neD hu) fun a b H q m hm h1 h2 k => ⟨_, _, (h1.mono (hid_sub m H)).dp hx, (h2.mono (hid_sub m H)).dp hy, sx, sy, k _ H (Sub.refl H) (.bl _)⟩
def IxD (X : Cx) (x y d : D) : Prop := IxR X (rP X.K x y d)
def uIx (X : Cx) : R2 := fun a b H q => ∃ r, IxR X r ∧ r a b H q
theorem ix_u : IxR X (uIx X) := fun value slice pins s σ H x y v u Q I rx ry ⟨_, h, q⟩ hs => h value slice pins s σ H x y v u Q I rx ry q hs
theorem xe_ix (h : XE X μ a Γ fun x Γ1 => XE X μ b Γ1 fun y Γ2 => ∃ d, IxD X x y d ∧ Q d Γ2) (hs : PlainIx b := by exact fun _ _ => rfl) : XE X μ (.Subscript a b pos) Γ Q :=
  PE.imp (pe_ix ix_u h pe_u hs) fun σ H q ⟨R, k⟩ => by
    refine ⟨R, fun v H1 x Γ1 s1 f1 R1 r1 hb => ⟨_, hb, R1, fun w H2 y Γ2 s2 f2 R2 r2 ⟨d, ho, hq⟩ => ⟨_, ho, tot μ.m Γ2.c, R2.domT, r1.mono f2.sub, r2, fun z H3 e3 r3 => ?_⟩⟩⟩
    exact k z H3 d Γ2 (s2.trans s1) ((f1.trans f2).trans (Fw.of_sub e3)) (R2.more e3) r3 hq
theorem atI_rp {K : PySem.W.Frag} {G : Hp} {vs : List V} {ds : List D} {i : Int} {d : D} (r : RpA K G vs ds) (h : atI ds i = some d) : ∃ v, atI vs i = some v ∧ Rp K G v d := by
  unfold atI at h ⊢
  rw [r.length]
  cases e : ixN ds.length i with
  | none => rw [e] at h; cases h
  | some j =>
    rw [e] at h
    obtain ⟨v, h1, h2⟩ := r.got (show ds[j]? = some d from h)
    exact ⟨v, h1, h2⟩
theorem ixd_lst {xs : List D} {i : Int} (h : atI xs i = some d) : IxD X (.lst xs) (.int i) d := fun value slice pins s σ H x y v u Q I rx ry ⟨m, hm, h1, h2, k⟩ hs => by
  cases h1 with
  | lst s1 r1 =>
    cases h2
    obtain ⟨z, hz, rz⟩ := atI_rp r1 h
    exact ix_list value slice pins s σ H _ _ v u Q I rx ry ⟨_, _, _, z, rfl, rfl, (hid_sub m H).sqL s1, hz, k z H (Sub.refl H) rz⟩ hs
theorem ixd_tup {xs : List D} {i : Int} (h : atI xs i = some d) : IxD X (.tup xs) (.int i) d := fun value slice pins s σ H x y v u Q I rx ry ⟨m, hm, h1, h2, k⟩ hs => by
  cases h1 with
  | tup s1 r1 =>
    cases h2
    obtain ⟨z, hz, rz⟩ := atI_rp r1 h
    exact ix_tup value slice pins s σ H _ _ v u Q I rx ry ⟨_, _, _, z, rfl, rfl, (hid_sub m H).sqT s1.sq, hz, k z H (Sub.refl H) rz⟩ hs
theorem ixd_str {l : List Nat} {i : Int} {c : Nat} (hl : l.length ≤ 100000) (h : atI l i = some c) : IxD X (.str (S l)) (.int i) (.str (S [c])) := fun value slice pins s σ H x y v u Q I rx ry ⟨m, hm, h1, h2, k⟩ hs => by
  cases h1; cases h2
  exact ix_str value slice pins s σ H _ _ v u Q I rx ry ⟨_, _, c, rfl, rfl, by rw [S_len]; exact Nat.le_trans hl (by decide), h, k _ H (Sub.refl H) (.str _)⟩ hs
def rCD (K : PySem.W.Frag) (ds : List D) (d : D) : List V → Hp → VK → Prop := fun vs H q => ∃ m : Addr → Bool, (∀ a, m a = true → ∃ o, H a = some o ∧ nT o = true) ∧ RpA K (hid m H) vs ds ∧ ∀ v H', Sub H H' → Rp K (hid m H') v d → q v H'
def CallD (X : Cx) (f : Value) (ds : List D) (d : D) : Prop := CallR X f (rCD X.K ds d)
def uC (X : Cx) (f : Value) : List V → Hp → VK → Prop := fun vs H q => ∃ r, CallR X f r ∧ r vs H q
theorem cr_u (f : Value) : CallR X f (uC X f) := fun pins s σ H xs us Q I rv ⟨_, h, q⟩ => h pins s σ H xs us Q I rv q
theorem CallD.of {f : Value} {ds : List D} {r : List V → Hp → VK → Prop} (h : CallR X f r) (i : ∀ vs H q m, (∀ a, m a = true → ∃ o, H a = some o ∧ nT o = true) → RpA X.K (hid m H) vs ds → (∀ v H', Sub H H' → Rp X.K (hid m H') v d → q v H') → r vs H q) : CallD X f ds d :=
  fun pins s σ H vs us Q I rv ⟨m, hm, h1, k⟩ => h pins s σ H vs us Q I rv (i vs H Q m hm h1 k)
theorem xe_callB {x : Str} {id : String} {p : Pos} (hg : Gl X x) (hm : X.mg x = none) (hv : bootBuiltins x = some (.builtin id)) (h : XA X μ (e :: es) Γ fun ds Γ1 => ∃ d, CallD X (.builtin id) ds d ∧ Q d Γ1) (hn : x ≠ "__name__" := by decide) (hdb : (x == ("__debug__" : Str)) = false := by decide)
    (he : starEach (e :: es) X.env = (false, eval e X.env) :: starEach es X.env := by rfl) (hpl : (backTo pos (starEach es X.env)).any (·.1) = false := by rfl) : XE X μ (.Call (.Name x p) (e :: es) [] pos) Γ Q :=
  PE.imp (pe_callB (cr_u _) hg hm hv h hn hdb he hpl) fun σ H q ⟨R, k⟩ => ⟨R, fun vs H1 ds Γ1 s1 f1 R1 r1 ⟨d, ho, hq⟩ => ⟨_, ho, tot μ.m Γ1.c, R1.domT, r1, fun z H3 e3 r3 => k z H3 d Γ1 s1 (f1.trans (Fw.of_sub e3)) (R1.more e3) r3 hq⟩⟩
theorem xe_callTy {x : Str} {T : String} {p : Pos} (hg : Gl X x) (hm : X.mg x = none) (hv : bootBuiltins x = some (.type T)) (h : XA X μ (e :: es) Γ fun ds Γ1 => ∃ d, CallD X (.type T) ds d ∧ Q d Γ1) (hn : x ≠ "__name__" := by decide) (hdb : (x == ("__debug__" : Str)) = false := by decide)
    (he : starEach (e :: es) X.env = (false, eval e X.env) :: starEach es X.env := by rfl) (hpl : (backTo pos (starEach es X.env)).any (·.1) = false := by rfl) : XE X μ (.Call (.Name x p) (e :: es) [] pos) Γ Q :=
  PE.imp (pe_callTy (cr_u _) hg hm hv h hn hdb he hpl) fun σ H q ⟨R, k⟩ => ⟨R, fun vs H1 ds Γ1 s1 f1 R1 r1 ⟨d, ho, hq⟩ => ⟨_, ho, tot μ.m Γ1.c, R1.domT, r1, fun z H3 e3 r3 => k z H3 d Γ1 s1 (f1.trans (Fw.of_sub e3)) (R1.more e3) r3 hq⟩⟩
/-- one argument -/
theorem RpA.one {K : PySem.W.Frag} {G : Hp} {vs : List V} {d : D} (r : RpA K G vs [d]) : ∃ v, vs = [v] ∧ Rp K G v d := by
  cases r with
  | cons h t =>
    cases t
    exact ⟨_, rfl, h⟩
theorem RpA.two {K : PySem.W.Frag} {G : Hp} {vs : List V} {d e : D} (r : RpA K G vs [d, e]) : ∃ v u, vs = [v, u] ∧ Rp K G v d ∧ Rp K G u e := by
  cases r with
  | cons h t =>
    obtain ⟨u, rfl, h2⟩ := t.one
    exact ⟨_, _, rfl, h, h2⟩
theorem cd_len_str {l : List Nat} (hl : l.length ≤ 100000) : CallD X (.builtin "len") [.str (S l)] (.int l.length) := .of call_len_str fun vs H q m hm h1 k => by
  obtain ⟨v, rfl, r⟩ := h1.one
  cases r
  exact ⟨_, rfl, by rw [S_len]; exact Nat.le_trans hl (by decide), by rw [S_len]; exact k _ H (Sub.refl H) (.int _)⟩
theorem cd_len_lst {xs : List D} : CallD X (.builtin "len") [.lst xs] (.int xs.length) := .of call_len_seq fun vs H q m hm h1 k => by
  obtain ⟨v, rfl, r⟩ := h1.one
  cases r with
  | lst s1 r1 => exact ⟨_, _, rfl, .inl ((hid_sub m H).sqL s1), by rw [r1.length]; exact k _ H (Sub.refl H) (.int _)⟩
theorem cd_len_tup {xs : List D} : CallD X (.builtin "len") [.tup xs] (.int xs.length) := .of call_len_seq fun vs H q m hm h1 k => by
  obtain ⟨v, rfl, r⟩ := h1.one
  cases r with
  | tup s1 r1 => exact ⟨_, _, rfl, .inr ((hid_sub m H).sqT s1.sq), by rw [r1.length]; exact k _ H (Sub.refl H) (.int _)⟩
theorem cd_abs {i : Int} : CallD X (.builtin "abs") [.int i] (.int (if i < 0 then -i else i)) := .of call_abs fun vs H q m hm h1 k => by
  obtain ⟨v, rfl, r⟩ := h1.one
  cases r
  exact ⟨_, rfl, k _ H (Sub.refl H) (.int _)⟩
theorem cd_int {i : Int} : CallD X (.type "int") [.int i] (.int i) := .of call_int1 fun vs H q m hm h1 k => by
  obtain ⟨v, rfl, r⟩ := h1.one
  cases r
  exact .inl ⟨_, rfl, k _ H (Sub.refl H) (.int _)⟩
theorem cd_intB {i : Bool} : CallD X (.type "int") [.bl i] (.int (if i then 1 else 0)) := .of call_int1 fun vs H q m hm h1 k => by
  obtain ⟨v, rfl, r⟩ := h1.one
  cases r
  exact .inr ⟨_, rfl, k _ H (Sub.refl H) (.int _)⟩
theorem cd_max2 (hc : X.calm = true) {i j : Int} : CallD X (.builtin "max") [.int i, .int j] (.int (if j > i then j else i)) := .of (call_max2 hc) fun vs H q m hm h1 k => by
  obtain ⟨v, u, rfl, r, r'⟩ := h1.two
  cases r; cases r'
  exact ⟨_, _, rfl, k _ H (Sub.refl H) (.int _)⟩
theorem cd_min2 (hc : X.calm = true) {i j : Int} : CallD X (.builtin "min") [.int i, .int j] (.int (if j < i then j else i)) := .of (call_min2 hc) fun vs H q m hm h1 k => by
  obtain ⟨v, u, rfl, r, r'⟩ := h1.two
  cases r; cases r'
  exact ⟨_, _, rfl, k _ H (Sub.refl H) (.int _)⟩
/-- list(x), tuple(x) -/
theorem cd_list_lst {xs : List D} : CallD X (.type "list") [.lst xs] (.lst xs) := .of call_list_of fun vs H q m hm h1 k => by
  obtain ⟨v, rfl, r⟩ := h1.one
  cases r with
  | lst s1 r1 => exact ⟨_, _, rfl, .inl ((hid_sub m H).sqL s1), fun l hl => k _ _ (sub_upd hl) (.lst (.of (hid_upd (fresh_m hm hl))) (r1.mono (sub_hid (sub_upd hl))))⟩
theorem cd_list_tup {xs : List D} : CallD X (.type "list") [.tup xs] (.lst xs) := .of call_list_of fun vs H q m hm h1 k => by
  obtain ⟨v, rfl, r⟩ := h1.one
  cases r with
  | tup s1 r1 => exact ⟨_, _, rfl, .inr ((hid_sub m H).sqT s1.sq), fun l hl => k _ _ (sub_upd hl) (.lst (.of (hid_upd (fresh_m hm hl))) (r1.mono (sub_hid (sub_upd hl))))⟩
theorem cd_tuple_lst {xs : List D} : CallD X (.type "tuple") [.lst xs] (.tup xs) := .of call_tuple_of fun vs H q m hm h1 k => by
  obtain ⟨v, rfl, r⟩ := h1.one
  cases r with
  | lst s1 r1 => exact ⟨_, _, rfl, .inl ⟨(hid_sub m H).sqL s1, fun l hl => k _ _ (sub_upd hl) (.tup (.of (hid_upd (fresh_m hm hl))) (r1.mono (sub_hid (sub_upd hl))))⟩⟩
theorem cd_tuple_tup {xs : List D} : CallD X (.type "tuple") [.tup xs] (.tup xs) := .of call_tuple_of fun vs H q m hm h1 k => by
  obtain ⟨v, rfl, r⟩ := h1.one
  cases r with
  | tup s1 r1 => exact ⟨_, _, rfl, .inr ⟨(hid_sub m H).sqT s1.sq, k _ H (Sub.refl H) (.tup s1 r1)⟩⟩
theorem RpA.of_bls {K : PySem.W.Frag} {G : Hp} : ∀ {zs : List Bool} {vs : List V}, RpA K G vs (zs.map D.bl) → vs = zs.map V.bl
  | [], _, .nil => rfl
  | _ :: _, _, .cons h t => by
    cases h
    rw [RpA.of_bls t]
    all_goals rfl
theorem cd_any (hc : X.calm = true) {bs : List Bool} : CallD X (.builtin "any") [.lst (bs.map D.bl)] (.bl (bs.any id)) := .of (cr_any hc) fun vs H q m hm h1 k => by
  obtain ⟨v, rfl, r⟩ := h1.one
  cases r with
  | lst s1 r1 =>
    rw [r1.of_bls] at s1
    exact ⟨_, _, rfl, (hid_sub m H).sqL s1, k _ H (Sub.refl H) (.bl _)⟩
theorem cd_all (hc : X.calm = true) {bs : List Bool} : CallD X (.builtin "all") [.lst (bs.map D.bl)] (.bl (bs.all id)) := .of (cr_all hc) fun vs H q m hm h1 k => by
  obtain ⟨v, rfl, r⟩ := h1.one
  cases r with
  | lst s1 r1 =>
    rw [r1.of_bls] at s1
    exact ⟨_, _, rfl, (hid_sub m H).sqL s1, k _ H (Sub.refl H) (.bl _)⟩
end
end Pdl
namespace Pdl
open PySem L2 PyProof.Rows
section
variable {X : Cx} {μ : Md} {Γ : En} {Q : QE} {a b c e o : Expr} {es : List Expr} {pos apos cpos : Pos} {x y d : D} {m : Addr → Bool} {H : Hp} {P : Po}
def rMD (K : PySem.W.Frag) (x : D) (ds : List D) (d : D) : V → List V → Hp → VK → Prop := fun v vs H q => ∃ m : Addr → Bool, (∀ a, m a = true → ∃ o, H a = some o ∧ nT o = true) ∧ Rp K (hid m H) v x ∧ RpA K (hid m H) vs ds ∧ ∀ v H', Sub H H' → Rp K (hid m H') v d → q v H'
def MtD (X : Cx) (id : String) (x : D) (ds : List D) (d : D) : Prop := MtR X id (rMD X.K x ds d)
def uM (X : Cx) (id : String) : V → List V → Hp → VK → Prop := fun v vs H q => ∃ r, MtR X id r ∧ r v vs H q
theorem mt_u (id : String) : MtR X id (uM X id) := fun pins s σ H x xs v us Q I rx rv ⟨_, h, q⟩ => h pins s σ H x xs v us Q I rx rv q
theorem MtD.of {id : String} {ds : List D} {r : V → List V → Hp → VK → Prop} (h : MtR X id r) (i : ∀ v vs H q m, (∀ a, m a = true → ∃ o, H a = some o ∧ nT o = true) → Rp X.K (hid m H) v x → RpA X.K (hid m H) vs ds → (∀ v H', Sub H H' → Rp X.K (hid m H') v d → q v H') → r v vs H q) : MtD X id x ds d :=
  fun pins s σ H v vs u us Q I rx rv ⟨m, hm, h1, h2, k⟩ => h pins s σ H v vs u us Q I rx rv (i v vs H Q m hm h1 h2 k)
/-- a text's method with arguments -/
theorem xe_ms {name : Str} {id : String} (slot : Slot "str" name id) (hty : typeOf (.builtin id) = pure (.type "method_descriptor")) (h : XE X μ o Γ fun x Γ1 => ∃ z, x = .str z ∧ XA X μ (e :: es) Γ1 fun ds Γ2 => ∃ d, MtD X id (.str z) ds d ∧ Q d Γ2)
    (hbase : attributeBase o name X.env (eval o X.env) = eval o X.env := by rfl)
    (hfew : ((backTo cpos (starEach (e :: es) X.env)).all (fun x => !x.1) && (backToKw cpos (keywordEach [] X.env)).all (fun x => x.1.isSome) && decide ((e :: es).length + ([] : List Keyword).length + (if ([] : List Keyword).isEmpty then 0 else 1) < 30)) = true := by rfl)
    (hline : (apos.endLine == cpos.line) = true := by rfl) (hs : starEach (e :: es) X.env = (false, eval e X.env) :: starEach es X.env := by rfl) (hplain : (backTo cpos (starEach es X.env)).any (·.1) = false := by rfl) :
    XE X μ (.Call (.Attribute o name apos) (e :: es) [] cpos) Γ Q :=
  PE.imp (pe_bm PySem.F.plainAttrs_str slot hty (mt_u id) h pa_u hbase hfew hline hs hplain) fun σ H q ⟨R, k⟩ => ⟨R, fun v H1 x Γ1 s1 f1 R1 r1 ⟨z, hz, hq⟩ => by
    subst hz
    cases r1
    exact ⟨rfl, _, hq, R1, fun vs H2 ds Γ2 s2 f2 R2 r2 ⟨d, ho, hq⟩ => ⟨_, ho, tot μ.m Γ2.c, R2.domT, .str z, r2, fun w H3 e3 r3 => k w H3 d Γ2 (s2.trans s1) ((f1.trans f2).trans (Fw.of_sub e3)) (R2.more e3) r3 hq⟩⟩⟩
/-- sep.join(texts) -/
def SL (ls : List (List Nat)) : List D := ls.map fun l => .str (S l)
theorem SL_strs (ls : List (List Nat)) : SL ls = (ls.map S).map D.str := by simp [SL]
theorem SL_len (ls : List (List Nat)) : (SL ls).length = ls.length := by simp [SL]
theorem join_S (sep : List Nat) (ls : List (List Nat)) : Txt.join (S sep) (ls.map S) = S (TL.joinL sep ls) := by
  refine TL.ext_tl ?_
  rw [TL.join_eq, TL.tl_join, List.map_map]
  show TL.joinL sep (ls.map id) = TL.joinL sep ls
  rw [List.map_id]
theorem lens_S (ls : List (List Nat)) : ((ls.map S).map (·.length)).sum = (ls.map List.length).sum := by
  rw [List.map_map]
  exact congrArg List.sum (List.map_congr_left fun l _ => S_len l)
theorem md_join_lst {sep : List Nat} {ls : List (List Nat)} (hz : (ls.map List.length).sum + ls.length * sep.length ≤ 100000) : MtD X "str.join" (.str (S sep)) [.lst (SL ls)] (.str (S (TL.joinL sep ls))) := .of mt_join fun v vs H q m hm h1 h2 k => by
  obtain ⟨u, rfl, r⟩ := h2.one
  cases h1
  cases r with
  | lst s1 r1 =>
    rw [SL_strs] at r1
    rw [r1.of_strs] at s1
    exact ⟨_, _, ls.map S, rfl, rfl, .inl ((hid_sub m H).sqL s1), by rw [lens_S, List.length_map, S_len]; exact Nat.le_trans hz (by decide), by rw [join_S]; exact k _ H (Sub.refl H) (.str _)⟩
theorem md_join_tup {sep : List Nat} {ls : List (List Nat)} (hz : (ls.map List.length).sum + ls.length * sep.length ≤ 100000) : MtD X "str.join" (.str (S sep)) [.tup (SL ls)] (.str (S (TL.joinL sep ls))) := .of mt_join fun v vs H q m hm h1 h2 k => by
  obtain ⟨u, rfl, r⟩ := h2.one
  cases h1
  cases r with
  | tup s1 r1 =>
    rw [SL_strs] at r1
    rw [r1.of_strs] at s1
    exact ⟨_, _, ls.map S, rfl, rfl, .inr ((hid_sub m H).sqT s1.sq), by rw [lens_S, List.length_map, S_len]; exact Nat.le_trans hz (by decide), by rw [join_S]; exact k _ H (Sub.refl H) (.str _)⟩
theorem cell_get {K : PySem.W.Frag} {m : Addr → Bool} {H : Hp} {c1 c2 : Cs} {p : Addr} {cl : Cell} (co : COk K m H (c1 ++ (p, cl) :: c2)) : CellRp K (hid (tot m (c1 ++ (p, cl) :: c2)) H) (H p) cl := co.cells (p, cl) (List.mem_append_right _ List.mem_cons_self)
theorem inC_swap {c1 c2 : Cs} {p : Addr} {cl cl' : Cell} {a : Addr} : inC (c1 ++ (p, cl) :: c2) a = inC (c1 ++ (p, cl') :: c2) a := by
  simp [inC]
theorem tot_swap {m : Addr → Bool} {c1 c2 : Cs} {p : Addr} {cl cl' : Cell} : tot m (c1 ++ (p, cl) :: c2) = tot m (c1 ++ (p, cl') :: c2) := by
  funext a
  unfold tot
  rw [inC_swap (cl' := cl')]
/-- a cell is changed -/
theorem Rel.put {K : PySem.W.Frag} {σ : L2.St} {s : List (Option D)} {c1 c2 : Cs} {p : Addr} {cl cl' : Cell} {o : HO} (R : Rel K μ H σ ⟨s, c1 ++ (p, cl) :: c2⟩)
    (h : CellRp K (hid (tot μ.m (c1 ++ (p, cl) :: c2)) H) (some o) cl') : Rel K μ (upd H p o) σ ⟨s, c1 ++ (p, cl') :: c2⟩ ∧ Fw (c1 ++ (p, cl) :: c2) (c1 ++ (p, cl') :: c2) H (upd H p o) := by
  have hp : inC (c1 ++ (p, cl) :: c2) p = true := inC_of (p := (p, cl)) (List.mem_append_right _ List.mem_cons_self)
  have f : Fw (c1 ++ (p, cl) :: c2) (c1 ++ (p, cl') :: c2) H (upd H p o) := fun a u h e => by
    have hne : a ≠ p := fun z => by rw [z, hp] at h; cases h
    exact ⟨by rw [upd_ne hne]; exact e, by rw [inC_swap (cl' := cl)]; exact h⟩
  have nd := R.co.nd
  have km : (c1 ++ (p, cl') :: c2).map (·.1) = (c1 ++ (p, cl) :: c2).map (·.1) := by simp
  refine ⟨⟨⟨fun a hma => ?_, by show ((c1 ++ (p, cl') :: c2).map (·.1)).Nodup; rw [km]; exact nd, fun q hq => ?_, fun q hq => ?_⟩, R.slots.mono f.sub, R.fw.trans f⟩, f⟩
  · by_cases e : a = p
    · subst e
      have z : μ.m a = false := R.co.off (a, cl) (List.mem_append_right _ List.mem_cons_self)
      rw [z] at hma
      cases hma
    · obtain ⟨u, hu, z⟩ := R.co.dom a hma
      exact ⟨u, by rw [upd_ne e]; exact hu, z⟩
  · have : q.1 ∈ (c1 ++ (p, cl) :: c2).map (·.1) := by rw [← km]; exact List.mem_map_of_mem hq
    obtain ⟨r, hr, er⟩ := List.mem_map.mp this
    rw [← er]
    exact R.co.off r hr
  · rcases List.mem_append.mp hq with h1 | h1
    · have z := R.co.cells q (List.mem_append_left _ h1)
      have hne : q.1 ≠ p := fun e => by
        rw [List.map_append, List.nodup_append] at nd
        exact nd.2.2 q.1 (List.mem_map_of_mem h1) p (by simp) e
      show CellRp K _ (upd H p o q.1) q.2
      rw [upd_ne hne]
      exact z.mono f.sub
    · rcases List.mem_cons.mp h1 with h1 | h1
      · subst h1
        show CellRp K _ (upd H p o p) cl'
        rw [upd_same]
        exact h.mono f.sub
      · have z := R.co.cells q (List.mem_append_right _ (List.mem_cons_of_mem _ h1))
        have hne : q.1 ≠ p := fun e => by
          rw [List.map_append, List.map_cons, List.nodup_append, List.nodup_cons] at nd
          refine nd.2.1.1 ?_
          show p ∈ c2.map (·.1)
          rw [← e]
          exact List.mem_map_of_mem h1
        show CellRp K _ (upd H p o q.1) q.2
        rw [upd_ne hne]
        exact z.mono f.sub
/-- a new object becomes a cell, the last one -/
theorem Rel.newC {K : PySem.W.Frag} {σ : L2.St} {s : List (Option D)} {cs : Cs} {p : Addr} {cl : Cell} {o : HO} (R : Rel K μ H σ ⟨s, cs⟩) (hp : H p = none)
    (h : CellRp K (hid (tot μ.m cs) H) (some o) cl) : Rel K μ (upd H p o) σ ⟨s, cs ++ [(p, cl)]⟩ ∧ Fw cs (cs ++ [(p, cl)]) H (upd H p o) := by
  have fr := R.fresh hp
  have f : Fw cs (cs ++ [(p, cl)]) H (upd H p o) := fun a u h e => by
    have hne := ne_of_none e hp
    refine ⟨by rw [upd_ne hne]; exact e, ?_⟩
    rw [inC_app, h]
    simp [inC, Ne.symm hne]
  obtain ⟨fm, fc⟩ := tot_false.mp fr
  refine ⟨⟨⟨fun a h => ?_, ?_, fun q hq => ?_, fun q hq => ?_⟩, R.slots.mono f.sub, R.fw.trans f⟩, f⟩
  · obtain ⟨u, hu, z⟩ := R.co.dom a h
    exact ⟨u, sub_upd hp _ _ hu, z⟩
  · show ((cs ++ [(p, cl)]).map (·.1)).Nodup
    rw [List.map_append, List.nodup_append]
    refine ⟨R.co.nd, by simp, fun a ha b hb e => ?_⟩
    have hb : b = p := by simpa using hb
    subst hb; subst e
    obtain ⟨q, hq, rfl⟩ := List.mem_map.mp ha
    rw [inC_of hq] at fc
    cases fc
  · rcases List.mem_append.mp hq with h1 | h1
    · exact R.co.off q h1
    · have e : q = (p, cl) := by simpa using h1
      subst e
      exact fm
  · rcases List.mem_append.mp hq with h1 | h1
    · have z := R.co.cells q h1
      obtain ⟨u, hu⟩ := z.some
      show CellRp K _ (upd H p o q.1) q.2
      rw [upd_ne (ne_of_none hu hp)]
      exact z.mono f.sub
    · have e : q = (p, cl) := by simpa using h1
      subst e
      show CellRp K _ (upd H p o p) cl
      rw [upd_same]
      exact h.mono f.sub
/-- x.append(e), x a cell -/
theorem xe_append {i : Nat} {xn : Str} {p : Addr} {np : Pos} (hN : X.N[i]? = some xn) (hv : Vis X.env.scope xn) (hx : Γ.s[i]? = some (some (.ref p)))
    (h : XE X μ e Γ fun d Γ1 => ∃ c1 xs c2, Γ1.c = c1 ++ (p, .lst xs) :: c2 ∧ xs.length < 100000 ∧ Q .non ⟨Γ1.s, c1 ++ (p, .lst (xs ++ [d])) :: c2⟩)
    (hc : ∃ c1 xs c2, Γ.c = c1 ++ (p, .lst xs) :: c2)
    (h1 : (xn == ("__debug__" : Str)) = false := by decide) (h2 : (xn == ("__classdict__" : Str)) = false := by decide)
    (hbase : attributeBase (.Name xn np) "append" X.env (eval (.Name xn np) X.env) = eval (.Name xn np) X.env := by rfl)
    (hfew : ((backTo cpos (starEach [e] X.env)).all (fun x => !x.1) && (backToKw cpos (keywordEach [] X.env)).all (fun x => x.1.isSome) && decide ([e].length + ([] : List Keyword).length + (if ([] : List Keyword).isEmpty then 0 else 1) < 30)) = true := by rfl)
    (hline : (apos.endLine == cpos.line) = true := by rfl) (hs : starEach [e] X.env = (false, eval e X.env) :: starEach [] X.env := by rfl) :
    XE X μ (.Call (.Attribute (.Name xn np) "append" apos) [e] [] cpos) Γ Q := by
  have hv' : XE X μ (.Name xn np) Γ fun x Γ1 => x = .ref p ∧ Γ1 = Γ := xe_var hN hv hx ⟨rfl, rfl⟩ h1 h2
  refine PE.imp (pe_bm PySem.F.plainAttrs_list PySem.F.slot_list_append PySem.F.type_list_append mt_append hv' (pa_cons h pa_nil hs) hbase hfew hline hs) fun σ H q ⟨R, k⟩ => ?_
  refine ⟨R, fun v H1 x Γ1 s1 f1 R1 r1 ⟨hx, hG⟩ => ?_⟩
  subst hx; subst hG
  cases r1
  obtain ⟨c1, xs, c2, ec⟩ := hc
  obtain ⟨sl, cc⟩ := Γ1
  have ec : cc = c1 ++ (p, .lst xs) :: c2 := ec
  subst ec
  obtain ⟨vs, hvs, _⟩ := cell_get R1.co
  refine ⟨.inl ⟨rfl, vs, .of hvs⟩, R1, fun w H2 d Γ2 s2 f2 R2 r2 ⟨c1', xs', c2', ec', hl, hq⟩ => ?_⟩
  obtain ⟨sl2, cc2⟩ := Γ2
  have ec' : cc2 = c1' ++ (p, .lst xs') :: c2' := ec'
  subst ec'
  obtain ⟨us, hus, ru⟩ := cell_get R2.co
  obtain ⟨R3, f3⟩ := R2.put (cl' := .lst (xs' ++ [d])) (o := .lst (us ++ [w])) ⟨_, rfl, ru.app (.cons r2 .nil)⟩
  exact ⟨p, us, w, rfl, rfl, hus, by rw [ru.length]; exact Nat.lt_of_lt_of_le hl (by decide), k _ _ .non ⟨sl2, c1' ++ (p, .lst (xs' ++ [d])) :: c2'⟩ (s2.trans s1) ((f1.trans f2).trans f3) R3 .non hq⟩
end
end Pdl
namespace Pdl
open PySem L2 PyProof.Rows
def Wk (K : PySem.W.Frag) (G : Hp) (J : It) (ds : List D) : Prop := ∀ (i : Nat) (H : Hp) (M : Addr → Bool), Sub G (hid M H) → (∀ a, M a = true → ∃ o, H a = some o ∧ nT o = true) →
  (∀ d, ds[i]? = some d → J.go i H ∧ ∀ x H', J.yld i H x H' → Sub H H' ∧ Rp K (hid M H') x d) ∧ (ds.length ≤ i → J.stop i H)
def tID (K : PySem.W.Frag) (μ : Md) (Γ : En) (Q : List D → En → Prop) : TI := fun σ H R => Rel K μ H σ Γ ∧ ∀ J H' ds Γ', Γ'.s = Γ.s → Fw Γ.c Γ'.c H H' → Rel K μ H' σ Γ' → Wk K (Vw μ Γ' H') J ds → Q ds Γ' → R J H'
def XI (X : Cx) (μ : Md) (tg it : Expr) (Γ : En) (Q : List D → En → Prop) : Prop := PI X tg it (tID X.K μ Γ Q)
def tGD (K : PySem.W.Frag) (μ : Md) (d : D) (Γ : En) (Q : En → Prop) : TG := fun v σ H q => Rel K μ H σ Γ ∧ Rp K (Vw μ Γ H) v d ∧ ∀ σ' H' Γ', Fw Γ.c Γ'.c H H' → Rel K μ H' σ' Γ' → Q Γ' → q σ' H'
def tGsD (K : PySem.W.Frag) (μ : Md) (ds : List D) (Γ : En) (Q : En → Prop) : TGs := fun vs σ H q => Rel K μ H σ Γ ∧ RpA K (Vw μ Γ H) vs ds ∧ ∀ σ' H' Γ', Fw Γ.c Γ'.c H H' → Rel K μ H' σ' Γ' → Q Γ' → q σ' H'
def XG (X : Cx) (μ : Md) (tg : Expr) (d : D) (Γ : En) (Q : En → Prop) : Prop := PG X tg (tGD X.K μ d Γ Q)
def XGs (X : Cx) (μ : Md) (tg : List Expr) (ds : List D) (Γ : En) (Q : En → Prop) : Prop := PGs X tg (tGsD X.K μ ds Γ Q)
section
variable {X : Cx} {μ : Md} {Γ : En} {Q : List D → En → Prop} {a b c e o it tg : Expr} {es : List Expr} {pos apos cpos : Pos} {x y d : D} {m : Addr → Bool} {H : Hp} {P : Po}
/-- what a list, a tuple, a text yields -/
def Items : D → List D → Prop
  | .lst xs, ds => ds = xs
  | .tup xs, ds => ds = xs
  | .tupx xs, ds => ds = xs
  | .str z, ds => ds = z.cps.toList.map fun c => .str (S [c])
  | _, _ => False
theorem wk_lst {K : PySem.W.Frag} {cs : Cs} {a : Addr} {vs : List V} {ds : List D} (s1 : SqL K (hid (tot m cs) H) a vs) (r : RpA K (hid (tot m cs) H) vs ds) : Wk K (hid (tot m cs) H) (Itl K a) ds := fun i H1 M sb _ => by
  have s2 : SqL K H1 a vs := (hid_sub _ _).sqL (sb.sqL s1)
  refine ⟨fun d hd => ?_, fun hl => ⟨vs, s2, by rw [r.length]; exact hl⟩⟩
  obtain ⟨v, hv, rv⟩ := r.got hd
  refine ⟨⟨vs, v, s2, hv⟩, fun x H' ⟨e, hx⟩ => ?_⟩
  subst e
  have e : x = v := by
    have := hx vs s2
    rw [hv] at this
    exact (Option.some.inj this).symm
  subst e
  exact ⟨Sub.refl _, rv.mono sb⟩
theorem wk_tup {K : PySem.W.Frag} {cs : Cs} {a : Addr} {vs : List V} {ds : List D} (s1 : SqT K (hid (tot m cs) H) a vs) (r : RpA K (hid (tot m cs) H) vs ds) : Wk K (hid (tot m cs) H) (Itt K a) ds := fun i H1 M sb _ => by
  have s2 : SqT K H1 a vs := (hid_sub _ _).sqT (sb.sqT s1)
  refine ⟨fun d hd => ?_, fun hl => ⟨vs, s2, by rw [r.length]; exact hl⟩⟩
  obtain ⟨v, hv, rv⟩ := r.got hd
  refine ⟨⟨vs, v, s2, hv⟩, fun x H' ⟨e, hx⟩ => ?_⟩
  subst e
  have e : x = v := by
    have := hx vs s2
    rw [hv] at this
    exact (Option.some.inj this).symm
  subst e
  exact ⟨Sub.refl _, rv.mono sb⟩
theorem wk_str {K : PySem.W.Frag} {G : Hp} {z : Str} : Wk K G (Its z) (z.cps.toList.map fun c => .str (S [c])) := fun i H1 M f _ => by
  refine ⟨fun d hd => ?_, fun hl => (show z.cps.size ≤ i by simpa using hl)⟩
  rw [List.getElem?_map] at hd
  obtain ⟨cd, hc, e⟩ := Option.map_eq_some_iff.mp hd
  subst e
  have hi : i < z.cps.size := by
    have := (List.getElem?_eq_some_iff.mp hc).1
    simpa using this
  refine ⟨hi, fun x H' ⟨e, c2, hc2, ex⟩ => ?_⟩
  subst e; subst ex
  have e : c2 = cd := by
    rw [Array.getElem?_toList] at hc
    rw [hc] at hc2
    exact (Option.some.inj hc2).symm
  subst e
  exact ⟨Sub.refl _, .str _⟩
theorem xi_lst (h : XE X μ e Γ fun d Γ1 => ∃ ds, d = .lst ds ∧ Q ds Γ1) : XI X μ tg e Γ Q :=
  PI.imp (pi_list h) fun σ H R ⟨Rl, k⟩ => ⟨Rl, fun v H1 d Γ1 s1 f1 R1 r1 ⟨ds, hd, hq⟩ => by
    subst hd
    cases r1 with
    | lst q1 q2 => exact ⟨_, rfl, ⟨_, (hid_sub _ _).sqL q1⟩, k _ H1 ds Γ1 s1 f1 R1 (wk_lst q1 q2) hq⟩⟩
theorem xi_str (h : XE X μ e Γ fun d Γ1 => ∃ l, d = .str (S l) ∧ Q (l.map fun c => .str (S [c])) Γ1) : XI X μ tg e Γ Q :=
  PI.imp (pi_str h) fun σ H R ⟨Rl, k⟩ => ⟨Rl, fun v H1 d Γ1 s1 f1 R1 r1 ⟨l, hd, hq⟩ => by
    subst hd
    cases r1
    exact ⟨_, rfl, k _ H1 _ Γ1 s1 f1 R1 wk_str hq⟩⟩
/-- one of the three, told by the value -/
theorem xi_any (h : XE X μ e Γ fun d Γ1 => ∃ ds, Items d ds ∧ Q ds Γ1) : XI X μ tg e Γ Q := by
  refine ⟨fun pins s σ H R I ⟨Rl, k⟩ => ?_⟩
  have h' : PE X e (tD X.K μ Γ fun d Γ1 => ∃ ds, Items d ds ∧ Q ds Γ1) := h
  refine thn (h'.run pins s σ H (fun v H1 => ∃ d Γ1, Γ1.s = Γ.s ∧ Fw Γ.c Γ1.c H H1 ∧ Rel X.K μ H1 σ Γ1 ∧ Rp X.K (Vw μ Γ1 H1) v d ∧ ∃ ds, Items d ds ∧ Q ds Γ1) I ⟨Rl, fun v H1 d Γ1 s1 f1 R1 r1 hq => ⟨d, Γ1, s1, f1, R1, r1, hq⟩⟩)
    fun u s1 ⟨v, H1, I1, rv, d, Γ1, e1, f1, R1, r1, ds, hi, hq⟩ => ?_
  cases r1 with
  | @lst a vs xs q1 q2 =>
    have hi : ds = xs := hi
    subst hi
    cases rv
    obtain ⟨its, rv, p, hz⟩ := I1.list ((hid_sub _ _).sqL q1)
    refine wpAny_pyIter_list p.isList ?_
    refine ⟨s1.heap.objs.size, [s1.heap.objs.size], _, _, H1, rfl, I1.kept (t' := s1.toks) fun b o e => Heap.get?_push_of_some _ e, turn_list a _, ⟨_, Heap.get?_push_size _ rfl, rfl, rfl⟩, fun b hb => ?_, k _ H1 ds Γ1 e1 f1 R1 (wk_lst q1 q2) hq⟩
    obtain rfl : b = s1.heap.objs.size := by simpa using hb
    exact I1.fpOk (Nat.le_refl _) (I1.hok.fresh (Nat.le_refl _))
  | @tup a vs xs q1 q2 =>
    have hi : ds = xs := hi
    subst hi
    cases rv
    obtain ⟨its, rv, p, hz⟩ := I1.tuple ((hid_sub _ _).sqT q1.sq)
    refine wpAny_pyIter_tuple (show s1.heap.IsTuple a its.toArray from p) ?_
    refine ⟨s1.heap.objs.size, [s1.heap.objs.size], _, _, H1, rfl, I1.kept (t' := s1.toks) fun b o e => Heap.get?_push_of_some _ e, turn_tuple a _, ⟨_, Heap.get?_push_size _ rfl, rfl, rfl⟩, fun b hb => ?_, k _ H1 ds Γ1 e1 f1 R1 (wk_tup q1.sq q2) hq⟩
    obtain rfl : b = s1.heap.objs.size := by simpa using hb
    exact I1.fpOk (Nat.le_refl _) (I1.hok.fresh (Nat.le_refl _))
  | str z =>
    obtain ⟨t, rfl⟩ := rv
    have hi : ds = z.cps.toList.map fun c => .str (S [c]) := hi
    subst hi
    cases ha : z.cps.all (· < 128)
    · exact wpAny_pyIter_wide ha (pi_one (tk := s1.toks) I1 _ (turn_str _ z t "str_iterator" (.inr rfl)) ⟨_, Heap.get?_push_size _ rfl, rfl, rfl⟩ (k _ H1 _ Γ1 e1 f1 R1 wk_str hq))
    · exact wpAny_pyIter_ascii ha (pi_one (tk := s1.toks) I1 _ (turn_str _ z t "str_ascii_iterator" (.inl rfl)) ⟨_, Heap.get?_push_size _ rfl, rfl, rfl⟩ (k _ H1 _ Γ1 e1 f1 R1 wk_str hq))
  | non => exact hi.elim
  | bl _ => exact hi.elim
  | int _ => exact hi.elim
  | ty _ => exact hi.elim
  | ref _ => exact hi.elim
  | dct _ _ => exact hi.elim
  | ins _ _ => exact hi.elim
  | exc0 _ => exact hi.elim
  | exc1 _ _ _ => exact hi.elim
  | set _ => exact hi.elim
  | dcT _ _ => exact hi.elim
  | dcL _ _ => exact hi.elim
  | @tupx a vs xs q1 q2 =>
    have hi : ds = xs := hi
    subst hi
    cases rv
    obtain ⟨its, rv, p, hz⟩ := I1.tuple ((hid_sub _ _).sqT q1)
    refine wpAny_pyIter_tuple (show s1.heap.IsTuple a its.toArray from p) ?_
    refine ⟨s1.heap.objs.size, [s1.heap.objs.size], _, _, H1, rfl, I1.kept (t' := s1.toks) fun b o e => Heap.get?_push_of_some _ e, turn_tuple a _, ⟨_, Heap.get?_push_size _ rfl, rfl, rfl⟩, fun b hb => ?_, k _ H1 ds Γ1 e1 f1 R1 (wk_tup q1 q2) hq⟩
    obtain rfl : b = s1.heap.objs.size := by simpa using hb
    exact I1.fpOk (Nat.le_refl _) (I1.hok.fresh (Nat.le_refl _))
/-- a range -/
def rngD (lo : Int) (n : Nat) : List D := (List.range n).map fun (i : Nat) => .int (lo + (i : Int))
theorem wk_rng {K : PySem.W.Frag} {G : Hp} {lo : Int} {n : Nat} : Wk K G (Itr lo n) (rngD lo n) := fun i H1 M f _ => by
  refine ⟨fun d hd => ?_, fun hl => (show n ≤ i by simpa [rngD] using hl)⟩
  unfold rngD at hd
  rw [List.getElem?_map] at hd
  obtain ⟨j, hj, e⟩ := Option.map_eq_some_iff.mp hd
  subst e
  obtain ⟨hi, hj⟩ := List.getElem?_eq_some_iff.mp hj
  rw [List.getElem_range] at hj
  subst hj
  refine ⟨(show i < n by simpa using hi), fun x H' ⟨e, ex⟩ => ?_⟩
  subst e; subst ex
  exact ⟨Sub.refl _, .int _⟩
theorem xi_rng1 {p : Pos} (hg : Gl X "range") (hm : X.mg "range" = none) (h : XA X μ [a] Γ fun ds Γ1 => ∃ n : Int, ds = [.int n] ∧ -100000 ≤ n ∧ n ≤ 100000 ∧ Q (rngD 0 n.toNat) Γ1) (hs : starEach [a] X.env = [(false, eval a X.env)] := by rfl) : XI X μ tg (.Call (.Name "range" p) [a] [] pos) Γ Q :=
  PI.imp (pi_range1 hg hm h hs) fun σ H R ⟨Rl, k⟩ => ⟨Rl, fun vs H1 ds Γ1 s1 f1 R1 r1 ⟨n, hd, h1, h2, hq⟩ => by
    subst hd
    obtain ⟨v, rfl, r⟩ := r1.one
    cases r
    exact ⟨n, rfl, by omega, by omega, k _ H1 _ Γ1 s1 f1 R1 wk_rng hq⟩⟩
theorem xi_rng2 {p : Pos} (hg : Gl X "range") (hm : X.mg "range" = none) (h : XA X μ [a, b] Γ fun ds Γ1 => ∃ l n : Int, ds = [.int l, .int n] ∧ (-100000 ≤ l ∧ l ≤ 100000) ∧ (-100000 ≤ n ∧ n ≤ 100000) ∧ Q (rngD l (n - l).toNat) Γ1)
    (hs : starEach [a, b] X.env = [(false, eval a X.env), (false, eval b X.env)] := by rfl) (hs2 : starEach [b] X.env = [(false, eval b X.env)] := by rfl) : XI X μ tg (.Call (.Name "range" p) [a, b] [] pos) Γ Q :=
  PI.imp (pi_range2 hg hm h hs hs2) fun σ H R ⟨Rl, k⟩ => ⟨Rl, fun vs H1 ds Γ1 s1 f1 R1 r1 ⟨l, n, hd, h1, h2, hq⟩ => by
    subst hd
    obtain ⟨v, u, rfl, r, r'⟩ := r1.two
    cases r; cases r'
    exact ⟨l, n, rfl, ⟨by omega, by omega, by omega, by omega⟩, k _ H1 _ Γ1 s1 f1 R1 wk_rng hq⟩⟩
theorem xg_name {i : Nat} {xn : Str} {Q : En → Prop} (hN : X.N.Nodup) (hi : X.N[i]? = some xn) (hx : Loc X.env.scope xn) (h : Q { Γ with s := Γ.s.set i (some d) }) (hf : X.fn xn = true ∨ X.env.scope.names.lookup xn = some .local := by first | exact .inl rfl | exact .inr rfl | assumption) : XG X μ (.Name xn pos) d Γ Q :=
  PG.imp (pg_name (i := i) hN hi hx hf) fun v σ H q ⟨R, r, k⟩ => k _ H { Γ with s := Γ.s.set i (some d) } (Fw.refl _ _) (R.set i r) h
theorem xgs_nil {Q : En → Prop} (h : Q Γ) : XGs X μ [] [] Γ Q := PGs.imp pgs_nil fun v σ H q ⟨R, r, k⟩ => by
  cases r
  exact ⟨rfl, k σ H Γ (Fw.refl _ _) R h⟩
theorem xgs_cons {Q : En → Prop} {ts : List Expr} {ds : List D} (h : XG X μ tg d Γ fun Γ1 => XGs X μ ts ds Γ1 Q) (hs : (assignEach (tg :: ts) X.env).map (·.2) = assign tg X.env :: (assignEach ts X.env).map (·.2) := by rfl) : XGs X μ (tg :: ts) (d :: ds) Γ Q :=
  PGs.imp (pgs_cons h pgs_u hs) fun vs σ H q ⟨R, r, k⟩ => by
    cases r with
    | cons r1 r2 => exact ⟨_, _, rfl, R, r1, fun σ1 H1 Γ1 f1 R1 hq => ⟨_, hq, R1, r2.mono f1.sub, fun σ2 H2 Γ2 f2 R2 hq => k σ2 H2 Γ2 (f1.trans f2) R2 hq⟩⟩
theorem xg_tup {Q : En → Prop} {ts : List Expr} {ds : List D} {j : Nat} (hc : X.calm = true) (hl : ds.length = ts.length) (h : XGs X μ ts ds Γ Q) (hn : (assignEach ts X.env).length = ts.length := by rfl) (hst : (assignEach ts X.env).findIdx? (·.1) = none := by rfl) : XG X μ (.Tuple ts j pos) (.tup ds) Γ Q :=
  PG.imp (pg_tup hc h hn hst) fun v σ H q ⟨R, r, k⟩ => by
    cases r with
    | tup s1 r1 => exact ⟨_, _, rfl, (hid_sub _ _).sqT s1.sq, by rw [r1.length, hl], R, r1, k⟩
/-- target = e -/
theorem xs_asg {e : Expr} (h : XE X μ e Γ fun d Γ1 => XG X μ tg d Γ1 P.nx) (hs : swapsWithSole [tg] e pos.line X.env = pure false := by rfl) (hw : swappedStores [tg] e X.env = pure none := by rfl)
    (h1 : (assignEach [tg] X.env).map (·.2) = [assign tg X.env] := by rfl) : XS X μ (.Assign [tg] e pos) Γ P :=
  PS.imp (ps_asg h pg_u hs hw h1) fun D σ H ⟨R, k, _⟩ => ⟨R, fun v H1 d Γ1 s1 f1 R1 r1 hq => ⟨_, hq, R1, r1, fun σ2 H2 Γ2 f2 R2 hq => k σ2 H2 Γ2 (f1.trans f2) R2 hq⟩⟩
/-- a, b = x, y -/
theorem xs_par {i j : Nat} {xn yn : Str} {px py pt : Pos} {kt k2 pt2} (hc : X.calm = true) (hN : X.N.Nodup) (hi : X.N[i]? = some xn) (hj : X.N[j]? = some yn) (hij : i ≠ j)
    (hx : X.env.scope.names.lookup xn = some .local) (hy : X.env.scope.names.lookup yn = some .local) (h : XA X μ [a, b] Γ fun ds Γ1 => ∃ d e, ds = [d, e] ∧ P.nx { Γ1 with s := (Γ1.s.set i (some d)).set j (some e) })
    (hw : swappedStores [.Tuple [.Name xn px, .Name yn py] kt pt] (.Tuple [a, b] k2 pt2) X.env = pure (some [xn, yn]) := by rfl)
    (hs : swapsWithSole [.Tuple [.Name xn px, .Name yn py] kt pt] (.Tuple [a, b] k2 pt2) pos.line X.env = pure false := by rfl) :
    XS X μ (.Assign [.Tuple [.Name xn px, .Name yn py] kt pt] (.Tuple [a, b] k2 pt2) pos) Γ P :=
  PS.imp (ps_par hc hN hi hj hij hx hy h hw hs) fun D σ H ⟨R, k, _⟩ => ⟨R, fun vs H1 ds Γ1 s1 f1 R1 r1 ⟨d, e, hd, hq⟩ => by
    subst hd
    obtain ⟨v, u, rfl, r, r'⟩ := r1.two
    exact ⟨v, u, rfl, k _ H1 { Γ1 with s := (Γ1.s.set i (some d)).set j (some e) } f1 ((R1.set i r).set j r') hq⟩⟩
theorem xs_for {body : List Stmt} (hp : PassesOwn (model X.prog X.w) X.A X.env X.xe) (hc : X.calm = true)
    (h : XI X μ tg it Γ fun ds Γ1 => ∃ I : Nat → En → Prop, I 0 Γ1 ∧ (∀ i d Γ2, ds[i]? = some d → I i Γ2 → XG X μ tg d Γ2 fun Γ3 => XB X μ body Γ3 { P with nx := I (i + 1), ct := I (i + 1), bk := P.nx }) ∧ ∀ Γ2, I ds.length Γ2 → P.nx Γ2)
    (hs : ∀ x, foldedSetIterable it X.env x = pure x := by intro _; rfl) : XS X μ (.For tg it body [] pos) Γ P := by
  refine PS.imp (ps_for hp hc h pg_u pss_u hs) fun D σ H ⟨R, k1, k2, k3, k4⟩ => ⟨R, fun J H1 ds Γ1 s1 f1 R1 wk ⟨I, h0, ht, hd⟩ => ?_⟩
  refine ⟨fun i n σ' H' => n = ds.length - i ∧ i ≤ ds.length ∧ ∃ Γ', Fw Γ1.c Γ'.c H1 H' ∧ Rel X.K μ H' σ' Γ' ∧ I i Γ', ⟨ds.length, by simp, Nat.zero_le _, Γ1, Fw.refl _ _, R1, h0⟩, ?_⟩
  rintro i n σ' H' ⟨rfl, hi, Γ', f', R', hI⟩
  obtain ⟨w1, w2⟩ := wk i H' (tot μ.m Γ'.c) f'.sub R'.domT
  by_cases hlt : i < ds.length
  · obtain ⟨go, yl⟩ := w1 ds[i] (by simp [hlt])
    refine .inr ⟨go, fun σ2 H2 => ∃ Γ2, Fw Γ1.c Γ2.c H1 H2 ∧ Rel X.K μ H2 σ2 Γ2 ∧ I (i + 1) Γ2, fun σ2 H2 q => ⟨ds.length - (i + 1), by omega, rfl, hlt, q⟩, fun x H2 y => ?_⟩
    obtain ⟨e2, r2⟩ := yl x H2 y
    have f2 : Fw Γ'.c Γ'.c H' H2 := Fw.of_sub e2
    refine ⟨_, ht i ds[i] Γ' (by simp [hlt]) hI, R'.more e2, r2, fun σ3 H3 Γ3 f3 R3 hb => ⟨_, hb, R3, fun σ4 H4 Γ4 f4 R4 q => ?_, fun v σ4 H4 d Γ4 f4 R4 r q => ?_, fun σ4 H4 Γ4 f4 R4 q => ?_, fun σ4 H4 Γ4 f4 R4 q => ?_⟩⟩
    · exact ⟨Γ4, ((f'.trans f2).trans f3).trans f4, R4, q⟩
    · exact k2 v σ4 H4 d Γ4 ((((f1.trans f').trans f2).trans f3).trans f4) R4 r q
    · exact k1 σ4 H4 Γ4 ((((f1.trans f').trans f2).trans f3).trans f4) R4 q
    · exact ⟨Γ4, ((f'.trans f2).trans f3).trans f4, R4, q⟩
  · have e : i = ds.length := by omega
    subst e
    exact .inl ⟨w2 (Nat.le_refl _), k1 σ' H' Γ' (f1.trans f') R' (hd Γ' hI)⟩
theorem xs_while {body : List Stmt} (hp : PassesOwn (model X.prog X.w) X.A X.env X.xe) (I : En → Prop) (M : En → Nat) (h0 : I Γ)
    (ht : ∀ Γ1, I Γ1 → XT X μ c Γ1 fun b Γ2 => if b = true then XB X μ body Γ2 { P with nx := fun Γ3 => I Γ3 ∧ M Γ3 < M Γ1, ct := fun Γ3 => I Γ3 ∧ M Γ3 < M Γ1, bk := P.nx } else P.nx Γ2) : XS X μ (.While c body [] pos) Γ P := by
  refine PS.imp (ps_while hp pt_u pss_u) fun D σ H ⟨R, k1, k2, k3, k4⟩ => ?_
  refine ⟨fun n σ' H' => ∃ Γ', n = M Γ' ∧ Fw Γ.c Γ'.c H H' ∧ Rel X.K μ H' σ' Γ' ∧ I Γ', ⟨_, Γ, rfl, Fw.refl _ _, R, h0⟩, ?_⟩
  rintro n σ' H' ⟨Γ', rfl, f', R', hI⟩
  refine ⟨_, ht Γ' hI, R', fun H1 b Γ1 s1 f1 R1 hq => ?_⟩
  cases b with
  | true =>
    rw [if_pos rfl] at hq
    refine iteT ⟨fun σ2 H2 => ∃ Γ2, Fw Γ.c Γ2.c H H2 ∧ Rel X.K μ H2 σ2 Γ2 ∧ I Γ2 ∧ M Γ2 < M Γ', fun σ2 H2 ⟨Γ2, g1, g2, g3, g4⟩ => ⟨M Γ2, g4, Γ2, rfl, g1, g2, g3⟩, _, hq, R1, fun σ4 H4 Γ4 f4 R4 q => ?_, fun v σ4 H4 d Γ4 f4 R4 r q => ?_, fun σ4 H4 Γ4 f4 R4 q => ?_, fun σ4 H4 Γ4 f4 R4 q => ?_⟩
    · exact ⟨Γ4, (f'.trans f1).trans f4, R4, q⟩
    · exact k2 v σ4 H4 d Γ4 ((f'.trans f1).trans f4) R4 r q
    · exact k1 σ4 H4 Γ4 ((f'.trans f1).trans f4) R4 q
    · exact ⟨Γ4, (f'.trans f1).trans f4, R4, q⟩
  | false =>
    rw [if_neg Bool.false_ne_true] at hq
    exact iteF (k1 σ' H1 Γ1 (f'.trans f1) R1 hq)
end
end Pdl
namespace Pdl
open PySem L2 PyProof.Rows
def XTl (X : Cx) (μ : Md) (ifs : List Expr) (Γ : En) (Q : Bool → En → Prop) : Prop := PTs X ifs (tTD X.K μ Γ Q)
/-- all block contexts of a comprehension -/
abbrev Blk (X : Cx) (scope : Scope) (F : Cx → Prop) : Prop := ∀ (s : Shared) (H : Hp) (C : Addr) (cl : List (Str × Addr)) (fp : List Addr), F (X.blk s H scope (compEnvC scope cl C X.env) fp)
def uBT (X : Cx) (scope : Scope) (ifs : List Expr) : TT := fun σ H q => ∃ t, Blk X scope (fun Y => PTs Y ifs t) ∧ t σ H q
def uBE (X : Cx) (scope : Scope) (e : Expr) : TE := fun σ H q => ∃ t, Blk X scope (fun Y => PE Y e t) ∧ t σ H q
theorem hid_msk {m : Addr → Bool} {H : Hp} {p : Addr} {o : HO} (h : m p = true) : hid m (upd H p o) = hid m H := by
  funext a
  unfold hid
  by_cases e : a = p
  · subst e; rw [if_pos h, if_pos h]
  · rw [upd_ne e]
section
variable {X : Cx} {μ : Md} {Γ : En} {Q : QE} {a b c e o it tg elt : Expr} {es ifs : List Expr} {pos apos cpos tpos : Pos} {x y d : D} {m : Addr → Bool} {H : Hp} {P : Po} {scope : Scope}
theorem xtl_nil {Q : Bool → En → Prop} (h : Q true Γ) : XTl X μ [] Γ Q := ⟨fun pins s σ H q I ⟨R, k⟩ => (pts_nil (X := X)).run pins s σ H q I (k H true Γ rfl (Fw.refl _ _) R h)⟩
theorem xtl_one {Q : Bool → En → Prop} (h : XT X μ c Γ Q) : XTl X μ [c] Γ Q := pts_one h
/-- what is asked of a comprehension's items -/
def QLc (X : Cx) (scope : Scope) (ifs : List Expr) (elt : Expr) (i : Nat) (Q : QE) : List D → En → Prop := fun ds Γ1 => ∃ I : Nat → List D → Cs → Prop, I 0 [] Γ1.c ∧
      (∀ k d acc c2, ds[k]? = some d → I k acc c2 → ∀ μ', Blk X scope fun Y => XTl Y μ' ifs ⟨Γ1.s.set i (some d), c2⟩ fun b Γ3 => if b = true then Blk X scope fun Z => XE Z μ' elt Γ3 fun y Γ4 => I (k + 1) (acc ++ [y]) Γ4.c else I (k + 1) acc Γ3.c) ∧
      ds.length ≤ 100000 ∧ ∀ acc c2, I ds.length acc c2 → Q (.lst acc) ⟨Γ1.s, c2⟩
theorem lcD {i : Nat} (σ : L2.St) (H : Hp) (q : VK) (h : tD X.K μ Γ Q σ H q) : tLc (tID X.K μ Γ (QLc X scope ifs elt i Q)) (gName i) (uBT X scope ifs) (uBE X scope elt) [i] σ H q := by
  obtain ⟨R, k⟩ := h
  refine ⟨R, fun J H1 ds Γ1 s1 f1 R1 wk ⟨I, h0, ht, hlen, hd⟩ p hp => ?_⟩
  have hpm : tot μ.m Γ1.c p = false := R1.fresh hp
  let μ' : Md := { m := fun a => μ.m a || a == p, c0 := Γ1.c, H0 := H1, E := fun _ _ => False }
  have mp : μ'.m p = true := by show (μ.m p || p == p) = true; simp
  have mne : ∀ {a}, a ≠ p → μ'.m a = μ.m a := fun {a} h => by show (μ.m a || a == p) = _; rw [beq_eq_false_iff_ne.mpr h]; simp
  have tp : ∀ cs, tot μ'.m cs p = true := fun cs => by unfold tot; rw [mp]; rfl
  have less : ∀ (cs : Cs) (H' : Hp), Sub (hid (tot μ'.m cs) H') (hid (tot μ.m cs) H') := fun cs H' => hid_mono fun a o h e => by
    obtain ⟨h1, h2⟩ := tot_false.mp h
    have hne : a ≠ p := fun z => by rw [z, mp] at h1; cases h1
    rw [mne hne] at h1
    exact ⟨tot_false.mpr ⟨h1, h2⟩, e⟩
  have near : ∀ {cs : Cs} {H' : Hp}, Fw Γ1.c cs H1 H' → Sub (hid (tot μ.m Γ1.c) H1) (hid (tot μ'.m cs) H') := fun {cs H'} f => hid_mono fun a o h e => by
    obtain ⟨h1, h2⟩ := tot_false.mp h
    obtain ⟨h3, h4⟩ := f a o h2 e
    have hne : a ≠ p := ne_of_none e hp
    exact ⟨tot_false.mpr ⟨by rw [mne hne]; exact h1, h4⟩, h3⟩
  refine ⟨fun k' n H' => n = ds.length - k' ∧ k' ≤ ds.length ∧ ∃ (acc : List D) (vs : List V) (c' : Cs), H' p = some (.lst vs) ∧ RpA X.K (hid (tot μ'.m c') H') vs acc ∧ Fw Γ1.c c' H1 H' ∧
    Rel X.K μ' H' (σ.set i none) ⟨Γ1.s.set i none, c'⟩ ∧ acc.length ≤ k' ∧ I k' acc c', ⟨ds.length, by simp, Nat.zero_le _, [], [], Γ1.c, upd_same, .nil, Fw.of_sub (sub_upd hp), ?_, Nat.le_refl _, h0⟩, ?_⟩
  · have f0 : Fw Γ1.c Γ1.c H1 (upd H1 p (.lst [])) := Fw.of_sub (sub_upd hp)
    refine ⟨⟨fun a h => ?_, R1.co.nd, fun r hr => ?_, fun r hr => ?_⟩, (R1.slots.unset i).mono (near f0), f0⟩
    · by_cases e : a = p
      · subst e; exact ⟨_, upd_same, rfl⟩
      · rw [mne e] at h
        obtain ⟨o, ho, z⟩ := R1.co.dom a h
        exact ⟨o, sub_upd hp _ _ ho, z⟩
    · have hne : r.1 ≠ p := fun z => by
        have := (tot_false.mp hpm).2
        rw [← z, inC_of hr] at this
        cases this
      rw [mne hne]
      exact R1.co.off r hr
    · have z := R1.co.cells r hr
      obtain ⟨u, hu⟩ := z.some
      show CellRp X.K _ (upd H1 p _ r.1) r.2
      rw [upd_ne (ne_of_none hu hp)]
      exact z.mono (near f0)
  · rintro k' n H' ⟨rfl, hk, acc, vs, c', hD, ra, f', R', hl, hI⟩
    obtain ⟨w1, w2⟩ := wk k' H' (tot μ'.m c') (near f') R'.domT
    by_cases hlt : k' < ds.length
    · obtain ⟨go, yl⟩ := w1 ds[k'] (by simp [hlt])
      refine .inr ⟨go, fun H2 => ∃ (acc : List D) (vs : List V) (c' : Cs), H2 p = some (.lst vs) ∧ RpA X.K (hid (tot μ'.m c') H2) vs acc ∧ Fw Γ1.c c' H1 H2 ∧
        Rel X.K μ' H2 (σ.set i none) ⟨Γ1.s.set i none, c'⟩ ∧ acc.length ≤ k' + 1 ∧ I (k' + 1) acc c', fun H2 q2 => ⟨ds.length - (k' + 1), by omega, rfl, hlt, q2⟩, fun v H2 y => ?_⟩
      obtain ⟨e2, r2⟩ := yl v H2 y
      have f2 : Fw c' c' H' H2 := Fw.of_sub e2
      have R2 : Rel X.K μ' H2 ((σ.set i none).set i (some v)) ⟨Γ1.s.set i (some ds[k']), c'⟩ := by
        have z := (R'.more e2).set i r2
        have ez : (Γ1.s.set i none).set i (some ds[k']) = Γ1.s.set i (some ds[k']) := List.set_set ..
        have z' : Rel X.K μ' H2 ((σ.set i none).set i (some v)) ⟨(Γ1.s.set i none).set i (some ds[k']), c'⟩ := z
        rw [ez] at z'
        exact z'
      have npc : ∀ {cs : Cs} {G : Hp} {σ' : L2.St} {sl : List (Option D)}, Rel X.K μ' G σ' ⟨sl, cs⟩ → inC cs p = false := fun {cs G σ' sl} R => by
        cases e : inC cs p with
        | false => rfl
        | true =>
          obtain ⟨r, hr, er⟩ := of_inC e
          have := R.co.off r hr
          rw [er, mp] at this
          cases this
      refine ⟨?_, ?_⟩
      · show ((σ.set i none).set i (some v)).set i none = σ.set i none
        rw [List.set_set, List.set_set]
      · refine ⟨tTD X.K μ' _ _, ht k' ds[k'] acc c' (by simp [hlt]) hI μ', R2, fun H3 b Γ3 s3 f3 R3 hq => ?_⟩
        obtain ⟨sl3, c3⟩ := Γ3
        have s3 : sl3 = Γ1.s.set i (some ds[k']) := s3
        subst s3
        have hD2 : H2 p = some (.lst vs) := e2 _ _ hD
        have hD3 : H3 p = some (.lst vs) := (f3 _ _ (npc R2) hD2).1
        have unset : ∀ {G : Hp} {cs : Cs}, Rel X.K μ' G ((σ.set i none).set i (some v)) ⟨Γ1.s.set i (some ds[k']), cs⟩ → Rel X.K μ' G (σ.set i none) ⟨Γ1.s.set i none, cs⟩ := fun {G cs} R => by
          refine ⟨R.co, ?_, R.fw⟩
          have z := R.slots.unset i
          have z' : SlotRp X.K (hid (tot μ'.m cs) G) (((σ.set i none).set i (some v)).set i none) ((Γ1.s.set i (some ds[k'])).set i none) := z
          rw [List.set_set, List.set_set, List.set_set] at z'
          exact z'
        cases b with
        | false =>
          rw [if_neg Bool.false_ne_true] at hq
          exact iteF ⟨acc, vs, c3, hD3, ra.mono (f2.sub.trans f3.sub), (f'.trans f2).trans f3, unset R3, Nat.le_succ_of_le hl, hq⟩
        | true =>
          rw [if_pos rfl] at hq
          refine iteT ⟨tD X.K μ' _ _, hq, R3, fun y H4 d4 Γ4 s4 f4 R4 r4 hI4 => ?_⟩
          obtain ⟨sl4, c4⟩ := Γ4
          have s4 : sl4 = Γ1.s.set i (some ds[k']) := s4
          subst s4
          have hD4 : H4 p = some (.lst vs) := (f4 _ _ (npc R3) hD3).1
          have lv : vs.length ≤ k' := by rw [ra.length]; exact hl
          refine ⟨vs, hD4, Nat.lt_of_le_of_lt (Nat.le_trans lv (Nat.le_trans hk hlen)) (by decide), acc ++ [d4], vs ++ [y], c4, upd_same, ?_, ?_, ?_, by rw [List.length_append]; exact Nat.succ_le_succ hl, hI4⟩
          · rw [hid_msk (tp c4)]
            exact (ra.mono ((f2.sub.trans f3.sub).trans f4.sub)).app (.cons r4 .nil)
          · intro a o ha e
            obtain ⟨z1, z2⟩ := (((f'.trans f2).trans f3).trans f4) a o ha e
            exact ⟨by rw [upd_ne (ne_of_none e hp)]; exact z1, z2⟩
          · have R5 := unset R4
            refine ⟨⟨fun a h => ?_, R5.co.nd, R5.co.off, fun r hr => ?_⟩, ?_, fun a o ha e => ?_⟩
            · by_cases ea : a = p
              · subst ea; exact ⟨_, upd_same, rfl⟩
              · obtain ⟨o, ho, z⟩ := R5.co.dom a h
                exact ⟨o, by rw [upd_ne ea]; exact ho, z⟩
            · have hne : r.1 ≠ p := fun z => by
                have := R5.co.off r hr
                rw [z, mp] at this
                cases this
              show CellRp X.K (hid (tot μ'.m c4) (upd H4 p _)) (upd H4 p _ r.1) r.2
              rw [hid_msk (tp c4), upd_ne hne]
              exact R5.co.cells r hr
            · show SlotRp X.K (hid (tot μ'.m c4) (upd H4 p _)) _ _
              rw [hid_msk (tp c4)]
              exact R5.slots
            · obtain ⟨z1, z2⟩ := R5.fw a o ha e
              exact ⟨by rw [upd_ne (ne_of_none e hp)]; exact z1, z2⟩
    · have e : k' = ds.length := by omega
      subst e
      refine .inl ⟨w2 (Nat.le_refl _), k _ H' (.lst acc) ⟨Γ1.s, c'⟩ s1 (f1.trans f') ⟨⟨fun a h => R'.co.dom a ?_, R'.co.nd, fun r hr => ?_, fun r hr => (R'.co.cells r hr).mono (less c' H')⟩, R1.slots.mono f'.sub, R1.fw.trans f'⟩ (.lst (.of ?_) (ra.mono (less c' H'))) (hd acc c' hI)⟩
      · show (μ.m a || a == p) = true
        rw [h]; rfl
      · have z : (μ.m r.1 || r.1 == p) = false := R'.co.off r hr
        exact (Bool.or_eq_false_iff.mp z).1
      · refine hid_some.mpr ⟨tot_false.mpr ⟨(tot_false.mp hpm).1, ?_⟩, hD⟩
        cases e : inC c' p with
        | false => rfl
        | true =>
          obtain ⟨r, hr, er⟩ := of_inC e
          have := R'.co.off r hr
          rw [er, mp] at this
          cases this
/-- [elt for x in it if ..], one name as the target -/
theorem xe_lc {i : Nat} {xn : Str} (hc : X.calm = true) (hN : X.N.Nodup) (hi : X.N[i]? = some xn) (hb : BlkOk X.N X.env.scope scope [(xn, i)]) (hx : Blk X scope fun Y => Loc Y.env.scope xn) (hf : Blk X scope fun Y => Y.fn xn = true ∨ Y.env.scope.names.lookup xn = some .local)
    (h : XI X μ (.Name xn tpos) it Γ (QLc X scope ifs elt i Q))
    (hs : ∀ x, foldedSetIterable it X.env x = pure x := by intro _; rfl) : XE X μ (.ListComp elt [⟨.Name xn tpos, it, ifs, 0⟩] scope pos) Γ Q :=
  PE.imp (pe_lc (g := gName i) (tt := uBT X scope ifs) (te := uBE X scope elt) hc hN h hb (fun s H C cl fp => pg_name hN hi (hx s H C cl fp) (hf s H C cl fp))
    (fun s H C cl fp => ⟨fun pins s' σ H' q I ⟨t, ht, hq⟩ => (ht s H C cl fp).run pins s' σ H' q I hq⟩) (fun s H C cl fp => ⟨fun pins s' σ H' q I ⟨t, ht, hq⟩ => (ht s H C cl fp).run pins s' σ H' q I hq⟩) hs) fun σ H q h => lcD σ H q h
/-- y = [elt for x in it if ..] -/
theorem xs_lc {i j : Nat} {xn yn : Str} {py spos : Pos} (hc : X.calm = true) (hN : X.N.Nodup) (hi : X.N[i]? = some xn) (hb : BlkOk X.N X.env.scope scope [(xn, i)]) (hx : Blk X scope fun Y => Loc Y.env.scope xn) (hf : Blk X scope fun Y => Y.fn xn = true ∨ Y.env.scope.names.lookup xn = some .local)
    (hy : X.N[j]? = some yn) (hyl : X.env.scope.names.lookup yn = some .local) (hsw : swapsWith (.ListComp elt [⟨.Name xn tpos, it, ifs, 0⟩] scope pos) (some (.Name yn py)) spos.line X.env = pure true)
    (h : XI X μ (.Name xn tpos) it Γ (QLc X scope ifs elt i fun d Γ1 => P.nx { Γ1 with s := Γ1.s.set j (some d) }))
    (hs : ∀ x, foldedSetIterable it X.env x = pure x := by intro _; rfl) : XS X μ (.Assign [.Name yn py] (.ListComp elt [⟨.Name xn tpos, it, ifs, 0⟩] scope pos) spos) Γ P :=
  PS.imp (ps_setLc (i := j) (g := gName i) (tt := uBT X scope ifs) (te := uBE X scope elt) hc hN hy hyl hsw h hb (fun s H C cl fp => pg_name hN hi (hx s H C cl fp) (hf s H C cl fp))
    (fun s H C cl fp => ⟨fun pins s' σ H' q I ⟨t, ht, hq⟩ => (ht s H C cl fp).run pins s' σ H' q I hq⟩) (fun s H C cl fp => ⟨fun pins s' σ H' q I ⟨t, ht, hq⟩ => (ht s H C cl fp).run pins s' σ H' q I hq⟩) hs)
    fun D σ H ⟨R, k, _⟩ => lcD σ H _ ⟨R, fun v H1 d Γ1 s1 f1 R1 r1 hq => k _ H1 { Γ1 with s := Γ1.s.set j (some d) } f1 (R1.set j r1) hq⟩
end
end Pdl
namespace Pdl
open PySem L2 PyProof.Rows
/-- the def st stands at the module's name x -/
def Def (K : PySem.W.Frag) (mg : Str → Option Value) (x : Str) (ps : List Str) (st : Stmt) : Prop := ∃ (f : Addr) (fd : FuncData), mg x = some (.ref f) ∧ PySem.W.keepIn K (.ref f) = true ∧ Fun K x x st f fd ∧ Binds K fd ps []
/-- the module's name x may be called: its promise -/
def Cal (P : Program) (w : World) (K : PySem.W.Frag) (mg : Str → Option Value) (base : Heap) (x : Str) (k : Nat) (ps : List Str) (S : SpD) : Prop :=
  ∃ (f : Addr) (fd : FuncData), mg x = some (.ref f) ∧ PySem.W.keepIn K (.ref f) = true ∧ FnOk P w K mg base CX0 k f fd ps (spD K S) ∧ Binds K fd ps []
/-- .. of a def that is run where no repr is under way -/
structure FnG (P : Program) (w : World) (K : PySem.W.Frag) (mg : Str → Option Value) (base : Heap) (k : Nat) (f : Addr) (fd : FuncData) (ps : List Str) (sp : Sp) : Prop where
  len : ∀ vs H Q E, sp vs H Q E → vs.length = ps.length
  run : ∀ (A : Around) (outer : List Env) (s : Shared) (H : Hp) (args : Args) (us : List Value) (vs : List V) (Q : VK) (E : XK), Room k A → A.guards = some [] → Env0 P w K mg base A outer s H → BindsTo s fd args (ps.zip us) → Vals vs us → sp vs H Q E →
    codeAny (model P w) A (.call (.ref f) args) (CR CX0 outer P w H s Q E) s
theorem FnG.of {P : Program} {w : World} {K : PySem.W.Frag} {mg : Str → Option Value} {base : Heap} {k : Nat} {f : Addr} {fd : FuncData} {ps : List Str} {sp : Sp} (F : FnOk P w K mg base CX0 k f fd ps sp) : FnG P w K mg base k f fd ps sp :=
  ⟨F.len, fun A outer s H args us vs Q E hr _ he hb hv hs => F.run A outer s H args us vs Q E hr he hb hv hs⟩
def CalG (P : Program) (w : World) (K : PySem.W.Frag) (mg : Str → Option Value) (base : Heap) (x : Str) (k : Nat) (ps : List Str) (S : SpD) : Prop :=
  ∃ (f : Addr) (fd : FuncData), mg x = some (.ref f) ∧ PySem.W.keepIn K (.ref f) = true ∧ FnG P w K mg base k f fd ps (spD K S) ∧ Binds K fd ps []
section
variable {P : Program} {w : World} {K : PySem.W.Frag} {mg : Str → Option Value} {base : Heap}
theorem Cal.g {x : Str} {k : Nat} {ps : List Str} {S : SpD} (h : Cal P w K mg base x k ps S) : CalG P w K mg base x k ps S := let ⟨f, fd, a, b, F, c⟩ := h; ⟨f, fd, a, b, .of F, c⟩
theorem cal_of {x : Str} {st : Stmt} {N ps : List Str} {k : Nat} {S : SpD} (D : Def K mg x ps st) (sc : FnScope N ps (defScope st)) (len : ∀ ds c Q E, S ds c Q E → ds.length = ps.length)
    (hbody : ∀ (f : Addr) (cdv : Value) (A : Around) (outer : List Env) (s : Shared) (H : Hp) (E0 : XK), Room k (bX P w K mg base N x st f cdv A outer s H E0).A →
      ∀ m ds c Q E, S ds c Q E → XB (bX P w K mg base N x st f cdv A outer s H E0) (mdOf m c H E) (defBody st) ⟨startD N ds, c⟩ (poOf Q)) : Cal P w K mg base x (k + 1) ps S := by
  obtain ⟨f, fd, h1, h2, F, b⟩ := D
  exact ⟨f, fd, h1, h2, fn_D F sc len (hbody f), b⟩
/-- the body, where no repr is under way -/
theorem fn_G {x qual : Str} {st : Stmt} {f : Addr} {fd : FuncData} {N ps : List Str} {k : Nat} {sp : Sp} (F : Fun K x qual st f fd) (sc : FnScope N ps (defScope st)) (len : ∀ vs H Q E, sp vs H Q E → vs.length = ps.length)
    (hbody : ∀ (cdv : Value) (A : Around) (outer : List Env) (s : Shared) (H : Hp) (vs : List V) (Q : VK) (E : XK), Room k (bX P w K mg base N qual st f cdv A outer s H E).A → (bX P w K mg base N qual st f cdv A outer s H E).A.guards = some [] → sp vs H Q E →
      ∃ t, PSs (bX P w K mg base N qual st f cdv A outer s H E) (defBody st) t ∧ t { nx := fun _ H' => Q .non H', rt := Q } (L2.start N vs) H) : FnG P w K mg base (k + 1) f fd ps sp := by
  obtain ⟨oc, od, kV, doc, pm, an, cdv, ct, osl, rfl, lk, hcd⟩ := F.ex
  refine ⟨len, fun A outer s₀ H₀ args us vs Q E room gd en bnd rel hsp => ?_⟩
  have kin : K.In s₀.heap := en.mod.kin.keeps fun b o z => (en.bs b o z).1
  have nol : s₀.heap.NoLimit := en.mod.nolimit.keeps fun b o z => (en.bs b o z).1
  have kinds : ∀ z ∈ ps.zip us, (defScope st).names.lookup z.1 = some .local ∨ ((defScope st).names.lookup z.1 = some .cell ∧ ((cellsFrom (s₀.heap.objs.size + 1) (defScope st).names []).lookup z.1).isSome = true) := fun ⟨nm, vl⟩ hz => by
    rcases sc.par nm (List.of_mem_zip hz).1 with g | g
    · exact .inl g
    · exact .inr ⟨g, PySem.W.cellsFrom_some _ _ _ (.inl g)⟩
  refine codeAny_call_function room.depth (kin _ _ lk) rfl sc.co sc.gen rfl (PySem.W.codeRec_of kin hcd) (bnd _ _ _ _ ?_)
  refine wpAny_newFunctionEnv_cells sc.kind kinds fun env he s₁ icl => ?_
  subst he
  refine ⟨nol.keeps icl.toInCall.keep, codeAny_func ?_⟩
  obtain ⟨t, pt, ht⟩ := hbody cdv A outer s₀ H₀ vs Q E (room.deeper _) gd hsp
  have inv : Inv (cxOf CX0 P w K mg base N qual (defScope st) f cdv A outer s₀ H₀ E) [] (L2.start N vs) H₀ s₁ := inv_start sc room.hd en (len _ _ _ _ hsp) rel icl
  refine wpAny_mono (pt.nox.run [] s₁ (L2.start N vs) H₀ _ inv ht) (fun fl s₂ done => ?_) fun e s₂ z => z
  have close : ∀ {σ' : L2.St} {H' : Hp} {v : V} {u : Value}, Inv (cxOf CX0 P w K mg base N qual (defScope st) f cdv A outer s₀ H₀ E) [] σ' H' s₂ → RelV v u → Q v H' → CE outer P w H₀ s₀ Q u s₂ :=
    fun {σ' H' v u} J rv q => ⟨v, H', J.os, J.bare, J.base, J.hok, rv, q⟩
  cases fl with
  | next =>
    obtain ⟨_, _, J, q⟩ := done
    exact close (v := V.non) (u := Value.none) J rfl q
  | ret u =>
    obtain ⟨_, _, _, J, rv, q⟩ := done
    exact close J rv q
  | brk => exact done.elim fun _ ⟨_, _, q⟩ => q.elim
  | cont => exact done.elim fun _ ⟨_, _, q⟩ => q.elim
theorem calg_of {x : Str} {st : Stmt} {N ps : List Str} {k : Nat} {S : SpD} (D : Def K mg x ps st) (sc : FnScope N ps (defScope st)) (len : ∀ ds c Q E, S ds c Q E → ds.length = ps.length)
    (hbody : ∀ (f : Addr) (cdv : Value) (A : Around) (outer : List Env) (s : Shared) (H : Hp) (E0 : XK), Room k (bX P w K mg base N x st f cdv A outer s H E0).A → (bX P w K mg base N x st f cdv A outer s H E0).A.guards = some [] →
      ∀ m ds c Q E, S ds c Q E → XB (bX P w K mg base N x st f cdv A outer s H E0) (mdOf m c H E) (defBody st) ⟨startD N ds, c⟩ (poOf Q)) : CalG P w K mg base x (k + 1) ps S := by
  obtain ⟨f, fd, h1, h2, F, b⟩ := D
  refine ⟨f, fd, h1, h2, fn_G F sc (fun vs H Q E h => ?_) (fun cdv A outer s H vs Q E hr hg h => ?_), b⟩
  · obtain ⟨m, ds, c, _, r, hs⟩ := h
    rw [r.length]
    exact len _ _ _ _ hs
  · exact body_D (X := bX P w K mg base N x st f cdv A outer s H E) rfl (fun m ds c Q' E' _ hs => hbody f cdv A outer s H E hr hg m ds c Q' E' hs) h
end
section
variable {X : Cx} {μ : Md} {Γ : En} {S : SpD} {Q : QE} {k : Nat} {x : Str} {ps : List Str} {p pos apos : Pos} {e o : Expr} {es : List Expr}
/-- f(e, ..) -/
theorem xe_call (C : Cal X.prog X.w X.K X.mg X.base x k ps S) (hr : Room k X.A) (hg : Gl X x) (h : XA X μ (e :: es) Γ (Asks μ S Q)) (hdb : (x == ("__debug__" : Str)) = false := by decide)
    (he : starEach (e :: es) X.env = (false, eval e X.env) :: starEach es X.env := by rfl) (hpl : (backTo pos (starEach es X.env)).any (·.1) = false := by rfl) : XE X μ (.Call (.Name x p) (e :: es) [] pos) Γ Q := by
  obtain ⟨f, fd, h1, h2, F, b⟩ := C
  refine PE.imp pe_u fun σ H q ⟨R, k⟩ => ⟨_, pe_call (E := wD X.K μ σ) F hr hg h1 h2 b .nil pass0' h hdb he hpl, R, fun vs H1 ds Γ1 s1 f1 R1 r1 hs => ?_⟩
  show spD X.K S (vs ++ []) H1 q (wD X.K μ σ)
  rw [List.append_nil]
  exact asks_sp R1 r1 hs fun v H2 d Γ2 s2 f2 R2 r2 hq => k v H2 d Γ2 (s2.trans s1) (f1.trans f2) R2 r2 hq
/-- .. of a def that is run where no repr is under way -/
theorem pe_callG {f : Addr} {fd : FuncData} {sp : Sp} {E : XK} {t : TA} (F : FnG X.prog X.w X.K X.mg X.base k f fd ps sp) (hr : Room k X.A) (gd : X.A.guards = some []) (hg : Gl X x) (hm : X.mg x = some (.ref f)) (hk : PySem.W.keepIn X.K (.ref f) = true) (hb : Binds X.K fd ps [])
    (ha : PA X (e :: es) t) (hdb : (x == ("__debug__" : Str)) = false := by decide) (he : starEach (e :: es) X.env = (false, eval e X.env) :: starEach es X.env := by rfl) (hpl : (backTo pos (starEach es X.env)).any (·.1) = false := by rfl) :
    PE X (.Call (.Name x p) (e :: es) [] pos) (fun σ H Q => t σ H fun vs H1 => sp vs H1 Q E) := by
  refine ⟨fun pins s₀ σ H₀ Q I₀ h => ?_⟩
  refine wpAny_Call_Name_kw (ld_glob I₀ hg hm ?_ hdb)
  refine PySem.W.callWith_K (h₀ := X.base) I₀.ok.mod.kin hk (thn (ha.run pos pins s₀ σ H₀ _ I₀ h) fun us s₁ ⟨vs, H₁, I₁, rv, q⟩ => ⟨I₁.kIn, ?_⟩) he hpl
  have lu : us.length = ps.length := by rw [← rv.length]; exact F.len _ _ _ _ q
  have bd := hb s₁ us I₁.kIn (by rw [List.append_nil]; exact lu)
  rw [List.append_nil] at bd
  refine wpAny_call (codeAny_mono (F.run X.A X.stack s₁ H₁ ⟨us, []⟩ us vs Q E hr gd I₁.env0 bd rv q) fun res s₂ done => ?_)
  match res, done with
  | .ok (.ret u), done => exact I₁.after done
  | .ok .next, done => exact False.elim done
  | .ok .brk, done => exact False.elim done
  | .ok .cont, done => exact False.elim done
  | .error e, done => exact False.elim done
theorem xe_callG (C : CalG X.prog X.w X.K X.mg X.base x k ps S) (hr : Room k X.A) (gd : X.A.guards = some []) (hg : Gl X x) (h : XA X μ (e :: es) Γ (Asks μ S Q)) (hdb : (x == ("__debug__" : Str)) = false := by decide)
    (he : starEach (e :: es) X.env = (false, eval e X.env) :: starEach es X.env := by rfl) (hpl : (backTo pos (starEach es X.env)).any (·.1) = false := by rfl) : XE X μ (.Call (.Name x p) (e :: es) [] pos) Γ Q := by
  obtain ⟨f, fd, h1, h2, F, b⟩ := C
  refine PE.imp pe_u fun σ H q ⟨R, k⟩ => ⟨_, pe_callG (E := wD X.K μ σ) F hr gd hg h1 h2 b h hdb he hpl, R, fun vs H1 ds Γ1 s1 f1 R1 r1 hs => ?_⟩
  exact asks_sp R1 r1 hs fun v H2 d Γ2 s2 f2 R2 r2 hq => k v H2 d Γ2 (s2.trans s1) (f1.trans f2) R2 r2 hq
/-- pure promises, promises with the jar -/
abbrev PSp := List D → (D → Prop) → Prop
def pS (S : PSp) : SpD := fun ds c Q _ => c = [] ∧ S ds fun d => Q d []
def jS (S : PSp) : SpD := fun ds c Q _ => ∃ J ds', ds = .ref J :: ds' ∧ c = [(J, .jar)] ∧ S ds' fun d => Q d [(J, .jar)]
theorem asks_p {S : PSp} {ds : List D} (h : ∀ Qc : D → Prop, (∀ d, Q d Γ → Qc d) → S ds Qc) : Asks μ (pS S) Q ds Γ := ⟨[], Γ.c, rfl, fun Qc Ec kq _ => ⟨rfl, h _ fun d hq => kq d [] hq⟩⟩
theorem asks_j {S : PSp} {J : Addr} {cs : Cs} {ds : List D} (hc : Γ.c = (J, .jar) :: cs) (h : ∀ Qc : D → Prop, (∀ d, Q d Γ → Qc d) → S ds Qc) : Asks μ (jS S) Q (.ref J :: ds) Γ := by
  refine ⟨[(J, .jar)], cs, hc, fun Qc Ec kq _ => ⟨J, ds, rfl, rfl, h _ fun d hq => kq d _ ?_⟩⟩
  obtain ⟨sl, c⟩ := Γ
  have hc : c = (J, .jar) :: cs := hc
  subst hc
  exact hq
end
end Pdl
namespace Pdl
open PySem PySem.Spec L2 PyProof.Rows
section
variable {P : Program} {w : World} {h h' : Heap} {a : Addr} {L : List Key}
theorem goodK_el {l : List (Int × Value)} (g : ∀ e ∈ l, GoodK w e) : ElemsOf (mixKind P w) l := fun e he => by
  obtain ⟨h1, h2⟩ := g e he
  refine ⟨⟨kOf e, h1, h2⟩, ?_⟩
  rcases keyIs_shape h1 with ⟨j, t, _, q⟩ | ⟨x, t, _, q⟩ <;> (rw [q]; rfl)
theorem goodK_mem {l : List (Int × Value)} (g : ∀ e ∈ l, GoodK w e) (k : Key) : k ∈ l.map kOf ↔ ∃ e ∈ l, (mixKind P w).is k e.2 = true := by
  rw [List.mem_map]
  constructor
  · rintro ⟨e, he, q⟩
    exact ⟨e, he, by rw [← q]; exact (g e he).1⟩
  · rintro ⟨e, he, q⟩
    exact ⟨e, he, kOf_is (i := e.1) q⟩
end
section
variable {P : Program} {w : World} {A : Around} {E : Value → Shared → Prop} {s : Shared} {a : Addr} {L : List Key}
theorem setQ_tail {g : Bool → Sem Unit} (hg : ∀ (b : Bool) (s₁ : Shared) (Q' : Unit → Shared → Prop), Q' () s₁ → wpAny (model P w) A (g b) Q' E s₁)
    {o : Obj} {es : Array (Int × Value)} {ep : Nat} {t : SetTable} (ho : s.heap.get? a = some o) (hex : o.ExactSet) (hd : o.data = .set es ep t)
    {es1 : Array (Int × Value)} {t2 : SetTable} {L' : List Key} (g1 : ∀ e ∈ es1.toList, GoodK w e) (nd1 : (es1.toList.map kOf).Nodup) (m1 : ∀ k, k ∈ L' ↔ k ∈ es1.toList.map kOf)
    (hz1 : es1.size ≤ L'.length) (hb1 : es1.size < scanBound) (hf2 : t2.fits es1.size = true) (hr : Ris t2.place.toList) (hl : w.params.followText "set-order" = true ∨ t2.led = true) {wasDummy : Bool} {R : Option Bool → Shared → Prop}
    (hR : ∀ h', Heap.SameBut a s.heap h' → SetQ w h' a L' → R (some true) { s with heap := h' }) :
    wpAny (model P w) A (do
        storeSet a es1 t2
        if (!wasDummy && t2.tooFull) = true then do
            g (relayAll t2 es1 (SetTable.grown es1.size)).2.2
            storeSet a (relayAll t2 es1 (SetTable.grown es1.size)).1 (relayAll t2 es1 (SetTable.grown es1.size)).2.1
            pure (some true)
          else pure (some true)) R E s := by
  refine wpAny_bind (wpAny_storeSet_of ho hd ?_ (fits_of_scanBound hb1))
  have ho1 := store_at (es' := es1) (t' := t2) ho hd
  have sb1 := Heap.SameBut.update s.heap a (Obj.putSet es1 t2)
  split
  · have pm := relayAll_perm t2 es1 (SetTable.grown es1.size)
    have hf3 := relayAll_fits t2 es1 (SetTable.grown es1.size)
    have hr3 := relayAll_ris t2 es1 (SetTable.grown es1.size)
    have hl3 := relayAll_led t2 es1 (SetTable.grown es1.size)
    generalize relayAll t2 es1 (SetTable.grown es1.size) = Z at pm hf3 hr3 hl3 ⊢
    obtain ⟨es2, t3, gave⟩ := Z
    dsimp only at pm hf3 hr3 hl3 ⊢
    have hsz : es2.size = es1.size := by rw [← Array.length_toList, pm.length_eq, Array.length_toList]
    refine wpAny_bind (hg _ _ _ ?_)
    refine wpAny_bind (wpAny_storeSet_of ho1 rfl ?_ (fits_of_scanBound (by rw [hsz]; exact hb1)))
    have ho2 := store_at (es' := es2) (t' := t3) ho1 rfl
    refine wpAny_pure (hR _ (sb1.trans (Heap.SameBut.update _ a _)) ?_)
    exact ⟨_, es2, _, t3, ho2, hex, rfl, fun e he => g1 e (pm.mem_iff.mp he), (pm.map kOf).nodup_iff.mpr nd1, fun k => (m1 k).trans (pm.map kOf).mem_iff.symm, by rw [hsz]; exact hz1, hf3, hr3, hl.imp id fun z => by rw [hl3]; exact z⟩
  · exact wpAny_pure (hR _ sb1 ⟨_, es1, _, t2, ho1, hex, rfl, g1, nd1, m1, hz1, hf2, hr, hl⟩)
theorem setQ_add {k : Key} {v : Value} {Q : Bool → Shared → Prop} (hv : keyIs k v = true) (R : SetQ w s.heap a L) (room : L.length + 1 < scanBound)
    (hQ : ∀ b h', Heap.SameBut a s.heap h' → SetQ w h' a (L ++ [k]) → Q b { s with heap := h' }) :
    wpAny (model P w) A (setAddHashed a v ((mixKind P w).hash k)) Q E s := by
  obtain ⟨o, es, ep, t, ho, hex, hd, g, nd, hm, hz, hf, hr, hl⟩ := R
  have hkey : (mixKind P w).is k v = true := hv
  have hsc : v.scannable = true := by rcases keyIs_shape hv with ⟨j, t, _, q⟩ | ⟨x, t, _, q⟩ <;> (rw [q]; rfl)
  have hel : ElemsOf (mixKind P w) es.toList := goodK_el g
  have hb : es.size < scanBound := by omega
  unfold setAddHashed setAddHashedIn
  refine wpAny_holding (wpAny_bind (wpAny_setState_of ho hd hf ?_))
  dsimp only
  rw [byScan_of hsc hb hel]
  simp only [↓reduceIte]
  unfold setAddByScan
  refine wpAny_bind ?_
  refine wpAny_bind (wpAny_rule ?_)
  refine wpAny_bind (wpAny_setScan_of hkey ho hd hf hel ?_)
  cases hfi : List.findIdx? (fun e => (mixKind P w).is k e.2) es.toList with
  | some j =>
    dsimp only
    obtain ⟨hj, pj, _⟩ := List.findIdx?_eq_some_iff_getElem.mp hfi
    have hin : k ∈ es.toList.map kOf := (goodK_mem (P := P) g k).2 ⟨es.toList[j], List.getElem_mem hj, pj⟩
    refine wpAny_pure (wpAny_pure (hQ _ s.heap (Heap.SameBut.refl a s.heap) ⟨o, es, ep, t, ho, hex, hd, g, nd, fun i => ?_, by rw [List.length_append]; omega, hf, hr, hl⟩))
    rw [List.mem_append, List.mem_singleton, hm i]
    exact ⟨fun z => z.elim id (fun e => e ▸ hin), .inl⟩
  | none =>
    dsimp only
    have hnk : k ∉ es.toList.map kOf := fun z => by
      obtain ⟨e, he, q⟩ := (goodK_mem (P := P) g k).1 z
      have c := List.findIdx?_eq_none_iff.mp hfi e he
      rw [q] at c
      cases c
    have hgw : ∀ (b : Bool) {s₁ : Shared} {Q' : Unit → Shared → Prop}, Q' () s₁ → wpAny (model P w) A (match b with | true => rule "set.scan.the-table-gave-way" | false => pure ()) Q' E s₁ :=
      fun b s₁ Q' q => by cases b <;> first | exact wpAny_pure q | exact wpAny_rule q
    have pm := layNew_perm t es ((mixKind P w).hash k) v
    have hf1 := layNew_fits t es ((mixKind P w).hash k) v
    have hr1 := layNew_ris t es ((mixKind P w).hash k) v hr
    have hl1 := layNew_led t es ((mixKind P w).hash k) v
    generalize layNew t es ((mixKind P w).hash k) v = Z at pm hf1 hr1 hl1 ⊢
    obtain ⟨es1, t1, wasDummy, gave⟩ := Z
    dsimp only at pm hf1 hr1 hl1 ⊢
    rw [Array.toList_push] at pm
    have pc : es1.toList.Perm (((mixKind P w).hash k, v) :: es.toList) := pm.trans (List.perm_append_singleton _ _)
    have kv : kOf ((mixKind P w).hash k, v) = k := kOf_is hv
    have pk : (es1.toList.map kOf).Perm (k :: es.toList.map kOf) := by
      have q := pc.map kOf
      rw [List.map_cons, kv] at q
      exact q
    have g1 : ∀ e ∈ es1.toList, GoodK w e := fun e he => by
      rcases List.mem_cons.mp (pc.mem_iff.mp he) with z | z
      · rw [z]
        exact ⟨by rw [kv]; exact hv, by rw [kv]; rfl⟩
      · exact g e z
    have nd1 : (es1.toList.map kOf).Nodup := pk.nodup_iff.mpr (List.nodup_cons.mpr ⟨hnk, nd⟩)
    have m1 : ∀ i, i ∈ L ++ [k] ↔ i ∈ es1.toList.map kOf := fun i => by
      rw [List.mem_append, List.mem_singleton, hm i, pk.mem_iff, List.mem_cons]
      exact Or.comm
    have hsz : es1.size = es.size + 1 := by rw [← Array.length_toList, pc.length_eq, List.length_cons, Array.length_toList]
    have hz1 : es1.size ≤ (L ++ [k]).length := by rw [List.length_append, hsz]; exact Nat.succ_le_succ hz
    have hb1 : es1.size < scanBound := by omega
    have hled : w.params.followText "set-order" = true ∨ t1.led = true := hl.imp id fun z => by rw [hl1]; exact z
    refine wpAny_bind (hgw _ ?_)
    split
    · refine wpAny_bind ?_
      rw [hashByValue_scannable 8 hsc]
      refine wpAny_pure ?_
      refine setQ_tail ?_ ho hex hd g1 nd1 m1 hz1 hb1 ?_ ?_ ?_ ?_
      · intro b s₁ Q' q; cases b <;> first | exact wpAny_pure q | exact wpAny_rule q
      · first | (split <;> first | exact hf1 | exact SetTable.fits_plain_off hf1) | exact hf1
      · first | (split <;> exact hr1) | exact hr1
      · first | (split <;> exact hled) | exact hled
      · intro h' sb r; dsimp only; exact wpAny_pure (hQ _ h' sb r)
    · refine wpAny_bind (wpAny_pure ?_)
      simp only [↓reduceIte]
      refine setQ_tail ?_ ho hex hd g1 nd1 m1 hz1 hb1 hf1 hr1 hled ?_
      · intro b s₁ Q' q; cases b <;> first | exact wpAny_pure q | exact wpAny_rule q
      · intro h' sb r; dsimp only; exact wpAny_pure (hQ _ h' sb r)
theorem setQ_fresh {h : Heap} {a : Addr} (ho : h.get? a = some { cls := .type "set", dict := none, data := .set #[] 0 (.fresh 0 0 (!w.params.followText "set-order")) }) : SetQ w h a [] :=
  ⟨_, #[], 0, _, ho, ⟨rfl, rfl, rfl⟩, rfl, (fun e he => by simp at he), (by simp), (fun k => by simp), Nat.le_refl _, (by rfl), List.Pairwise.nil, by
    show _ ∨ (!w.params.followText "set-order") = true
    cases w.params.followText "set-order"
    · exact .inr rfl
    · exact .inl rfl⟩
/-- set.update's loop over keys -/
theorem setQ_loop {I : Addr} {fp wr : List Addr} {G : Array GenState → Array GenState → Prop} {n : Nat} {Pv : Nat → Value → Prop} {St : Nat → Shared → Prop} {R : Result → Shared → Prop}
    (W : WalksS P w A.in1 I fp wr G n Pv St) (a : Addr) (hSf : a ∉ fp) (ks : List Key) (hn : n = ks.length) (hfew : ks.length + 1 < scanBound) (hval : ∀ i v, Pv i v → ∃ k, ks[i]? = some k ∧ keyIs k v = true) :
    ∀ (m i : Nat) (s : Shared), n - i = m → i ≤ n → St i s → SetQ w s.heap a (ks.take i) → (∀ s', Moved (a :: wr) G s s' → SetQ w s'.heap a ks → R (.ok (.ret .none)) s') →
      codeAny (model P w) A (.builtin "set.update.loop" ⟨[.ref a, .ref I], []⟩) R s := by
  have hSw : a ∉ wr := fun h => hSf (W.sub _ h)
  have hsub : ∀ b ∈ wr, b ∈ a :: wr := fun b hb => List.mem_cons_of_mem _ hb
  intro m
  induction m with
  | zero =>
    intro i s hk hi hst hS hR
    have hin : i = n := by omega
    subst hin
    refine codeAny_builtin PyProof.Rows.F.entry_set_update_loop ?_
    rw [Around.under_plainId PyProof.Rows.F.plain_set_update_loop _]
    show wpAny _ A.in1 (pyNext (.ref I) >>= _) _ _ s
    refine wpAny_bind (W.done s _ _ hst fun s' hm => ?_)
    show wpAny _ A.in1 (ret Value.none) _ _ s'
    rw [hn, List.take_length] at hS
    exact wpAny_pure (hR s' (hm.mono hsub) (hS.at fun o e => hm.heap a o hSw e))
  | succ m ih =>
    intro i s hk hi hst hS hR
    have hlt : i < n := by omega
    refine codeAny_builtin PyProof.Rows.F.entry_set_update_loop ?_
    rw [Around.under_plainId PyProof.Rows.F.plain_set_update_loop _]
    show wpAny _ A.in1 (pyNext (.ref I) >>= _) _ _ s
    refine wpAny_bind (W.item i s _ _ hlt hst fun v s' hP hst' hm => ?_)
    obtain ⟨k, hki, hkv⟩ := hval i v hP
    have hS' : SetQ w s'.heap a (ks.take i) := hS.at fun o e => hm.heap a o hSw e
    show wpAny _ A.in1 (holding [v] (setAdd a v) >>= _) _ _ s'
    refine wpAny_bind (wpAny_holding ?_)
    unfold setAdd
    refine wpAny_holding ?_
    refine wpAny_bind ((mixKind P w).pyHash (k := k) hkv ?_)
    refine setQ_add (s := { s' with toks := s'.toks + 1 }) hkv hS' (by rw [List.length_take]; omega) fun b h' hsb hS2 => ?_
    have et : ks.take i ++ [k] = ks.take (i + 1) := by rw [List.take_add_one, hki]; rfl
    rw [et] at hS2
    refine wpAny_pure ⟨plainId_quiet PyProof.Rows.F.plain_set_update_loop _, ih (i + 1) _ (by omega) hlt (W.frame _ s' _ _ hst' (Nat.le_succ _) fun b hb o e => ?_) hS2 fun s'' hm'' hS'' => ?_⟩
    · rw [hsb.2 b (fun h : b = a => hSf (by rw [← h]; exact hb))]; exact e
    · refine hR s'' (Moved.trans W.gtrans ((hm.mono hsub).then_heap (Nat.le_succ _) fun b o hb e => ?_) hm'') hS''
      rw [hsb.2 b (fun h : b = a => hb (by rw [h]; exact List.mem_cons_self))]; exact e
end
end Pdl
namespace Pdl
open PySem PySem.Spec L2 PyProof.Rows
section
variable {P : Program} {w : World} {A : Around} {E : Value → Shared → Prop} {s : Shared}
abbrev freshSet (w : World) : Obj := { cls := .type "set", dict := none, data := .set #[] 0 (.fresh 0 0 (!w.params.followText "set-order")) }
/-- set(x), by what its update does -/
theorem call_set_by {x : Value} {ks : List Key} {Q : Value → Shared → Prop}
    (hup : ∀ {A' : Around} {R : Unit → Shared → Prop}, A'.handled = A.handled → (∀ s', (∀ b o, s.heap.get? b = some o → s'.heap.get? b = some o) → s'.gens = s.gens → s'.drawn = s.drawn → s'.os = s.os → SetQ w s'.heap s.heap.objs.size ks → R () s') →
      wpAny (model P w) A' (Builtin.Frozenset.updateFrom "set.__init__" s.heap.objs.size x) R E { s with heap := s.heap.push (freshSet w) })
    (h : ∀ (h' : Heap) (tk : Nat), SetQ w h' s.heap.objs.size ks → (∀ b o, s.heap.get? b = some o → h'.get? b = some o) → Q (.ref s.heap.objs.size) { s with heap := h', toks := tk }) :
    wpAny (model P w) A (call (.type "set") [x]) Q E s := by
  obtain ⟨c, tl, hmro⟩ := PySem.F.called_set.mro
  have hmade := PySem.F.called_set.made
  have hsub := PySem.F.called_set.sub
  refine wpAny_call (codeAny_of_tree ?_)
  show wpAny _ _ (callAny (.type "set") _) _ _ _
  refine wpAny_pure ⟨Code.quiet_builtin _ (by decide +kernel), codeAny_builtin PySem.F.entry_type_call ?_⟩
  rw [Around.under_plain (weight_type_call_type "set" [x] []) rfl]
  have h1 := PySem.F.called_set.notType
  have h2 := PySem.F.called_set.canCreate
  have hct := PySem.F.typeCall_set_1 x
  repeat (any_goals (first | assumption | wp_step))
  refine codeAny_mono (code_set_led1 x (E := E) (Q₁ := fun obj s₁ => obj = .ref s.heap.objs.size ∧ s₁ = { s with heap := s.heap.push (freshSet w) }) ⟨rfl, rfl⟩) fun r s₁ hr => ?_
  cases r with
  | error e => exact hr
  | ok fl =>
    cases fl with
    | ret obj =>
      obtain ⟨rfl, rfl⟩ := hr
      have hS : (s.heap.push (freshSet w)).get? s.heap.objs.size = some (freshSet w) := Heap.get?_push_size _ rfl
      have hT : Shared.TypeIs { s with heap := s.heap.push (freshSet w) } (.ref s.heap.objs.size) "set" := ⟨_, hS, rfl⟩
      have hli := PySem.F.called_set.init.lookup
      have hbi := PySem.F.called_set.init.bind (.ref s.heap.objs.size)
      repeat (any_goals (first | assumption | wp_step))
      refine codeAny_mono (codeAny_call_builtin (R := wants (fun r s₂ => r = .none ∧ ∃ h' tk, s₂ = { s with heap := h', toks := tk } ∧ SetQ w h' s.heap.objs.size ks ∧ (∀ b o, s.heap.get? b = some o → h'.get? b = some o)) E) PySem.F.called_set.init.plain PySem.F.entry_set_init (check_set_init_1 hT ?_)) fun r₂ s₂ hr₂ => ?_
      · unfold Builtin.«set.__init__» noKeywords
        generalize hPI : Builtin.Frozenset.updateFrom = PI
        wp_walk
        subst hPI
        refine hup ?_ fun s' hk hg hd ho hq => ?_
        · simp
        · obtain ⟨h', g', d', tk', os'⟩ := s'
          obtain rfl : g' = s.gens := hg
          obtain rfl : d' = s.drawn := hd
          obtain rfl : os' = s.os := ho
          show wpAny _ _ (ret Value.none) _ _ _
          exact wpAny_pure ⟨rfl, h', tk', rfl, hq, hk⟩
      · cases r₂ with
        | error e => exact hr₂
        | ok fl₂ =>
          cases fl₂ with
          | ret r =>
            obtain ⟨rfl, h', tk, rfl, hS', hk'⟩ := hr₂
            repeat (any_goals (first | assumption | wp_step))
            exact h _ _ hS' hk'
          | _ => exact hr₂.elim
    | _ => exact hr.elim
end
end Pdl
namespace Pdl
open PySem PySem.Spec L2 PyProof.Rows
section
variable {P : Program} {w : World} {A : Around} {E : Value → Shared → Prop} {s : Shared}
/-- the loop, behind the iterator -/
theorem setQ_run {A : Around} {I : Addr} {fp wr : List Addr} {n : Nat} {Pv : Nat → Value → Prop} {St : Nat → Heap → Prop} {s0 s2 : Shared} {ks : List Key} {R : Unit → Shared → Prop} {E : Value → Shared → Prop}
    (W : Walks P w A.in1 I fp wr n Pv St) (hn : n = ks.length) (hfew : ks.length + 1 < scanBound) (hval : ∀ i v, Pv i v → ∃ k, ks[i]? = some k ∧ keyIs k v = true) (hst : St 0 s2.heap) (hf : s0.heap.objs.size ∉ fp) (hwr : ∀ b o, s0.heap.get? b = some o → b ∉ wr)
    (hq : SetQ w s2.heap s0.heap.objs.size []) (hk0 : ∀ b o, s0.heap.get? b = some o → s2.heap.get? b = some o) (hg : s2.gens = s0.gens) (hd : s2.drawn = s0.drawn) (ho : s2.os = s0.os)
    (hR : ∀ s', (∀ b o, s0.heap.get? b = some o → s'.heap.get? b = some o) → s'.gens = s0.gens → s'.drawn = s0.drawn → s'.os = s0.os → SetQ w s'.heap s0.heap.objs.size ks → R () s') :
    wpAny (model P w) A (runValue (.builtin "set.update.loop" ⟨[.ref s0.heap.objs.size, .ref I], []⟩) >>= fun _ => pure ()) R E s2 := by
  refine wpAny_bind (wpAny_runValue ?_)
  refine setQ_loop W.toS s0.heap.objs.size hf ks hn hfew hval (n - 0) 0 s2 rfl (Nat.zero_le _) hst (by rw [List.take_zero]; exact hq) fun s' hm hS' => ?_
  refine wpAny_pure (hR s' (fun b o e => hm.heap b o ?_ (hk0 b o e)) (hm.gens.trans hg) (hm.drawn.trans hd) (hm.os.trans ho) hS')
  intro hb
  rcases List.mem_cons.mp hb with z | z
  · exact absurd (Heap.lt_size e) (by rw [z]; exact Nat.lt_irrefl _)
  · exact hwr b o e z
theorem up_list {l : Addr} {items : Array Value} {ks : List Key} (hh : A.handled = none) (hl : s.heap.IsList l items) (hv : ∀ (i : Nat) (v : Value), items[i]? = some v → ∃ k, ks[i]? = some k ∧ keyIs k v = true) (hz : items.size = ks.length) (hfew : ks.length + 1 < scanBound)
    {A' : Around} {R : Unit → Shared → Prop} (hA : A'.handled = A.handled)
    (hR : ∀ s', (∀ b o, s.heap.get? b = some o → s'.heap.get? b = some o) → s'.gens = s.gens → s'.drawn = s.drawn → s'.os = s.os → SetQ w s'.heap s.heap.objs.size ks → R () s') :
    wpAny (model P w) A' (Builtin.Frozenset.updateFrom "set.__init__" s.heap.objs.size (.ref l)) R E { s with heap := s.heap.push (freshSet w) } := by
  obtain ⟨ol, hol, hcl, nl, hdl⟩ := hl
  obtain ⟨ocls, odict, odata, oslots⟩ := ol
  simp only at hcl hdl
  subst hcl; subst hdl
  have hol' : (s.heap.push (freshSet w)).get? l = some { cls := .type "list", dict := odict, data := .seq items nl, slots := oslots } := Heap.get?_push_of_some _ hol
  have hsls := PySem.F.sub_list_set
  have hslf := PySem.F.sub_list_frozenset
  have hne : (Value.type "list" == Value.type "dict") = false := by decide
  have hl1 : (s.heap.push (freshSet w)).IsList l items := ⟨_, hol', rfl, nl, rfl⟩
  have hlS : l < s.heap.objs.size := Heap.lt_size hol
  have hz1 : (s.heap.push (freshSet w)).objs.size = s.heap.objs.size + 1 := Heap.size_push ..
  unfold Builtin.Frozenset.updateFrom
  generalize hPI : pyIter = PI
  generalize hRV : runValue = RV
  wp_walk
  subst hPI
  subst hRV
  refine wpAny_pyIter_list hl1 ?_
  refine setQ_run (s0 := s) (Walks.list (by simp [hA, hh]) (s.heap.push (freshSet w)).objs.size l (by rw [hz1]; exact Nat.ne_of_lt (Nat.lt_succ_of_lt hlS)) items) hz hfew hv ⟨⟨_, Heap.get?_push_size _ rfl, rfl, rfl⟩, hl1.push _⟩ ?_ ?_ ?_ ?_ rfl rfl rfl hR
  · rw [hz1]; simp only [List.mem_cons, List.not_mem_nil, or_false, not_or]
    exact ⟨Nat.ne_of_lt (Nat.lt_succ_self _), Nat.ne_of_gt hlS⟩
  · intro b o e hb
    have hb' : b = s.heap.objs.size + 1 := (List.mem_singleton.mp hb).trans hz1
    exact absurd (Heap.lt_size e) (by rw [hb']; exact Nat.not_lt_of_le (Nat.le_succ _))
  · exact setQ_fresh (Heap.get?_push_of_some _ (Heap.get?_push_size _ rfl))
  · exact fun b o e => Heap.get?_push_of_some _ (Heap.get?_push_of_some _ e)
theorem up_tuple {l : Addr} {items : Array Value} {ks : List Key} (hh : A.handled = none) (hl : s.heap.IsTuple l items) (hv : ∀ (i : Nat) (v : Value), items[i]? = some v → ∃ k, ks[i]? = some k ∧ keyIs k v = true) (hz : items.size = ks.length) (hfew : ks.length + 1 < scanBound)
    {A' : Around} {R : Unit → Shared → Prop} (hA : A'.handled = A.handled)
    (hR : ∀ s', (∀ b o, s.heap.get? b = some o → s'.heap.get? b = some o) → s'.gens = s.gens → s'.drawn = s.drawn → s'.os = s.os → SetQ w s'.heap s.heap.objs.size ks → R () s') :
    wpAny (model P w) A' (Builtin.Frozenset.updateFrom "set.__init__" s.heap.objs.size (.ref l)) R E { s with heap := s.heap.push (freshSet w) } := by
  obtain ⟨ol, hol, hcl, nl, hdl⟩ := hl
  obtain ⟨ocls, odict, odata, oslots⟩ := ol
  simp only at hcl hdl
  subst hcl; subst hdl
  have hol' : (s.heap.push (freshSet w)).get? l = some { cls := .type "tuple", dict := odict, data := .seq items nl, slots := oslots } := Heap.get?_push_of_some _ hol
  have hsls := PySem.F.sub_tuple_set
  have hslf := PySem.F.sub_tuple_frozenset
  have hne : (Value.type "tuple" == Value.type "dict") = false := by decide
  have hl1 : (s.heap.push (freshSet w)).IsTuple l items := ⟨_, hol', rfl, nl, rfl⟩
  have hlS : l < s.heap.objs.size := Heap.lt_size hol
  have hz1 : (s.heap.push (freshSet w)).objs.size = s.heap.objs.size + 1 := Heap.size_push ..
  unfold Builtin.Frozenset.updateFrom
  generalize hPI : pyIter = PI
  generalize hRV : runValue = RV
  wp_walk
  subst hPI
  subst hRV
  refine wpAny_pyIter_tuple hl1 ?_
  refine setQ_run (s0 := s) (Walks.tuple (by simp [hA, hh]) (s.heap.push (freshSet w)).objs.size l (by rw [hz1]; exact Nat.ne_of_lt (Nat.lt_succ_of_lt hlS)) items) hz hfew hv ⟨⟨_, Heap.get?_push_size _ rfl, rfl, rfl⟩, hl1.push _⟩ ?_ ?_ ?_ ?_ rfl rfl rfl hR
  · rw [hz1]; simp only [List.mem_cons, List.not_mem_nil, or_false, not_or]
    exact ⟨Nat.ne_of_lt (Nat.lt_succ_self _), Nat.ne_of_gt hlS⟩
  · intro b o e hb
    have hb' : b = s.heap.objs.size + 1 := (List.mem_singleton.mp hb).trans hz1
    exact absurd (Heap.lt_size e) (by rw [hb']; exact Nat.not_lt_of_le (Nat.le_succ _))
  · exact setQ_fresh (Heap.get?_push_of_some _ (Heap.get?_push_size _ rfl))
  · exact fun b o e => Heap.get?_push_of_some _ (Heap.get?_push_of_some _ e)
theorem up_str {x : Str} {t : Tok} {ks : List Key} (hh : A.handled = none) (hks : ks = x.cps.toList.map fun c => Sum.inr (S [c])) (hfew : ks.length + 1 < scanBound)
    {A' : Around} {R : Unit → Shared → Prop} (hA : A'.handled = A.handled)
    (hR : ∀ s', (∀ b o, s.heap.get? b = some o → s'.heap.get? b = some o) → s'.gens = s.gens → s'.drawn = s.drawn → s'.os = s.os → SetQ w s'.heap s.heap.objs.size ks → R () s') :
    wpAny (model P w) A' (Builtin.Frozenset.updateFrom "set.__init__" s.heap.objs.size (.str x t)) R E { s with heap := s.heap.push (freshSet w) } := by
  have hne : (Value.type "str" == Value.type "dict") = false := by decide
  have hz1 : (s.heap.push (freshSet w)).objs.size = s.heap.objs.size + 1 := Heap.size_push ..
  unfold Builtin.Frozenset.updateFrom
  refine wpAny_bind (L2.Fz.anySet ?_)
  generalize hPI : pyIter = PI
  generalize hRV : runValue = RV
  wp_walk
  subst hPI
  subst hRV
  refine wpAny_pyIter_str fun o St W st => ?_
  refine setQ_run (s0 := s) (W _ (by simp [hA, hh])) (by rw [hks]; simp) hfew (fun i v ⟨c, u, hc, hv⟩ => ?_) st ?_ ?_ ?_ ?_ rfl rfl rfl hR
  · refine ⟨Sum.inr (S [c]), ?_, by rw [hv]; exact keyIs_str _ _⟩
    rw [hks, List.getElem?_map, Array.getElem?_toList, hc]
    rfl
  · rw [hz1]; simp only [List.mem_cons, List.not_mem_nil, or_false]
    exact Nat.ne_of_lt (Nat.lt_succ_self _)
  · intro b o e hb
    have hb' : b = s.heap.objs.size + 1 := (List.mem_singleton.mp hb).trans hz1
    exact absurd (Heap.lt_size e) (by rw [hb']; exact Nat.not_lt_of_le (Nat.le_succ _))
  · exact setQ_fresh (Heap.get?_push_of_some _ (Heap.get?_push_size _ rfl))
  · exact fun b o e => Heap.get?_push_of_some _ (Heap.get?_push_of_some _ e)
end
end Pdl
namespace Pdl
open PySem PySem.Spec L2 PyProof.Rows PySem.W
mutual
theorem reads_lt {h : Heap} : ∀ {v : Value} {d : PyData} {as : List Addr}, Reads h v d as → ∀ a ∈ as, a < h.objs.size
  | _, _, _, .none => fun _ h => nomatch h
  | _, _, _, .bool _ => fun _ h => nomatch h
  | _, _, _, .int _ _ => fun _ h => nomatch h
  | _, _, _, .str _ _ => fun _ h => nomatch h
  | _, _, _, .list h1 _ _ r => fun b hb => by
    rcases List.mem_cons.mp hb with z | z
    · rw [z]; exact Heap.lt_size h1
    · exact readsAll_lt r b z
  | _, _, _, .tuple _ _ _ r => fun b hb => readsAll_lt r b hb
  | _, _, _, .dict h1 _ _ r r' => fun b hb => by
    rcases List.mem_append.mp hb with z | z
    · rcases List.mem_cons.mp z with z | z
      · rw [z]; exact Heap.lt_size h1
      · exact readsAll_lt r b z
    · exact readsAll_lt r' b z
theorem readsAll_lt {h : Heap} : ∀ {v : List Value} {d : List PyData} {as : List Addr}, ReadsAll h v d as → ∀ a ∈ as, a < h.objs.size
  | _, _, _, .nil => fun _ h => nomatch h
  | _, _, _, .cons r1 r2 => fun b hb => by
    rcases List.mem_append.mp hb with z | z
    · exact reads_lt r1 b z
    · exact readsAll_lt r2 b z
end
section
variable {P : Program} {w : World} {A : Around} {E : Value → Shared → Prop} {s : Shared} {β : Type} {R : Value → β → Prop} {enc : β → PyData}
/-- sorted(x), by what x yields -/
theorem sorted_by {x : Value} {Q : Value → Shared → Prop}
    (hc : wpAny (model P w) A.in1 (collect x) (fun vs s1 => ∃ bs : List β, EachIs R vs bs ∧ EachIs (fun v b => ∃ as, Reads s1.heap v (enc b) as) vs bs ∧ AllAlike (bs.map enc) ∧ Sortable (bs.map enc) ∧ bs.length ≤ sizeLine ∧ (∀ b, b ∈ bs → A.in1.units + 1 + (enc b).depth < cLine) ∧
      ∀ h' p (out : List Value) (c : Nat), (∀ b o, s1.heap.get? b = some o → h'.get? b = some o) → s1.heap.objs.size ≤ p → h'.get? p = some (seqObj "list" out.toArray c) → EachIs R out (bs.mergeSort (dataLe false enc)) → Q (.ref p) { s1 with heap := h' }) E s) :
    wpAny (model P w) A (call (.builtin "sorted") [x]) Q E s := by
  refine Calls.call_function_entry kind_sorted plain_sorted entry_sorted (args_sorted1 _) ?_
  unfold Builtin.«sorted»
  refine wpAny_bind (m := checkCount "sorted" 1 1 _) (wpAny_pure ?_)
  refine wpAny_bind (wpAny_mono hc (fun vs s1 hq => ?_) fun _ _ z => z)
  obtain ⟨bs, e, er, hal, hk, hL, hu, hQ⟩ := hq
  refine wpAny_bind (wpAny_newList ?_ (by rw [e.length]; exact hL))
  have hoL : (s1.heap.push (seqObj "list" vs.toArray 0)).get? s1.heap.objs.size = some (seqObj "list" vs.toArray 0) := Heap.get?_push_size _ rfl
  refine wpAny_bind (wpAny_holding (list_sort_data (s := { s1 with heap := s1.heap.push (seqObj "list" vs.toArray 0) }) hoL e (er.mono fun v b ⟨as, r⟩ => ⟨as, Reads.keeps (fun _ _ q => Heap.get?_push_of_some _ q) r, fun hm => absurd (reads_lt r _ hm) (Nat.lt_irrefl _)⟩) hal hk hL hu fun out hlen hout => ?_))
  obtain ⟨c, hc'⟩ := sortedHeap_at (vs := vs) (out := out.toArray) hoL
  refine wpAny_pure ⟨_, rfl, hQ _ s1.heap.objs.size out c (fun b u q => ?_) (Nat.le_refl _) hc' hout⟩
  have hlt := Heap.lt_size q
  rw [sortedHeap_old (Nat.ne_of_lt hlt) (by rw [size_push']; exact Nat.lt_succ_of_lt hlt)]
  exact Heap.get?_push_of_some _ q
end
end Pdl
namespace Pdl
open PySem PySem.Spec L2 PyProof.Rows PySem.W
theorem toPyL_map : ∀ ds : List D, toPyL ds = ds.map toPy
  | [] => rfl
  | d :: ds => by show toPy d :: toPyL ds = _; rw [toPyL_map ds]; rfl
theorem RpA.mem {K : PySem.W.Frag} {G : Hp} : ∀ {vs : List V} {ds : List D}, RpA K G vs ds → ∀ p ∈ vs.zip ds, Rp K G p.1 p.2
  | _, _, .nil => fun p hp => nomatch hp
  | _, _, .cons h t => fun p hp => by
    rcases List.mem_cons.mp hp with z | z
    · rw [z]; exact h
    · exact RpA.mem t p z
theorem rpA_of {K : PySem.W.Frag} {G : Hp} : ∀ (ps : List (V × D)), (∀ p ∈ ps, Rp K G p.1 p.2) → RpA K G (ps.map (·.1)) (ps.map (·.2))
  | [], _ => .nil
  | p :: ps, h => .cons (h p List.mem_cons_self) (rpA_of ps fun q hq => h q (List.mem_cons_of_mem _ hq))
theorem each_vals : ∀ {vs : List Value} {ps : List (V × D)}, EachIs (fun v (b : V × D) => RelV b.1 v) vs ps → Vals (ps.map (·.1)) vs
  | _, _, .nil => .nil
  | _, _, .cons h t => .cons h (each_vals t)
theorem vals_each : ∀ {vs : List Value} {ws : List V} {ds : List D}, Vals ws vs → ws.length = ds.length → EachIs (fun v (b : V × D) => RelV b.1 v) vs (ws.zip ds)
  | _, _, [], .nil, _ => .nil
  | _, _, d :: ds, .cons h t, e => .cons h (vals_each t (by simpa using e))
theorem zip_enc : ∀ {ws : List V} {ds : List D}, ws.length = ds.length → (ws.zip ds).map (fun b => toPy b.2) = toPyL ds
  | [], [], _ => rfl
  | w :: ws, d :: ds, e => by
    show toPy d :: (ws.zip ds).map (fun b => toPy b.2) = toPy d :: toPyL ds
    rw [zip_enc (by simpa using e)]
theorem zip_snd : ∀ {ws : List V} {ds : List D}, ws.length = ds.length → (ws.zip ds).map (·.2) = ds
  | [], [], _ => rfl
  | w :: ws, d :: ds, e => by
    show d :: (ws.zip ds).map (·.2) = d :: ds
    rw [zip_snd (by simpa using e)]
/-- what may be sorted -/
structure SortOk (ds : List D) : Prop where
  py : isPyL ds = true
  alike : AllAlike (toPyL ds)
  able : Sortable (toPyL ds)
  deep : ∀ d ∈ ds, (toPy d).depth ≤ 50
  len : ds.length ≤ 100000
def srtD (ds : List D) : List D := ds.mergeSort (dataLe false toPy)
section
variable {X : Cx} {μ : Md} {Γ : En} {Q : QE} {pins : List (Addr × Obj)} {σ : L2.St} {H : Hp} {s : Shared}
/-- behind the collecting -/
theorem sorted_end {ws : List V} {ds : List D} {m : Addr → Bool} {q : VK} {vs : List Value} {s1 : Shared} (I1 : Inv X pins σ H s1) (hu : X.A.units + 64 < cLine) (ok : SortOk ds) (hm : ∀ a, m a = true → ∃ o, H a = some o ∧ nT o = true) (r : RpA X.K (hid m H) ws ds) (rv : Vals ws vs)
    (k : ∀ v H', Sub H H' → Rp X.K (hid m H') v (.lst (srtD ds)) → q v H') :
    ∃ bs : List (V × D), EachIs (fun v b => RelV b.1 v) vs bs ∧ EachIs (fun v b => ∃ as, Reads s1.heap v (toPy b.2) as) vs bs ∧ AllAlike (bs.map fun b => toPy b.2) ∧ Sortable (bs.map fun b => toPy b.2) ∧ bs.length ≤ sizeLine ∧ (∀ b, b ∈ bs → X.A.in1.units + 1 + (toPy b.2).depth < cLine) ∧
      ∀ h' p (out : List Value) (c : Nat), (∀ b o, s1.heap.get? b = some o → h'.get? b = some o) → s1.heap.objs.size ≤ p → h'.get? p = some (seqObj "list" out.toArray c) → EachIs (fun v b => RelV b.1 v) out (bs.mergeSort (dataLe false fun b => toPy b.2)) → EP X pins σ q (.ref p) { s1 with heap := h' } := by
  have hl := r.length
  have hlen : (ws.zip ds).length = ds.length := by rw [List.length_zip, hl, Nat.min_self]
  obtain ⟨as, hr⟩ := Dp.readsAll I1 (toPyL ds) ws vs ((r.mono (hid_sub m H)).dp ok.py) rv
  have hz := zip_enc hl
  refine ⟨ws.zip ds, vals_each rv hl, readsAll_each (fun b : V × D => toPy b.2) (by rw [hz]; exact hr), by rw [hz]; exact ok.alike, by rw [hz]; exact ok.able, by rw [hlen]; exact Nat.le_trans ok.len (by decide), fun b hb => ?_, fun h' p out c hk hp ho he => ?_⟩
  · have hd := ok.deep b.2 (by rw [← zip_snd hl]; exact List.mem_map_of_mem hb)
    show X.A.units + 1 + 1 + _ < _
    omega
  · have hps : ∀ b ∈ (ws.zip ds).mergeSort (dataLe false fun b => toPy b.2), Rp X.K (hid m H) b.1 b.2 := fun b hb => r.mem b ((List.mergeSort_perm _ _).mem_iff.mp hb)
    have hvals := each_vals he
    have hszL : ((ws.zip ds).mergeSort (dataLe false fun b => toPy b.2)).length ≤ 100000 := by rw [List.length_mergeSort, hlen]; exact ok.len
    have hfr : H p = none := I1.hok.fresh hp
    have es2 : ((ws.zip ds).mergeSort (dataLe false fun b => toPy b.2)).map (·.2) = srtD ds := by
      have z := sort_maps (r := dataLe false fun b : V × D => toPy b.2) (s := dataLe false toPy) (fun b : V × D => b.2) (l := ws.zip ds) (fun _ _ _ _ => rfl)
      rw [zip_snd hl] at z
      exact z
    have hr2 := rpA_of _ hps
    rw [es2] at hr2
    refine ⟨.ref p, upd H p (.lst (((ws.zip ds).mergeSort (dataLe false fun b => toPy b.2)).map (·.1))), I1.laid (t' := s1.toks) hk hp ⟨by rw [List.length_map]; exact Nat.le_trans hszL (by decide), out, c, hvals, ho⟩, rfl, k _ _ (sub_upd hfr) (.lst (.of (hid_upd (fresh_m hm hfr))) (hr2.mono (sub_hid (sub_upd hfr))))⟩
theorem cd_sorted {d : D} {ds : List D} (hc : X.calm = true) (hu : X.A.units + 64 < cLine) (hi : Items d ds) (ok : SortOk ds) : CallD X (.builtin "sorted") [d] (.lst (srtD ds)) := fun pins s σ H vs us q I rv ⟨m, hm, h1, k⟩ => by
  obtain ⟨v, rfl, r⟩ := h1.one
  obtain ⟨u, rfl, ru⟩ := rv.one
  refine sorted_by (R := fun v (b : V × D) => RelV b.1 v) (enc := fun b => toPy b.2) ?_
  cases r with
  | lst s1 r1 =>
    have hi : ds = _ := hi
    subst hi
    cases ru
    obtain ⟨its, rw', ⟨o, n, ho, hcl, _, hd⟩, hz⟩ := I.list ((hid_sub m H).sqL s1)
    refine wpAny_collect_seq _ (.inl rfl) ho hcl hd (fun h' hk => ?_) (by rw [List.size_toArray, ← rw'.length]; exact hz)
    exact sorted_end (I.kept (t' := s.toks) hk) hu ok hm r1 (by simpa using rw') k
  | tup s1 r1 =>
    have hi : ds = _ := hi
    subst hi
    cases ru
    obtain ⟨its, rw', ⟨o, ho, hcl, n, hd⟩, hz⟩ := I.tuple ((hid_sub m H).sqT s1.sq)
    refine wpAny_collect_seq _ (.inr rfl) ho hcl hd (fun h' hk => ?_) (by rw [List.size_toArray, ← rw'.length]; exact hz)
    exact sorted_end (I.kept (t' := s.toks) hk) hu ok hm r1 (by simpa using rw') k
  | str z =>
    obtain ⟨t, rfl⟩ := ru
    have hi : ds = z.cps.toList.map fun c => .str (S [c]) := hi
    subst hi
    have hz : z.cps.size ≤ 100000 := by have := ok.len; simpa using this
    refine wpAny_collect_str (A := X.A.in1) (I.ok.hd hc) z t (fun s' acc hk hg hd ho hit => ?_) (Nat.le_trans hz (by decide))
    obtain ⟨h', g', d', tk', os'⟩ := s'
    obtain rfl : g' = s.gens := hg
    obtain rfl : d' = s.drawn := hd
    obtain rfl : os' = s.os := ho
    have hws : RpA X.K (hid m H) (z.cps.toList.map fun c => V.str (S [c])) (z.cps.toList.map fun c => D.str (S [c])) := by
      generalize z.cps.toList = l
      induction l with
      | nil => exact .nil
      | cons c l ih => exact .cons (.str _) ih
    refine sorted_end (I.kept (t' := tk') hk) hu ok hm hws ?_ k
    have hsz : acc.size = z.cps.size := hit.1
    have hat : ∀ i v, acc[i]? = some v → SignAt z i v := hit.2
    have gen : ∀ (l : List Nat) (as : List Value) (j : Nat), as.length = l.length → (∀ (i : Nat) (v : Value), as[i]? = some v → ∃ c u, l[i]? = some c ∧ v = Value.str ⟨#[c]⟩ u) → Vals (l.map fun c => V.str (S [c])) as := by
      intro l
      induction l with
      | nil => intro as j hl _; cases as with | nil => exact .nil | cons _ _ => simp at hl
      | cons c l ih =>
        intro as j hl ha
        cases as with
        | nil => simp at hl
        | cons a as =>
          obtain ⟨c', u, hc', hv⟩ := ha 0 a rfl
          cases hc'
          exact .cons ⟨u, hv⟩ (ih as j (by simpa using hl) fun i v hi => ha (i + 1) v (by simpa using hi))
    refine gen z.cps.toList acc.toList 0 (by simp [hsz]) fun i v hi => ?_
    obtain ⟨c, u, hc', hv⟩ := hat i v (by rw [← Array.getElem?_toList]; exact hi)
    exact ⟨c, u, by rw [Array.getElem?_toList]; exact hc', hv⟩
  | non => exact hi.elim
  | bl _ => exact hi.elim
  | int _ => exact hi.elim
  | ty _ => exact hi.elim
  | ref _ => exact hi.elim
  | dct _ _ => exact hi.elim
  | ins _ _ => exact hi.elim
  | exc0 _ => exact hi.elim
  | exc1 _ _ _ => exact hi.elim
  | set _ => exact hi.elim
  | dcT _ _ => exact hi.elim
  | dcL _ _ => exact hi.elim
  | tupx s1 r1 =>
    have hi : ds = _ := hi
    subst hi
    cases ru
    obtain ⟨its, rw', ⟨o, ho, hcl, n, hd⟩, hz⟩ := I.tuple ((hid_sub m H).sqT s1)
    refine wpAny_collect_seq _ (.inr rfl) ho hcl hd (fun h' hk => ?_) (by rw [List.size_toArray, ← rw'.length]; exact hz)
    exact sorted_end (I.kept (t' := s.toks) hk) hu ok hm r1 (by simpa using rw') k
end
end Pdl
namespace Pdl
open PySem PySem.Spec L2 PyProof.Rows PySem.W
def leL (a b : List Nat) : Bool := decide (a ≤ b)
theorem leL_trans (a b c : List Nat) (h1 : leL a b = true) (h2 : leL b c = true) : leL a c = true := by
  simp only [leL, decide_eq_true_eq] at *
  exact List.le_trans h1 h2
theorem leL_total (a b : List Nat) : (leL a b || leL b a) = true := by
  simp only [leL, Bool.or_eq_true, decide_eq_true_eq]
  exact List.le_total a b
theorem leL_anti {a b : List Nat} (h1 : leL a b = true) (h2 : leL b a = true) : a = b := by
  simp only [leL, decide_eq_true_eq] at *
  exact List.le_antisymm h1 h2
def srt (ls : List (List Nat)) : List (List Nat) := ls.mergeSort leL
theorem srt_perm (ls : List (List Nat)) : (srt ls).Perm ls := List.mergeSort_perm _ _
theorem srt_sorted (ls : List (List Nat)) : (srt ls).Pairwise (fun a b => leL a b = true) := List.pairwise_mergeSort leL_trans leL_total ls
theorem sorted_eq {l m : List (List Nat)} (h1 : l.Pairwise (fun a b => leL a b = true)) (h2 : m.Pairwise (fun a b => leL a b = true)) (p : l.Perm m) : l = m :=
  List.Perm.eq_of_pairwise (fun a b _ _ x y => leL_anti x y) h1 h2 p
theorem srt_eq {l m : List (List Nat)} (h1 : m.Pairwise (fun a b => leL a b = true)) (p : m.Perm l) : srt l = m := sorted_eq (srt_sorted l) h1 ((srt_perm l).trans p.symm)
theorem nodup_ed {α : Type} [BEq α] [LawfulBEq α] : ∀ (n : Nat) (l : List α), l.length ≤ n → l.eraseDups.Nodup
  | _, [], _ => by simp
  | 0, a :: l, h => by simp at h
  | n + 1, a :: l, h => by
    rw [List.eraseDups_cons, List.nodup_cons]
    refine ⟨fun hm => ?_, nodup_ed n _ (Nat.le_trans (List.length_filter_le _ _) (by simpa using h))⟩
    rw [List.mem_eraseDups, List.mem_filter] at hm
    simp at hm
theorem ed_nodup {α : Type} [BEq α] [LawfulBEq α] (l : List α) : l.eraseDups.Nodup := nodup_ed l.length l (Nat.le_refl _)
/-- the unlike ones, in order -/
def usL (ls : List (List Nat)) : List (List Nat) := srt ls.eraseDups
theorem usL_eq {ls m : List (List Nat)} (h1 : m.Pairwise (fun a b => leL a b = true)) (h2 : m.Nodup) (h3 : ∀ x, x ∈ m ↔ x ∈ ls) : usL ls = m := by
  refine srt_eq h1 ((List.perm_ext_iff_of_nodup h2 (ed_nodup _)).mpr fun x => ?_)
  rw [h3, List.mem_eraseDups]
theorem dataLe_S (k : List Nat → Str) (hk : ∀ l, (k l).cps.toList = l) : dataLe false (fun l => PyData.str (k l)) = leL := by
  rw [dataLe_str]
  funext a b
  rw [hk, hk]
  rfl
theorem srtD_SL (ls : List (List Nat)) : srtD (SL ls) = SL (srt ls) := by
  unfold srtD SL srt
  have z := sort_maps (r := leL) (s := dataLe false toPy) (fun l : List Nat => D.str (S l)) (l := ls) (fun a _ b _ => by
    have e := congrFun (congrFun (dataLe_S S S_cps) a) b
    rw [← e]
    rfl)
  exact z.symm
theorem SL_alike (ls : List (List Nat)) : AllAlike (toPyL (SL ls)) := by
  rw [toPyL_map]
  unfold SL
  rw [List.map_map]
  exact AllAlike.of (enc := fun l : List Nat => PyData.str (S l)) fun b b' => rfl
theorem SL_sortable (ls : List (List Nat)) : Sortable (toPyL (SL ls)) := by
  rw [toPyL_map]
  unfold SL
  rw [List.map_map]
  exact Sortable.others (enc := fun l : List Nat => PyData.str (S l)) fun b => ⟨fun h => (nomatch h), fun xs h => (nomatch h)⟩
theorem SL_py : ∀ (ls : List (List Nat)), isPyL (SL ls) = true
  | [] => rfl
  | l :: ls => by
    show (true && isPyL (SL ls)) = true
    rw [SL_py ls]
    rfl
theorem SL_sortOk {ls : List (List Nat)} (h : ls.length ≤ 100000) : SortOk (SL ls) := ⟨SL_py ls, SL_alike ls, SL_sortable ls, fun d hd => by
  obtain ⟨l, _, rfl⟩ := List.mem_map.mp hd
  exact Nat.zero_le _, by rw [SL_len]; exact h⟩
section
variable {X : Cx}
/-- sorted of texts -/
theorem cd_sortedS {d : D} {ls : List (List Nat)} (hc : X.calm = true) (hu : X.A.units + 64 < cLine) (hi : Items d (SL ls)) (hl : ls.length ≤ 100000) : CallD X (.builtin "sorted") [d] (.lst (SL (srt ls))) := by
  have h := cd_sorted hc hu hi (SL_sortOk hl)
  rw [srtD_SL] at h
  exact h
/-- set of texts -/
def kL (ls : List (List Nat)) : List Key := ls.map fun l => Sum.inr (S l)
theorem setE_ok {P : Program} {w : World} {H : Hp} {h : Heap} {a : Addr} {L : List Key} (q : SetQ w h a L) : ObjOk P w H h a (SetE w a L) := by
  obtain ⟨o, es, ep, t, ho, r⟩ := id q
  exact ⟨q, ⟨o, ho⟩, fun h1 h2 q1 k => q1.at k⟩
theorem set_end {L : List Key} {pins : List (Addr × Obj)} {σ : L2.St} {H : Hp} {s : Shared} {m : Addr → Bool} {q : VK} (I : Inv X pins σ H s) (hm : ∀ a, m a = true → ∃ o, H a = some o ∧ nT o = true) (k : ∀ v H', Sub H H' → Rp X.K (hid m H') v (.set X.w L) → q v H')
    {h' : Heap} {tk : Nat} (hq : SetQ X.w h' s.heap.objs.size L) (hk : ∀ b o, s.heap.get? b = some o → h'.get? b = some o) : EP X pins σ q (.ref s.heap.objs.size) { s with heap := h', toks := tk } := by
  have hfr : H s.heap.objs.size = none := I.hok.fresh (Nat.le_refl _)
  exact ⟨.ref s.heap.objs.size, upd H s.heap.objs.size (SetE X.w s.heap.objs.size L), I.laid hk (Nat.le_refl _) (setE_ok hq), rfl, k _ _ (sub_upd hfr) (.set (hid_upd (fresh_m hm hfr)))⟩
theorem cd_set {d : D} {ls : List (List Nat)} (hc : X.calm = true) (hi : Items d (SL ls)) (hl : ls.length ≤ 4000) : CallD X (.type "set") [d] (.set X.w (kL ls)) := fun pins s σ H vs us q I rv ⟨m, hm, h1, k⟩ => by
  obtain ⟨v, rfl, r⟩ := h1.one
  obtain ⟨u, rfl, ru⟩ := rv.one
  have hfew : (kL ls).length + 1 < scanBound := by
    unfold kL scanBound
    rw [List.length_map]
    omega
  have ats : ∀ {its : List Value}, Vals ((ls.map S).map V.str) its → ∀ (i : Nat) (v : Value), its.toArray[i]? = some v → ∃ kk, (kL ls)[i]? = some kk ∧ keyIs kk v = true := fun {its} rw' i v hv => by
    have hv' : its[i]? = some v := by simpa using hv
    have hi' : i < its.length := (List.getElem?_eq_some_iff.mp hv').1
    have hlen := rw'.length
    simp only [List.length_map] at hlen
    have hli : i < ls.length := by omega
    obtain ⟨u, hu, ru⟩ := rw'.get (i := i) (x := V.str (S ls[i])) (by simp [hli])
    rw [hv'] at hu
    cases hu
    obtain ⟨t, rfl⟩ := ru
    exact ⟨Sum.inr (S ls[i]), by simp [kL, hli], keyIs_str _ _⟩
  cases r with
  | lst s1 r1 =>
    have hi : SL ls = _ := hi
    rw [← hi, SL_strs] at r1
    rw [r1.of_strs] at s1
    cases ru
    obtain ⟨its, rw', pl, hz⟩ := I.list ((hid_sub m H).sqL s1)
    exact call_set_by (ks := kL ls) (fun hA hR => up_list (I.ok.hd hc) pl.isList (ats rw') (by have := rw'.length; simp only [List.length_map] at this; simp [kL, this]) hfew hA hR) fun h' tk hq hk => set_end I hm k hq hk
  | tup s1 r1 =>
    have hi : SL ls = _ := hi
    rw [← hi, SL_strs] at r1
    rw [r1.of_strs] at s1
    cases ru
    obtain ⟨its, rw', pl, hz⟩ := I.tuple ((hid_sub m H).sqT s1.sq)
    exact call_set_by (ks := kL ls) (fun hA hR => up_tuple (I.ok.hd hc) (show s.heap.IsTuple _ its.toArray from pl) (ats rw') (by have := rw'.length; simp only [List.length_map] at this; simp [kL, this]) hfew hA hR) fun h' tk hq hk => set_end I hm k hq hk
  | str z =>
    obtain ⟨t, rfl⟩ := ru
    have hi : SL ls = z.cps.toList.map fun c => .str (S [c]) := hi
    have hks : kL ls = z.cps.toList.map fun c => Sum.inr (S [c]) := by
      have e := congrArg (List.map fun d : D => match d with | .str x => (Sum.inr x : Key) | _ => Sum.inl 0) hi
      unfold SL at e
      rw [List.map_map, List.map_map] at e
      exact e
    exact call_set_by (ks := kL ls) (fun hA hR => up_str (I.ok.hd hc) hks hfew hA hR) fun h' tk hq hk => set_end I hm k hq hk
  | non => exact hi.elim
  | bl _ => exact hi.elim
  | int _ => exact hi.elim
  | ty _ => exact hi.elim
  | ref _ => exact hi.elim
  | dct _ _ => exact hi.elim
  | ins _ _ => exact hi.elim
  | exc0 _ => exact hi.elim
  | exc1 _ _ _ => exact hi.elim
  | set _ => exact hi.elim
  | dcT _ _ => exact hi.elim
  | dcL _ _ => exact hi.elim
  | tupx s1 r1 =>
    have hi : SL ls = _ := hi
    rw [← hi, SL_strs] at r1
    rw [r1.of_strs] at s1
    cases ru
    obtain ⟨its, rw', pl, hz⟩ := I.tuple ((hid_sub m H).sqT s1)
    exact call_set_by (ks := kL ls) (fun hA hR => up_tuple (I.ok.hd hc) (show s.heap.IsTuple _ its.toArray from pl) (ats rw') (by have := rw'.length; simp only [List.length_map] at this; simp [kL, this]) hfew hA hR) fun h' tk hq hk => set_end I hm k hq hk
theorem perm_keys {ls : List (List Nat)} {ks : List Key} (h : ∀ k, k ∈ kL ls ↔ k ∈ ks) : ∃ ms : List (List Nat), ks = kL ms ∧ ∀ x, x ∈ ms ↔ x ∈ ls := by
  have h1 : ∀ k ∈ ks, ∃ l ∈ ls, k = Sum.inr (S l) := fun k hk => by
    obtain ⟨l, hl, e⟩ := List.mem_map.mp ((h k).mpr hk)
    exact ⟨l, hl, e.symm⟩
  have ex : ∃ ms : List (List Nat), ks = kL ms := by
    clear h
    induction ks with
    | nil => exact ⟨[], rfl⟩
    | cons k ks ih =>
      obtain ⟨ms, e⟩ := ih fun q hq => h1 q (List.mem_cons_of_mem _ hq)
      obtain ⟨l, _, rfl⟩ := h1 k List.mem_cons_self
      exact ⟨l :: ms, by rw [e]; rfl⟩
  obtain ⟨ms, rfl⟩ := ex
  refine ⟨ms, rfl, fun x => ?_⟩
  have mem : ∀ (l : List (List Nat)), Sum.inr (S x) ∈ kL l ↔ x ∈ l := fun l => by
    unfold kL
    rw [List.mem_map]
    exact ⟨fun ⟨y, hy, e⟩ => S_inj (Sum.inr.inj e) ▸ hy, fun hx => ⟨x, hx, rfl⟩⟩
  rw [← mem ms, ← mem ls, h]
theorem kL_nodup {ms : List (List Nat)} (h : (kL ms).Nodup) : ms.Nodup := List.Pairwise.of_map (fun l => (Sum.inr (S l) : Key)) (fun _ _ hne e => hne (by rw [e])) h
theorem vals_keys : ∀ {vs : List Value} {ms : List (List Nat)}, (∀ v ∈ vs, keyIs (kOf (0, v)) v = true) → vs.map (fun v => kOf (0, v)) = kL ms → Vals ((ms.map S).map V.str) vs
  | [], [], _, _ => .nil
  | [], _ :: _, _, e => by cases e
  | _ :: _, [], _, e => by cases e
  | v :: vs, m :: ms, h, e => by
    have e' : kOf (0, v) :: vs.map (fun v => kOf (0, v)) = Sum.inr (S m) :: kL ms := e
    injection e' with e1 e2
    have hv := h v List.mem_cons_self
    rw [e1] at hv
    obtain ⟨t, rfl⟩ := Value.isStrOf_shape (x := S m) (v := v) hv
    exact .cons ⟨t, rfl⟩ (vals_keys (fun u hu => h u (List.mem_cons_of_mem _ hu)) e2)
theorem cd_sorted_set {ls : List (List Nat)} (hc : X.calm = true) (hu : X.A.units + 64 < cLine) (hl : ls.length ≤ 4000) : CallD X (.builtin "sorted") [.set X.w (kL ls)] (.lst (SL (usL ls))) := fun pins s σ H vs us q I rv ⟨m, hm, h1, k⟩ => by
  obtain ⟨v, rfl, r⟩ := h1.one
  obtain ⟨u, rfl, ru⟩ := rv.one
  cases r with
  | set ha =>
    cases ru
    obtain ⟨hq, _⟩ := I.hok _ _ (hid_sub m H _ _ ha)
    obtain ⟨o, es, ep, t, ho, hex, hd, g, nd, hmem, hz, hf, hr, hled⟩ := id hq
    have hb : es.size < scanBound := by
      unfold scanBound
      have : (kL ls).length = ls.length := by simp [kL]
      omega
    refine sorted_by (R := fun v (b : V × D) => RelV b.1 v) (enc := fun b => toPy b.2) ?_
    refine collect_set (A := X.A.in1) (I.ok.hd hc) ⟨o, ho, hex.1, hd⟩ hf hb hr hled fun s1 out k1 hz1 g1 o1 pm => ?_
    have I1 : Inv X pins σ H s1 := I.call' (ch := []) o1 (Un.kept k1) (I.hok.kept k1) (by rw [g1]; exact I.bare) (fun b z => nomatch z)
    have pk : (out.map fun v => kOf (0, v)).Perm (es.toList.map kOf) := by
      have z := pm.map fun v => kOf (0, v)
      rw [List.map_map] at z
      exact z
    obtain ⟨ms, ems, hms⟩ := perm_keys (ls := ls) (ks := out.map fun v => kOf (0, v)) fun kk => by rw [hmem, pk.mem_iff]
    have hnd : ms.Nodup := kL_nodup (by rw [← ems]; exact pk.nodup_iff.mpr nd)
    have hvs : Vals ((ms.map S).map V.str) out := vals_keys (fun v hv => by
      obtain ⟨e, he, rfl⟩ := List.mem_map.mp (pm.mem_iff.mp hv)
      exact (g e he).1) ems
    have hle : ms.length ≤ 4096 := by
      have e1 := congrArg List.length ems
      rw [List.length_map] at e1
      have e2 : (kL ms).length = ms.length := by simp [kL]
      have e3 : out.length = es.size := by rw [pm.length_eq, List.length_map, Array.length_toList]
      unfold scanBound at hb
      omega
    have er : srtD (SL ms) = SL (usL ls) := by
      rw [srtD_SL, usL_eq (ls := ls) (srt_sorted ms) ((srt_perm ms).nodup_iff.mpr hnd) fun x => by rw [(srt_perm ms).mem_iff, hms]]
    refine sorted_end I1 hu (SL_sortOk (ls := ms) (by omega)) hm (by rw [SL_strs]; exact RpA.strs _) hvs ?_
    rw [er]
    exact k
end
end Pdl
namespace Pdl
open PySem PySem.Spec L2 PyProof.Rows PySem.W
section
variable {P : Program} {w : World} {A : Around} {E : Value → Shared → Prop} {s : Shared}
theorem rcLt_str {x y : Str} {t u : Tok} {Q : Value → Shared → Prop} (h : Q (.bool (decide (x.cps.toList < y.cps.toList))) s) : wpAny (model P w) A (richCompare .Lt (.str x t) (.str y u)) Q E s :=
  richCompare_gives (op := .Lt) (typeIs_str s _ t) (typeIs_str s _ u) PySem.F.slot_str_lt PySem.F.entry_str_lt (PySem.F.args_str_lt_2 _ _) (gives_str_lt _ _ t u) (fun x => nomatch x) h
theorem rcGt_str {x y : Str} {t u : Tok} {Q : Value → Shared → Prop} (h : Q (.bool (decide (y.cps.toList < x.cps.toList))) s) : wpAny (model P w) A (richCompare .Gt (.str x t) (.str y u)) Q E s :=
  richCompare_gives (op := .Gt) (typeIs_str s _ t) (typeIs_str s _ u) PySem.F.slot_str_gt PySem.F.entry_str_gt (PySem.F.args_str_gt_2 _ _) (gives_str_gt _ _ t u) (fun x => nomatch x) h
theorem best1 (bt : Nat → Nat → Bool) : argBest bt 1 = if bt 1 0 then 1 else 0 := rfl
theorem two_texts {op : CmpOp} {fn : String} {x y : Str} {t u : Tok} {bt : Nat → Nat → Bool} {Q : Value → Shared → Prop} (hh : A.handled = none)
    (hcall : (wpAny (model P w) A.in1 (pyIter (.ref s.heap.objs.size)) (fun it s₂ => ∃ I fp wr n Pv St bt, it = .ref I ∧ Walks P w A.in1 I fp wr n Pv St ∧ St 0 s₂.heap ∧ (∀ b ∈ fp, b < s₂.heap.objs.size) ∧ 0 < n ∧ CmpOf P w A.in1 op Pv bt ∧
      ∀ v h' tk, Pv (argBest bt (n - 1)) v → (∀ b o, b ∉ wr → s₂.heap.get? b = some o → h'.get? b = some o) → Q v { s₂ with heap := h', toks := tk }) E
      { s with heap := s.heap.push { cls := .type "tuple", data := .seq #[.str x t, .str y u] } }) → wpAny (model P w) A (call (.builtin fn) [.str x t, .str y u]) Q E s)
    (hcmp : CmpOf P w A.in1 op (fun i v => #[Value.str x t, Value.str y u][i]? = some v) bt)
    (h : ∀ h' tk, (∀ c o, s.heap.get? c = some o → h'.get? c = some o) → Q (if bt 1 0 then .str y u else .str x t) { s with heap := h', toks := tk }) :
    wpAny (model P w) A (call (.builtin fn) [.str x t, .str y u]) Q E s := by
  have hT : (s.heap.push { cls := .type "tuple", data := .seq #[.str x t, .str y u] }).IsTuple s.heap.objs.size #[.str x t, .str y u] := ⟨_, Heap.get?_push_size _ rfl, rfl, 0, rfl⟩
  refine hcall (wpAny_pyIter_tuple hT ?_)
  have hsz : (s.heap.push { cls := .type "tuple", data := .seq #[.str x t, .str y u] }).objs.size = s.heap.objs.size + 1 := Heap.size_push ..
  refine ⟨_, [_, s.heap.objs.size], [_], _, _, _, bt, rfl, Walks.tuple (A := A.in1) hh _ s.heap.objs.size (by rw [hsz]; exact Nat.ne_of_lt (Nat.lt_succ_self _)) #[.str x t, .str y u],
    ⟨⟨_, Heap.get?_push_size _ rfl, rfl, rfl⟩, hT.push _⟩, fun c hc => ?_, (by show 0 < 2; decide), hcmp, fun v h' tk hP hk => ?_⟩
  · show c < ((s.heap.push _).push _).objs.size
    rw [Heap.size_push, hsz]
    rcases List.mem_cons.mp hc with rfl | hc
    · rw [hsz]; exact Nat.lt_succ_self _
    · rcases List.mem_cons.mp hc with rfl | hc
      · exact Nat.lt_succ_of_lt (Nat.lt_succ_self _)
      · cases hc
  · have hold : ∀ c o, s.heap.get? c = some o → h'.get? c = some o := fun c o e => by
      refine hk c o (fun hm => ?_) (Heap.get?_push_of_some _ (Heap.get?_push_of_some _ e))
      rcases List.mem_cons.mp hm with e1 | hm
      · have := Heap.lt_size e; rw [e1, hsz] at this; exact Nat.lt_irrefl _ (Nat.lt_of_succ_lt this)
      · cases hm
    have hv : v = if bt 1 0 then Value.str y u else Value.str x t := by
      have hP' : #[Value.str x t, Value.str y u][argBest bt 1]? = some v := hP
      rw [best1] at hP'
      cases e : bt 1 0 with
      | true => rw [e] at hP'; exact (Option.some.inj hP').symm
      | false => rw [e] at hP'; exact (Option.some.inj hP').symm
    rw [hv]
    exact h h' tk hold
def txtAt (x y : Str) (i : Nat) : List Nat := if i = 0 then x.cps.toList else y.cps.toList
theorem txt_at {x y : Str} {t u : Tok} {i : Nat} {v : Value} (h : #[Value.str x t, Value.str y u][i]? = some v) : ∃ z k, v = .str z k ∧ z.cps.toList = txtAt x y i := by
  match i, h with
  | 0, h => exact ⟨x, t, (Option.some.inj h).symm, rfl⟩
  | 1, h => exact ⟨y, u, (Option.some.inj h).symm, rfl⟩
  | i + 2, h => simp at h
theorem cmp_lt {x y : Str} {t u : Tok} : CmpOf P w A .Lt (fun i v => #[Value.str x t, Value.str y u][i]? = some v) (fun i j => decide (txtAt x y i < txtAt x y j)) := fun i j vi vj s Q E hi hj h => by
  obtain ⟨z, k, rfl, ez⟩ := txt_at hi
  obtain ⟨z', k', rfl, ez'⟩ := txt_at hj
  exact rcLt_str (by rw [ez, ez']; exact h)
theorem cmp_gt {x y : Str} {t u : Tok} : CmpOf P w A .Gt (fun i v => #[Value.str x t, Value.str y u][i]? = some v) (fun i j => decide (txtAt x y j < txtAt x y i)) := fun i j vi vj s Q E hi hj h => by
  obtain ⟨z, k, rfl, ez⟩ := txt_at hi
  obtain ⟨z', k', rfl, ez'⟩ := txt_at hj
  exact rcGt_str (by rw [ez, ez']; exact h)
end
section
variable {X : Cx}
theorem cd_min2S (hc : X.calm = true) {a b : List Nat} : CallD X (.builtin "min") [.str (S a), .str (S b)] (.str (S (if b < a then b else a))) := fun pins s σ H vs us q I rv ⟨m, hm, h1, k⟩ => by
  obtain ⟨v, v', rfl, r, r'⟩ := h1.two
  cases r; cases r'
  obtain ⟨u, u', rfl, ⟨t, rfl⟩, ⟨t', rfl⟩⟩ := vals2 rv
  refine two_texts (I.ok.hd hc) call_min_two cmp_lt fun h' tk hk => ⟨_, H, I.kept hk, ?_, k _ H (Sub.refl H) (.str _)⟩
  show RelV _ (if decide (b < a) = true then Value.str (S b) t' else Value.str (S a) t)
  by_cases h : b < a
  · rw [if_pos h, decide_eq_true h]; exact ⟨_, rfl⟩
  · rw [if_neg h, decide_eq_false h]; exact ⟨_, rfl⟩
theorem cd_max2S (hc : X.calm = true) {a b : List Nat} : CallD X (.builtin "max") [.str (S a), .str (S b)] (.str (S (if a < b then b else a))) := fun pins s σ H vs us q I rv ⟨m, hm, h1, k⟩ => by
  obtain ⟨v, v', rfl, r, r'⟩ := h1.two
  cases r; cases r'
  obtain ⟨u, u', rfl, ⟨t, rfl⟩, ⟨t', rfl⟩⟩ := vals2 rv
  refine two_texts (I.ok.hd hc) call_max_two cmp_gt fun h' tk hk => ⟨_, H, I.kept hk, ?_, k _ H (Sub.refl H) (.str _)⟩
  show RelV _ (if decide (a < b) = true then Value.str (S b) t' else Value.str (S a) t)
  by_cases h : a < b
  · rw [if_pos h, decide_eq_true h]; exact ⟨_, rfl⟩
  · rw [if_neg h, decide_eq_false h]; exact ⟨_, rfl⟩
end
end Pdl
namespace Pdl
open PySem L2 PyProof.Rows
/-- the same state, shown otherwise -/
def Conv (K : PySem.W.Frag) (μ : Md) (Γ Γ' : En) : Prop := ∀ H σ, Rel K μ H σ Γ → Rel K μ H σ Γ' ∧ Fw Γ.c Γ'.c H H
section
variable {X : Cx} {μ : Md} {Γ Γ' : En} {Q : QE} {a b c e o : Expr} {es : List Expr} {pos apos cpos : Pos} {P P' : Po} {st : Stmt} {sts : List Stmt} {m : Addr → Bool} {H : Hp} {K : PySem.W.Frag}
theorem xb_conv (cv : Conv X.K μ Γ Γ') (h : XB X μ sts Γ' P) : XB X μ sts Γ P := PSs.imp h fun D σ H ⟨R, k1, k2, k3, k4⟩ => by
  obtain ⟨R1, f1⟩ := cv H σ R
  exact ⟨R1, fun σ2 H2 Γ2 f2 R2 z => k1 σ2 H2 Γ2 (f1.trans f2) R2 z, fun v σ2 H2 d Γ2 f2 R2 r z => k2 v σ2 H2 d Γ2 (f1.trans f2) R2 r z, fun σ2 H2 Γ2 f2 R2 z => k3 σ2 H2 Γ2 (f1.trans f2) R2 z, fun σ2 H2 Γ2 f2 R2 z => k4 σ2 H2 Γ2 (f1.trans f2) R2 z⟩
/-- what is to hold behind: shown otherwise -/
theorem XB.post (h : XB X μ sts Γ P') (h1 : ∀ Γ1, P'.nx Γ1 → ∃ Γ2, Conv X.K μ Γ1 Γ2 ∧ P.nx Γ2)
    (h2 : ∀ d Γ1, P'.rt d Γ1 → ∃ Γ2, (∀ H σ v, Rel X.K μ H σ Γ1 → Rp X.K (Vw μ Γ1 H) v d → Rel X.K μ H σ Γ2 ∧ Fw Γ1.c Γ2.c H H ∧ Rp X.K (Vw μ Γ2 H) v d) ∧ P.rt d Γ2)
    (h3 : ∀ Γ1, P'.bk Γ1 → ∃ Γ2, Conv X.K μ Γ1 Γ2 ∧ P.bk Γ2) (h4 : ∀ Γ1, P'.ct Γ1 → ∃ Γ2, Conv X.K μ Γ1 Γ2 ∧ P.ct Γ2) : XB X μ sts Γ P := PSs.imp h fun D σ H ⟨R, k1, k2, k3, k4⟩ => by
  refine ⟨R, fun σ2 H2 Γ2 f2 R2 z => ?_, fun v σ2 H2 d Γ2 f2 R2 r z => ?_, fun σ2 H2 Γ2 f2 R2 z => ?_, fun σ2 H2 Γ2 f2 R2 z => ?_⟩
  · obtain ⟨Γ3, cv, q⟩ := h1 _ z
    obtain ⟨R3, f3⟩ := cv H2 σ2 R2
    exact k1 σ2 H2 Γ3 (f2.trans f3) R3 q
  · obtain ⟨Γ3, cv, q⟩ := h2 _ _ z
    obtain ⟨R3, f3, r3⟩ := cv H2 σ2 v R2 r
    exact k2 v σ2 H2 d Γ3 (f2.trans f3) R3 r3 q
  · obtain ⟨Γ3, cv, q⟩ := h3 _ z
    obtain ⟨R3, f3⟩ := cv H2 σ2 R2
    exact k3 σ2 H2 Γ3 (f2.trans f3) R3 q
  · obtain ⟨Γ3, cv, q⟩ := h4 _ z
    obtain ⟨R3, f3⟩ := cv H2 σ2 R2
    exact k4 σ2 H2 Γ3 (f2.trans f3) R3 q
theorem XB.imp (h : XB X μ sts Γ P') (h1 : ∀ Γ1, P'.nx Γ1 → P.nx Γ1) (h2 : ∀ d Γ1, P'.rt d Γ1 → P.rt d Γ1) (h3 : ∀ Γ1, P'.bk Γ1 → P.bk Γ1) (h4 : ∀ Γ1, P'.ct Γ1 → P.ct Γ1) : XB X μ sts Γ P :=
  h.post (fun Γ1 z => ⟨Γ1, fun H σ R => ⟨R, Fw.refl _ _⟩, h1 _ z⟩) (fun d Γ1 z => ⟨Γ1, fun H σ v R r => ⟨R, Fw.refl _ _, r⟩, h2 _ _ z⟩) (fun Γ1 z => ⟨Γ1, fun H σ R => ⟨R, Fw.refl _ _⟩, h3 _ z⟩) (fun Γ1 z => ⟨Γ1, fun H σ R => ⟨R, Fw.refl _ _⟩, h4 _ z⟩)
/-- another reading of a cell -/
theorem Rel.same {σ : L2.St} {s : List (Option D)} {c1 c2 : Cs} {p : Addr} {cl cl' : Cell} (R : Rel K μ H σ ⟨s, c1 ++ (p, cl) :: c2⟩)
    (h : CellRp K (hid (tot μ.m (c1 ++ (p, cl) :: c2)) H) (H p) cl') : Rel K μ H σ ⟨s, c1 ++ (p, cl') :: c2⟩ := by
  obtain ⟨u, hu⟩ := (cell_get R.co).some
  have e : upd H p u = H := by
    funext a
    by_cases ea : a = p
    · subst ea; rw [upd_same, hu]
    · rw [upd_ne ea]
  have z := (R.put (cl' := cl') (o := u) (by rw [hu] at h; exact h)).1
  rw [e] at z
  exact z
theorem fw_same {s : List (Option D)} {c1 c2 : Cs} {p : Addr} {cl cl' : Cell} : Fw (c1 ++ (p, cl) :: c2) (c1 ++ (p, cl') :: c2) H H := fun a o h e => ⟨e, by rw [inC_swap (cl' := cl)]; exact h⟩
/-- the jar, opened -/
theorem xb_open {s : List (Option D)} {c1 c2 : Cs} {p : Addr} (h : ∀ x y z : Int, 0 ≤ x → 0 ≤ y → 0 ≤ z → XB X μ sts ⟨s, c1 ++ (p, .lst [.int x, .int y, .int z]) :: c2⟩ P) : XB X μ sts ⟨s, c1 ++ (p, .jar) :: c2⟩ P := by
  refine ⟨fun pins s' σ H D I ⟨R, k⟩ => ?_⟩
  obtain ⟨x, y, z, ho, hx, hy, hz⟩ := cell_get R.co
  have R2 : Rel X.K μ H σ ⟨s, c1 ++ (p, .lst [.int x, .int y, .int z]) :: c2⟩ := R.same ⟨_, ho, .cons (.int _) (.cons (.int _) (.cons (.int _) .nil))⟩
  exact (h x y z hx hy hz).run pins s' σ H D I ⟨R2, fun σ2 H2 Γ2 f2 R2 q => k.1 σ2 H2 Γ2 ((fw_same (s := s)).trans f2) R2 q, fun v σ2 H2 d Γ2 f2 R2 r q => k.2.1 v σ2 H2 d Γ2 ((fw_same (s := s)).trans f2) R2 r q, fun σ2 H2 Γ2 f2 R2 q => k.2.2.1 σ2 H2 Γ2 ((fw_same (s := s)).trans f2) R2 q, fun σ2 H2 Γ2 f2 R2 q => k.2.2.2 σ2 H2 Γ2 ((fw_same (s := s)).trans f2) R2 q⟩
/-- .. and closed -/
theorem rel_close {σ : L2.St} {s : List (Option D)} {c1 c2 : Cs} {p : Addr} {x y z : Int} (hx : 0 ≤ x) (hy : 0 ≤ y) (hz : 0 ≤ z) (R : Rel K μ H σ ⟨s, c1 ++ (p, .lst [.int x, .int y, .int z]) :: c2⟩) : Rel K μ H σ ⟨s, c1 ++ (p, .jar) :: c2⟩ := by
  obtain ⟨vs, ho, r⟩ := cell_get R.co
  refine R.same ?_
  rw [show [D.int x, .int y, .int z] = [x, y, z].map D.int from rfl] at r
  rw [r.of_ints] at ho
  exact ⟨x, y, z, ho, hx, hy, hz⟩
/-- a cell becomes data -/
theorem Rel.freeze {σ : L2.St} {s : List (Option D)} {c1 c2 : Cs} {p : Addr} {cl : Cell} (R : Rel K μ H σ ⟨s, c1 ++ (p, cl) :: c2⟩) (h0 : inC μ.c0 p = true ∨ μ.H0 p = none ∨ True) : Rel K μ H σ ⟨s, c1 ++ c2⟩ ∧ Fw (c1 ++ (p, cl) :: c2) (c1 ++ c2) H H ∧ Sub (hid (tot μ.m (c1 ++ (p, cl) :: c2)) H) (hid (tot μ.m (c1 ++ c2)) H) := by
  have f : Fw (c1 ++ (p, cl) :: c2) (c1 ++ c2) H H := fun a o h e => by
    refine ⟨e, ?_⟩
    rw [inC_app, Bool.or_eq_false_iff] at h ⊢
    refine ⟨h.1, ?_⟩
    have := h.2
    simp only [inC, List.any_cons, Bool.or_eq_false_iff] at this
    exact this.2
  have nd := R.co.nd
  refine ⟨⟨⟨R.co.dom, ?_, fun q hq => ?_, fun q hq => ?_⟩, R.slots.mono f.sub, R.fw.trans f⟩, f, f.sub⟩
  · show ((c1 ++ c2).map (·.1)).Nodup
    rw [List.map_append, List.map_cons] at nd
    rw [List.map_append]
    exact nd.sublist ((List.Sublist.refl _).append (List.sublist_cons_self _ _))
  · refine R.co.off q ?_
    rcases List.mem_append.mp hq with h | h
    · exact List.mem_append_left _ h
    · exact List.mem_append_right _ (List.mem_cons_of_mem _ h)
  · refine (R.co.cells q ?_).mono f.sub
    rcases List.mem_append.mp hq with h | h
    · exact List.mem_append_left _ h
    · exact List.mem_append_right _ (List.mem_cons_of_mem _ h)
/-- what a cell shows when it is data -/
def Cell.d : Cell → Option D
  | .lst xs => some (.lst xs)
  | .dct xs => some (.dct xs)
  | .ins C fs => some (.ins C fs)
  | .dcT xs => some (.dcT xs)
  | .dcL xs => some (.dcL xs)
  | .tupx xs => some (.tupx xs)
  | .jar => none
  | .tbl _ => none
theorem frozen {σ : L2.St} {s : List (Option D)} {c1 c2 : Cs} {p : Addr} {cl : Cell} {d : D} (R : Rel K μ H σ ⟨s, c1 ++ (p, cl) :: c2⟩) (hd : cl.d = some d) : Rp K (hid (tot μ.m (c1 ++ c2)) H) (.ref p) d := by
  have nd := R.co.nd
  have np : tot μ.m (c1 ++ c2) p = false := by
    refine tot_false.mpr ⟨R.co.off (p, cl) (List.mem_append_right _ List.mem_cons_self), ?_⟩
    rw [List.map_append, List.map_cons, List.nodup_append, List.nodup_cons] at nd
    rw [inC_app, Bool.or_eq_false_iff]
    constructor
    · cases e : inC c1 p with
      | false => rfl
      | true =>
        obtain ⟨q, hq, eq⟩ := of_inC e
        exact absurd eq (nd.2.2 q.1 (List.mem_map_of_mem hq) p (by simp))
    · cases e : inC c2 p with
      | false => rfl
      | true =>
        obtain ⟨q, hq, eq⟩ := of_inC e
        refine absurd ?_ nd.2.1.1
        show p ∈ c2.map (·.1)
        rw [← eq]
        exact List.mem_map_of_mem hq
  have sb := (R.freeze (.inr (.inr trivial))).2.2
  have z := (cell_get R.co).mono sb
  cases cl with
  | jar => cases hd
  | tbl q => cases hd
  | lst xs =>
    cases hd
    obtain ⟨vs, ho, r⟩ := z
    exact .lst (.of (hid_some.mpr ⟨np, ho⟩)) r
  | dct xs =>
    cases hd
    obtain ⟨vs, ho, r⟩ := z
    exact .dct (hid_some.mpr ⟨np, ho⟩) r
  | ins C fs =>
    cases hd
    obtain ⟨dx, vs, ho, r⟩ := z
    exact .ins (hid_some.mpr ⟨np, ho⟩) r
  | dcT xs =>
    cases hd
    obtain ⟨vs, ho, r⟩ := z
    exact .dcT (hid_some.mpr ⟨np, ho⟩) r
  | dcL xs =>
    cases hd
    obtain ⟨ob, vs, ho, r⟩ := z
    exact .dcL (hid_some.mpr ⟨np, ho⟩) r
  | tupx xs =>
    cases hd
    obtain ⟨ob, vs, ho, _, _, r⟩ := z
    exact .tupx (.inl (.inr ⟨ob, hid_some.mpr ⟨np, ho⟩⟩)) r
theorem conv_freeze {i : Nat} {s : List (Option D)} {c1 c2 : Cs} {p : Addr} {cl : Cell} {d : D} (hi : s[i]? = some (some (.ref p))) (hd : cl.d = some d) : Conv K μ ⟨s, c1 ++ (p, cl) :: c2⟩ ⟨s.set i (some d), c1 ++ c2⟩ := fun H σ R => by
  obtain ⟨R2, f, sb⟩ := R.freeze (.inr (.inr trivial))
  refine ⟨?_, f⟩
  obtain ⟨v, hv, rv⟩ := R2.slots.2 i _ hi
  have e : v = .ref p := by cases rv; rfl
  subst e
  have z := R2.set i (frozen R hd)
  have eσ : σ.set i (some (V.ref p)) = σ := by
    obtain ⟨hl, hv⟩ := List.getElem?_eq_some_iff.mp hv
    rw [← hv]
    exact List.set_getElem_self hl
  rw [eσ] at z
  exact z
/-- a list, a dict of one's own becomes data -/
theorem xb_freeze {i : Nat} {s : List (Option D)} {c1 c2 : Cs} {p : Addr} {cl : Cell} {d : D} (hi : s[i]? = some (some (.ref p))) (hd : cl.d = some d) (h : XB X μ sts ⟨s.set i (some d), c1 ++ c2⟩ P) : XB X μ sts ⟨s, c1 ++ (p, cl) :: c2⟩ P := xb_conv (conv_freeze hi hd) h
/-- a cell forgotten -/
theorem xb_drop {s : List (Option D)} {c1 c2 : Cs} {p : Addr} {cl : Cell} (h : XB X μ sts ⟨s, c1 ++ c2⟩ P) : XB X μ sts ⟨s, c1 ++ (p, cl) :: c2⟩ P := xb_conv (fun H σ R => let z := R.freeze (.inr (.inr trivial)); ⟨z.1, z.2.1⟩) h
def flat : D → Bool
  | .non => true
  | .bl _ => true
  | .int _ => true
  | .str _ => true
  | _ => false
theorem Rp.flat {G G' : Hp} {v : V} {d : D} (r : Rp K G v d) (h : flat d = true) : Rp K G' v d := by
  cases r with
  | non => exact .non
  | bl b => exact .bl b
  | int i => exact .int i
  | str x => exact .str x
  | _ => cases h
/-- the mode while a cell is lent: all others are hidden -/
abbrev lent (μ : Md) (cs : Cs) : Md := { m := tot μ.m cs, c0 := [], H0 := fun _ => none, E := fun _ _ => False }
theorem rel_lent {i : Nat} {σ : L2.St} {s : List (Option D)} {c1 c2 : Cs} {p : Addr} {cl : Cell} {d : D} (R : Rel K μ H σ ⟨s, c1 ++ (p, cl) :: c2⟩) (hi : s[i]? = some (some (.ref p))) (hd : cl.d = some d) : Rel K (lent μ (c1 ++ c2)) H σ ⟨s.set i (some d), []⟩ := by
  obtain ⟨R2, f⟩ := conv_freeze hi hd H σ R
  refine ⟨⟨fun a h => R2.domT a h, List.nodup_nil, fun p hp => (by cases hp), fun p hp => (by cases hp)⟩, ?_, fun a o h e => (by cases e)⟩
  have e : tot (tot μ.m (c1 ++ c2)) [] = tot μ.m (c1 ++ c2) := by
    funext a
    simp [tot, inC]
  show SlotRp K (hid (tot (tot μ.m (c1 ++ c2)) []) H) σ _
  rw [e]
  exact R2.slots
theorem fw_nil {H H' : Hp} (f : Fw [] [] H H') : Sub H H' := fun a o e => (f a o rfl e).1
theorem xe_lend {i : Nat} {s : List (Option D)} {c1 c2 : Cs} {p : Addr} {cl : Cell} {d : D} (hi : s[i]? = some (some (.ref p))) (hd : cl.d = some d)
    (h : XE X (lent μ (c1 ++ c2)) e ⟨s.set i (some d), []⟩ fun r Γ1 => Γ1.c = [] ∧ flat r = true ∧ Q r ⟨s, c1 ++ (p, cl) :: c2⟩) : XE X μ e ⟨s, c1 ++ (p, cl) :: c2⟩ Q :=
  PE.imp h fun σ H q ⟨R, k⟩ => ⟨rel_lent R hi hd, fun v H1 r Γ1 s1 f1 R1 r1 ⟨hc, hf, hq⟩ => by
    have f1 : Fw [] Γ1.c H H1 := f1
    rw [hc] at f1
    have e := fw_nil f1
    exact k v H1 r _ rfl (Fw.of_sub e) (R.more e) (r1.flat hf) hq⟩
theorem xt_lend {i : Nat} {s : List (Option D)} {c1 c2 : Cs} {p : Addr} {cl : Cell} {d : D} {Q : Bool → En → Prop} (hi : s[i]? = some (some (.ref p))) (hd : cl.d = some d)
    (h : XT X (lent μ (c1 ++ c2)) e ⟨s.set i (some d), []⟩ fun r Γ1 => Γ1.c = [] ∧ Q r ⟨s, c1 ++ (p, cl) :: c2⟩) : XT X μ e ⟨s, c1 ++ (p, cl) :: c2⟩ Q :=
  PT.imp h fun σ H q ⟨R, k⟩ => ⟨rel_lent R hi hd, fun H1 r Γ1 s1 f1 R1 ⟨hc, hq⟩ => by
    have f1 : Fw [] Γ1.c H H1 := f1
    rw [hc] at f1
    have e := fw_nil f1
    exact k H1 r _ rfl (Fw.of_sub e) (R.more e) hq⟩
/-- a new object: the list that e makes becomes a cell -/
theorem xe_own_lst (h : XA X μ es Γ fun xs Γ1 => xs.length ≤ 100000 ∧ ∀ p, Q (.ref p) ⟨Γ1.s, Γ1.c ++ [(p, .lst xs)]⟩) : XE X μ (.List es pos) Γ Q :=
  PE.imp (pe_lst h) fun σ H q ⟨R, k⟩ => ⟨R, fun vs H1 xs Γ1 s1 f1 R1 r1 ⟨hl, hq⟩ => ⟨by rw [r1.length]; exact Nat.le_trans hl (by decide), fun p hp => by
    obtain ⟨R2, f2⟩ := R1.newC (cl := .lst xs) (o := .lst vs) hp ⟨vs, rfl, r1⟩
    exact k _ _ (.ref p) ⟨Γ1.s, Γ1.c ++ [(p, .lst xs)]⟩ s1 (f1.trans f2) R2 (.ref p) (hq p)⟩⟩
/-- x.pop(e), x a cell -/
theorem xe_pop {i : Nat} {xn : Str} {p : Addr} {np : Pos} (hN : X.N[i]? = some xn) (hv : Vis X.env.scope xn) (hx : Γ.s[i]? = some (some (.ref p)))
    (h : XE X μ e Γ fun d Γ1 => ∃ c1 xs c2 j y, Γ1.c = c1 ++ (p, .lst xs) :: c2 ∧ d = .int (j : Nat) ∧ j < 100000 ∧ xs[j]? = some y ∧ Q y ⟨Γ1.s, c1 ++ (p, .lst (xs.eraseIdx j)) :: c2⟩)
    (hc : ∃ c1 xs c2, Γ.c = c1 ++ (p, .lst xs) :: c2)
    (h1 : (xn == ("__debug__" : Str)) = false := by decide) (h2 : (xn == ("__classdict__" : Str)) = false := by decide)
    (hbase : attributeBase (.Name xn np) "pop" X.env (eval (.Name xn np) X.env) = eval (.Name xn np) X.env := by rfl)
    (hfew : ((backTo cpos (starEach [e] X.env)).all (fun x => !x.1) && (backToKw cpos (keywordEach [] X.env)).all (fun x => x.1.isSome) && decide ([e].length + ([] : List Keyword).length + (if ([] : List Keyword).isEmpty then 0 else 1) < 30)) = true := by rfl)
    (hline : (apos.endLine == cpos.line) = true := by rfl) (hs : starEach [e] X.env = (false, eval e X.env) :: starEach [] X.env := by rfl) :
    XE X μ (.Call (.Attribute (.Name xn np) "pop" apos) [e] [] cpos) Γ Q := by
  have hv' : XE X μ (.Name xn np) Γ fun x Γ1 => x = .ref p ∧ Γ1 = Γ := xe_var hN hv hx ⟨rfl, rfl⟩ h1 h2
  refine PE.imp (pe_bm PySem.F.plainAttrs_list PySem.F.slot_list_pop PySem.F.type_list_pop mt_popAt hv' (pa_cons h pa_nil hs) hbase hfew hline hs) fun σ H q ⟨R, k⟩ => ?_
  refine ⟨R, fun v H1 x Γ1 s1 f1 R1 r1 ⟨hx, hG⟩ => ?_⟩
  subst hx; subst hG
  cases r1
  obtain ⟨c1, xs, c2, ec⟩ := hc
  obtain ⟨sl, cc⟩ := Γ1
  have ec : cc = c1 ++ (p, .lst xs) :: c2 := ec
  subst ec
  obtain ⟨vs, hvs, _⟩ := cell_get R1.co
  refine ⟨.inl ⟨rfl, vs, .of hvs⟩, R1, fun w H2 d Γ2 s2 f2 R2 r2 ⟨c1', xs', c2', j, y, ec', hj, hjl, hy, hq⟩ => ?_⟩
  obtain ⟨sl2, cc2⟩ := Γ2
  have ec' : cc2 = c1' ++ (p, .lst xs') :: c2' := ec'
  subst ec'
  subst hj
  cases r2
  obtain ⟨us, hus, ru⟩ := cell_get R2.co
  obtain ⟨u, hu, ry⟩ := ru.got hy
  have hjx : j < us.length := (List.getElem?_eq_some_iff.mp hu).1
  have re : ∀ {us : List V} {xs : List D} (j : Nat), RpA X.K (hid (tot μ.m (c1' ++ (p, .lst xs') :: c2')) H2) us xs → RpA X.K (hid (tot μ.m (c1' ++ (p, .lst xs') :: c2')) H2) (us.eraseIdx j) (xs.eraseIdx j) := by
    intro us xs j r
    rw [List.eraseIdx_eq_take_drop_succ, List.eraseIdx_eq_take_drop_succ]
    exact (r.take j).app (r.drop (j + 1))
  obtain ⟨R3, f3⟩ := R2.put (cl' := .lst (xs'.eraseIdx j)) (o := .lst (us.eraseIdx j)) ⟨_, rfl, re j ru⟩
  have hfr : tot μ.m (c1' ++ (p, .lst xs') :: c2') = tot μ.m (c1' ++ (p, .lst (xs'.eraseIdx j)) :: c2') := tot_swap
  refine ⟨p, us, (j : Int), j, u, rfl, rfl, hus, by omega, by omega, ?_, hu, k _ _ y ⟨sl2, c1' ++ (p, .lst (xs'.eraseIdx j)) :: c2'⟩ (s2.trans s1) ((f1.trans f2).trans f3) R3 (ry.mono f3.sub) hq⟩
  unfold seqIndex?
  have hz : ¬ ((j : Int) < 0) := by omega
  simp only [hz, if_false]
  simp [hjx]
end
end Pdl
namespace Pdl
open PySem L2 PyProof.Rows
section
variable {X : Cx} {μ : Md} {Γ Γ' : En} {Q : QE} {a b c e o : Expr} {es : List Expr} {pos apos cpos : Pos} {P P' : Po} {st : Stmt} {sts : List Stmt} {m : Addr → Bool} {H : Hp} {K : PySem.W.Frag} {x y d : D}
def rCatL (K : PySem.W.Frag) : R2 := fun x y H Q => ∃ l b xs zs, x = .ref l ∧ y = .ref b ∧ SqL K H l xs ∧ SqL K H b zs ∧ xs.length + zs.length ≤ sizeLine ∧ ∀ p, H p = none → Q (.ref p) (upd H p (.lst (xs ++ zs)))
theorem op_catL : OpR X (binaryOp .Add) (rCatL X.K) := by
  intro pins s σ H x y v u Q I rx ry h
  obtain ⟨l, b, xs, zs, rfl, rfl, hH, hB, hz, q⟩ := h
  cases rx
  cases ry
  obtain ⟨its, r, ⟨⟨cls, dd, data, sl⟩, n, ho, hc, hdd, hd⟩, hz1⟩ := I.list hH
  obtain ⟨its2, r2, ⟨⟨cls2, dd2, data2, sl2⟩, n2, ho2, hc2, hdd2, hd2⟩, hz2⟩ := I.list hB
  simp only at hc hd hc2 hd2
  subst hc hd hc2 hd2
  have l1 := r.length
  have l2 := r2.length
  refine concat_meets ⟨_, ho, rfl⟩ ⟨_, ho2, rfl⟩ noFill_list_add seq_list_add PySem.F.slot_list_add PySem.F.entry_list_add (PySem.F.args_list_add_2 _ _) (list_addW l b its.toArray its2.toArray n n2 dd dd2 sl sl2 (by simp only [List.size_toArray]; omega)) ⟨ho, ho2, ?_⟩
  have ea : its.toArray ++ its2.toArray = (its ++ its2).toArray := by simp
  rw [ea]
  exact ⟨.ref _, _, I.lnew (t' := s.toks) (r.append r2) (by rw [List.length_append]; omega), rfl, q _ I.fresh⟩
theorem od_catL {xs ys : List D} (hz : xs.length + ys.length ≤ 100000) : OpD X (binaryOp .Add) (.lst xs) (.lst ys) (.lst (xs ++ ys)) := .of op_catL fun a b H q m hm h1 h2 k => by
  cases h1 with
  | @lst a1 us1 _ s1 r1 =>
    cases h2 with
    | @lst a2 us2 _ s2 r2 =>
      refine ⟨_, _, _, _, rfl, rfl, (hid_sub m H).sqL s1, (hid_sub m H).sqL s2, by rw [r1.length, r2.length]; exact Nat.le_trans hz (by decide), fun p hp => ?_⟩
      have e := sub_upd (o := .lst (us1 ++ us2)) hp
      exact k _ _ e (.lst (.of (hid_upd (fresh_m hm hp))) ((r1.mono (sub_hid e)).app (r2.mono (sub_hid e))))
theorem inV_SL {l : List Nat} : ∀ {ls : List (List Nat)}, inV (.str (S l)) ((ls.map S).map V.str) = decide (l ∈ ls)
  | [] => by simp [inV]
  | k :: ls => by
    have ih := inV_SL (l := l) (ls := ls)
    unfold inV at ih ⊢
    rw [List.map_cons, List.map_cons, List.any_cons, ih]
    have e : eqV (.str (S k)) (.str (S l)) = decide (k = l) := by
      show (decide _ : Bool) = _
      simp [S_eq]
    rw [e]
    by_cases h : k = l
    · subst h; simp
    · have h' : ¬ l = k := fun z => h z.symm
      simp [h, h']
theorem flat_strs (ls : List Str) : (ls.map V.str).all flatV = true := by
  rw [List.all_eq_true]
  intro v hv
  obtain ⟨z, _, rfl⟩ := List.mem_map.mp hv
  rfl
theorem od_inL {l : List Nat} {ls : List (List Nat)} : OpD X (compareOp .In) (.str (S l)) (.lst (SL ls)) (.bl (decide (l ∈ ls))) := .of op_in_seq fun a b H q m hm h1 h2 k => by
  cases h1
  cases h2 with
  | lst s1 r1 =>
    rw [SL_strs] at r1
    rw [r1.of_strs] at s1
    refine ⟨_, _, rfl, .inl ((hid_sub m H).sqL s1), rfl, flat_strs _, ?_⟩
    rw [inV_SL]
    exact k _ H (Sub.refl H) (.bl _)
theorem od_notinL {l : List Nat} {ls : List (List Nat)} : OpD X (compareOp .NotIn) (.str (S l)) (.lst (SL ls)) (.bl (!decide (l ∈ ls))) := .of op_notIn_seq fun a b H q m hm h1 h2 k => by
  cases h1
  cases h2 with
  | lst s1 r1 =>
    rw [SL_strs] at r1
    rw [r1.of_strs] at s1
    refine ⟨_, _, rfl, .inl ((hid_sub m H).sqL s1), rfl, flat_strs _, ?_⟩
    rw [inV_SL]
    exact k _ H (Sub.refl H) (.bl _)
theorem od_inT {l : List Nat} {ls : List (List Nat)} : OpD X (compareOp .In) (.str (S l)) (.tup (SL ls)) (.bl (decide (l ∈ ls))) := .of op_in_seq fun a b H q m hm h1 h2 k => by
  cases h1
  cases h2 with
  | tup s1 r1 =>
    rw [SL_strs] at r1
    rw [r1.of_strs] at s1
    refine ⟨_, _, rfl, .inr ((hid_sub m H).sqT s1.sq), rfl, flat_strs _, ?_⟩
    rw [inV_SL]
    exact k _ H (Sub.refl H) (.bl _)
theorem od_notinT {l : List Nat} {ls : List (List Nat)} : OpD X (compareOp .NotIn) (.str (S l)) (.tup (SL ls)) (.bl (!decide (l ∈ ls))) := .of op_notIn_seq fun a b H q m hm h1 h2 k => by
  cases h1
  cases h2 with
  | tup s1 r1 =>
    rw [SL_strs] at r1
    rw [r1.of_strs] at s1
    refine ⟨_, _, rfl, .inr ((hid_sub m H).sqT s1.sq), rfl, flat_strs _, ?_⟩
    rw [inV_SL]
    exact k _ H (Sub.refl H) (.bl _)
theorem xo_none {Q : Option Int → En → Prop} (h : Q none Γ) : XO X μ none Γ Q := PO.imp po_none fun σ H q ⟨R, k⟩ => k H none Γ rfl (Fw.refl _ _) R h
theorem xo_some {Q : Option Int → En → Prop} (h : XE X μ e Γ fun d Γ1 => ∃ i, d = .int i ∧ Q (some i) Γ1) : XO X μ (some e) Γ Q := PO.imp (po_some h) fun σ H q ⟨R, k⟩ => ⟨R, fun v H1 d Γ1 s1 f1 R1 r1 ⟨i, hd, hq⟩ => by
  subst hd
  cases r1
  exact ⟨i, rfl, k H1 (some i) Γ1 s1 f1 R1 hq⟩⟩
def SlD (X : Cx) (x : D) (lo hi : Option Int) (d : D) : Prop := SlR X fun a l u H q => l = lo ∧ u = hi ∧ ∃ m : Addr → Bool, (∀ a, m a = true → ∃ o, H a = some o ∧ nT o = true) ∧ Rp X.K (hid m H) a x ∧ ∀ v H', Sub H H' → Rp X.K (hid m H') v d → q v H'
def uSl (X : Cx) : V → Option Int → Option Int → Hp → VK → Prop := fun a l u H q => ∃ r, SlR X r ∧ r a l u H q
theorem sl_u : SlR X (uSl X) := fun pins s σ H x v vl vu lo hi sl Q I rx hs pl pu ⟨_, h, q⟩ => h pins s σ H x v vl vu lo hi sl Q I rx hs pl pu q
theorem SlD.of {lo hi : Option Int} {r : V → Option Int → Option Int → Hp → VK → Prop} (h : SlR X r) (i : ∀ a H q m, (∀ a, m a = true → ∃ o, H a = some o ∧ nT o = true) → Rp X.K (hid m H) a x → (∀ v H', Sub H H' → Rp X.K (hid m H') v d → q v H') → r a lo hi H q) : SlD X x lo hi d :=
  fun pins s σ H a v vl vu l u sl Q I rx hs pl pu ⟨e1, e2, m, hm, h1, k⟩ => by
    subst e1; subst e2
    exact h pins s σ H a v vl vu l u sl Q I rx hs pl pu (i a H Q m hm h1 k)
theorem xe_slice {lo hi : Option Expr} {p2 : Pos} (h : XE X μ e Γ fun x Γ1 => XO X μ lo Γ1 fun l Γ2 => XO X μ hi Γ2 fun u Γ3 => ∃ d, SlD X x l u d ∧ Q d Γ3) : XE X μ (.Subscript e (.Slice lo hi none p2) pos) Γ Q :=
  PE.imp (pe_slice sl_u h po_u po_u) fun σ H q ⟨R, k⟩ => ⟨R, fun v H1 x Γ1 s1 f1 R1 r1 hl => ⟨_, hl, R1, fun H2 l Γ2 s2 f2 R2 hu => ⟨_, hu, R2, fun H3 u Γ3 s3 f3 R3 ⟨d, ho, hq⟩ => ⟨_, ho, rfl, rfl, tot μ.m Γ3.c, R3.domT, r1.mono (f2.trans f3).sub, fun z H4 e4 r4 => k z H4 d Γ3 ((s3.trans s2).trans s1) (((f1.trans f2).trans f3).trans (Fw.of_sub e4)) (R3.more e4) r4 hq⟩⟩⟩⟩
def cutD {α : Type} (xs : List α) (lo hi : Option Int) : List α := (xs.drop (HT.sIx xs.length 0 lo)).take (HT.sIx xs.length xs.length hi - HT.sIx xs.length 0 lo)
theorem cutD_to {α : Type} (xs : List α) (k : Nat) : cutD xs none (some (k : Int)) = xs.take k := by
  unfold cutD
  rw [HT.sIx_nat, HT.sIx_none, List.drop_zero, Nat.sub_zero]
  rcases Nat.le_total k xs.length with h | h
  · rw [Nat.min_eq_left h]
  · rw [Nat.min_eq_right h, List.take_of_length_le h, List.take_length]
theorem cutD_from {α : Type} (xs : List α) (k : Nat) : cutD xs (some (k : Int)) none = xs.drop k := by
  unfold cutD
  rw [HT.sIx_nat, HT.sIx_none]
  rcases Nat.le_total k xs.length with h | h
  · rw [Nat.min_eq_left h]
    exact List.take_of_length_le (by rw [List.length_drop]; omega)
  · rw [Nat.min_eq_right h, Nat.sub_self, List.take_zero, List.drop_of_length_le h]
theorem RpA.cut {G : Hp} {vs : List V} {ds : List D} {lo hi : Option Int} (r : RpA K G vs ds) : RpA K G (cutV vs lo hi) (cutD ds lo hi) := by
  unfold cutV cutD
  rw [r.length]
  exact (r.drop _).take _
theorem sd_lst {xs : List D} {lo hi : Option Int} : SlD X (.lst xs) lo hi (.lst (cutD xs lo hi)) := .of sl_list fun a H q m hm h1 k => by
  cases h1 with
  | @lst a1 us _ s2 r2 =>
    exact ⟨_, _, rfl, (hid_sub m H).sqL s2, fun p hp => k _ _ (sub_upd hp) (.lst (.of (hid_upd (fresh_m hm hp))) (r2.cut.mono (sub_hid (sub_upd hp))))⟩
theorem sd_tup {xs : List D} {lo hi : Option Int} : SlD X (.tup xs) lo hi (.tup (cutD xs lo hi)) := .of sl_tupA fun a H q m hm h1 k => by
  cases h1 with
  | @tup a1 us _ s2 r2 =>
    refine ⟨_, _, rfl, (hid_sub m H).sqT s2.sq, fun hw => ?_, fun _ p hp => k _ _ (sub_upd hp) (.tup (.of (hid_upd (fresh_m hm hp))) (r2.cut.mono (sub_hid (sub_upd hp))))⟩
    have e : cutD xs lo hi = xs := by
      unfold cutD
      rw [r2.length] at hw
      rw [hw.1, hw.2, List.drop_zero, Nat.sub_zero, List.take_length]
    rw [e] at k
    exact k _ H (Sub.refl H) (.tup s2 r2)
theorem sd_str {l : List Nat} {lo hi : Option Int} (hl : l.length ≤ 100000) : SlD X (.str (S l)) lo hi (.str (S (cutD l lo hi))) := .of sl_str fun a H q m hm h1 k => by
  cases h1
  refine ⟨_, rfl, by rw [S_len]; exact Nat.le_trans hl (by decide), ?_⟩
  have e : cutS (S l) lo hi = S (cutD l lo hi) := by
    unfold cutS cutD
    rw [S_len]
    rfl
  rw [e]
  exact k _ H (Sub.refl H) (.str _)
theorem rev_pick (l : List Nat) : ((Builtin.Str.strSliceIndices none none (-1) l.length).filterMap (l.toArray[·]?)) = l.reverse := by
  have e : Builtin.Str.strSliceIndices none none (-1) l.length = sliceRange ((l.length : Int) - 1) (-1) (-1) := by
    unfold Builtin.Str.strSliceIndices
    simp
  rw [e, PySem.W.krv_sliceRange, PySem.W.krv_range, List.filterMap_reverse]
  congr 1
  have h := PySem.W.krv_all l.toArray
  simpa using h
def tRevS (te : TE) : TE := fun σ H Q => te σ H fun x H1 => ∃ l : List Nat, x = .str (S l) ∧ l.length ≤ sizeLine ∧ Q (.str (S l.reverse)) H1
theorem pe_revS {te : TE} {k : Nat} {p1 p2 p3 : Pos} (he : PE X e te) : PE X (.Subscript e (.Slice none none (some (.UnaryOp .USub (.Constant (.int 1) k p1) p2)) p3) pos) (tRevS te) := by
  refine ⟨fun pins s σ H Q I h => ?_⟩
  refine Subscript_ (thn (he.run pins s σ H _ I h) fun v s1 ⟨x, H1, I1, r1, q1⟩ => ?_)
  obtain ⟨l, ex, hz, q⟩ := q1
  subst ex
  obtain ⟨t, rfl⟩ := r1
  have hst : PO X (some (.UnaryOp .USub (.Constant (.int 1) k p1) p2)) (tPart (tUn (rU fun i => .int (-i)) (tC (.int 1)))) := po_some (pe_un un_neg pe_int)
  refine wpAny_Slice (thn (po_none.run pins s1 σ H1 (fun o H2 => o = none ∧ H2 = H1) I1 ⟨rfl, rfl⟩) fun vl s2 ⟨l0, H2, I2, pl, el, e2⟩ => ?_)
  subst el e2
  refine thn (po_none.run pins s2 σ H2 (fun o H3 => o = none ∧ H3 = H2) I2 ⟨rfl, rfl⟩) fun vu s3 ⟨u, H3, I3, pu, eu, e3⟩ => ?_
  subst eu e3
  refine thn (hst.run pins s3 σ H3 (fun o H4 => o = some (-1) ∧ H4 = H3) I3 ⟨1, rfl, -1, rfl, rfl, rfl⟩) fun vs s4 ⟨o, H4, I4, ps, eo, e4⟩ => ?_
  subst eo e4
  have I5 : Inv X pins σ H4 { s4 with heap := s4.heap.push { cls := .type "slice", data := .fields #[vl, vu, vs] } } := I4.kept (t' := s4.toks) fun b ob q => Heap.get?_push_of_some _ q
  cases pl
  cases pu
  obtain ⟨sv, tk, rfl⟩ : ∃ sv : Unit, ∃ tk, vs = .int (-1) tk := by
    cases ps with
    | int i t => exact ⟨(), t, rfl⟩
  show wpAny (model X.prog X.w) X.A (subscriptTail e (.Slice none none (some (.UnaryOp .USub (.Constant (.int 1) k p1) p2)) p3) (.str (S l) t) (.ref s4.heap.objs.size)) (EP X pins σ Q) X.xe { s4 with heap := s4.heap.push { cls := .type "slice", data := .fields #[.none, .none, .int (-1) tk] } }
  refine tail_any (ops := [.ref s4.heap.objs.size, .str (S l) t]) (typeIs_str _ _ _) F.slot_str_getitem.lookup ?_ (by with_unfolding_all rfl)
  refine wpAny_getItem_str_slice (l := none) (u := none) (st := some (-1, tk)) ⟨_, Heap.get?_push_size _ rfl, rfl, rfl⟩ (by rfl) ?_
  have e : sliceMade (S l) t none none (some (-1, tk)) = Made.str (S l.reverse) := by
    unfold sliceMade slicePicked
    have h1 : (((some ((-1 : Int), tk)).map (·.1)).getD 1 == 1) = false := by rfl
    rw [h1, Bool.false_and, if_neg Bool.false_ne_true]
    show Made.str ⟨((Builtin.Str.strSliceIndices none none (-1) (S l).length).filterMap (l.toArray[·]?)).toArray⟩ = _
    rw [S_len, rev_pick]
    rfl
  rw [e]
  exact ⟨by rw [S_len, List.length_reverse]; exact hz, .str _, H4, I5.tok _, ⟨_, rfl⟩, q⟩
theorem xe_revS {k : Nat} {p1 p2 p3 : Pos} (h : XE X μ e Γ fun x Γ1 => ∃ l, x = .str (S l) ∧ l.length ≤ 100000 ∧ Q (.str (S l.reverse)) Γ1) : XE X μ (.Subscript e (.Slice none none (some (.UnaryOp .USub (.Constant (.int 1) k p1) p2)) p3) pos) Γ Q :=
  PE.imp (pe_revS h) fun σ H q ⟨R, k⟩ => ⟨R, fun v H1 x Γ1 s1 f1 R1 r1 ⟨l, hx, hl, hq⟩ => by
    subst hx
    cases r1
    exact ⟨l, rfl, Nat.le_trans hl (by decide), k _ H1 _ Γ1 s1 f1 R1 (.str _) hq⟩⟩
def idx (l : List Nat) (c : Nat) : Nat := l.findIdx fun x => x == c
theorem idx_at {l : List Nat} {c : Nat} (h : c ∈ l) : l[idx l c]? = some c := by
  have hl : idx l c < l.length := List.findIdx_lt_length_of_exists ⟨c, h, by simp⟩
  have := List.findIdx_getElem (xs := l) (p := fun x => x == c) (w := hl)
  rw [List.getElem?_eq_getElem hl]
  exact congrArg some (by simp at this; exact this)
theorem idx_lt {l : List Nat} {c i : Nat} (h : i < idx l c) : l[i]? ≠ some c := by
  intro e
  obtain ⟨hl, e⟩ := List.getElem?_eq_some_iff.mp e
  have := List.not_of_lt_findIdx h
  simp [e] at this
theorem occ_full (s sub : Str) (hi : Nat) : ∀ (l : List Nat) (st : Array Nat × Nat), st.fst.size = 1 → (forIn l st (PySem.StrLaws.occBody s sub hi 1)).run.fst = st.fst
  | [], st, h => rfl
  | a :: l, st, h => by
    rw [List.forIn_cons]
    unfold PySem.StrLaws.occBody
    rw [if_neg (fun q => absurd q.1.1.1 (by omega))]
    exact occ_full s sub hi l _ h
theorem occ_first (s sub : Str) (hi j : Nat) (post : List Nat) (hj : j + sub.length ≤ hi ∧ Builtin.Str.subAt s sub j = true) : ∀ (pre : List Nat) (free : Nat), (∀ i ∈ pre ++ j :: post, free ≤ i) → (∀ i ∈ pre, ¬ (i + sub.length ≤ hi ∧ Builtin.Str.subAt s sub i = true)) →
    (forIn (pre ++ j :: post) ((#[] : Array Nat), free) (PySem.StrLaws.occBody s sub hi 1)).run.fst = #[j]
  | [], free, hf, _ => by
    rw [List.nil_append, List.forIn_cons]
    unfold PySem.StrLaws.occBody
    rw [if_pos ⟨⟨⟨by simp, hf j (by simp)⟩, hj.1⟩, hj.2⟩]
    exact occ_full s sub hi post _ (by simp)
  | a :: pre, free, hf, hp => by
    rw [List.cons_append, List.forIn_cons]
    unfold PySem.StrLaws.occBody
    rw [if_neg (fun q => hp a List.mem_cons_self ⟨q.1.2, q.2⟩)]
    exact occ_first s sub hi j post hj pre free (fun i h => hf i (List.mem_cons_of_mem _ h)) (fun i h => hp i (List.mem_cons_of_mem _ h))
theorem occ_sign (l : List Nat) (c : Nat) (h : c ∈ l) : ∃ rest, Builtin.Str.occurrences (S l) (S [c]) 0 (S l).length 1 = idx l c :: rest := by
  have hl : idx l c < l.length := List.findIdx_lt_length_of_exists ⟨c, h, by simp⟩
  have e : List.range' 0 (l.length + 1 - 0) = List.range' 0 (idx l c) ++ idx l c :: List.range' (idx l c + 1) (l.length - idx l c) := by
    have e1 : l.length + 1 - 0 = idx l c + (l.length - idx l c + 1) := by omega
    rw [e1, ← List.range'_append_1, Nat.zero_add, List.range'_succ]
  refine ⟨[], ?_⟩
  rw [PySem.StrLaws.occ_eq, S_len, e, occ_first (S l) (S [c]) l.length (idx l c) _ ?_ _ 0 (fun _ _ => Nat.zero_le _) ?_]
  · have := (PySem.StrLaws.subAt_one (S l) c (idx l c)).mpr (idx_at h)
    rw [S_len] at this
    exact this
  · intro i hi hq
    have hi : i < idx l c := by simpa using hi
    have := (PySem.StrLaws.subAt_one (S l) c i).mp (by rw [S_len]; exact hq)
    exact idx_lt hi this
theorem mt_index1 : MtR X "str.index" (fun x xs H Q => ∃ (l : List Nat) (c : Nat), x = .str (S l) ∧ xs = [.str (S [c])] ∧ c ∈ l ∧ Q (.int (idx l c : Nat)) H) := by
  intro pins s σ H x xs v us Q I rx rs h
  obtain ⟨l, c, rfl, rfl, hc, q⟩ := h
  obtain ⟨t, rfl⟩ := rx
  cases rs with
  | cons r1 rs =>
    cases rs
    obtain ⟨u, rfl⟩ := r1
    obtain ⟨rest, e⟩ := occ_sign l c hc
    exact PySem.SC.index e ⟨.int (idx l c : Nat), H, I.tok _, ⟨_, rfl⟩, q⟩
theorem md_index {l : List Nat} {c : Nat} (h : c ∈ l) : MtD X "str.index" (.str (S l)) [.str (S [c])] (.int (idx l c : Nat)) := .of mt_index1 fun v vs H q m hm h1 h2 k => by
  obtain ⟨u, rfl, r⟩ := h2.one
  cases h1; cases r
  exact ⟨l, c, rfl, rfl, h, k _ H (Sub.refl H) (.int _)⟩
structure OCls (K : PySem.W.Frag) (C : Addr) : Prop where
  c : Cls K C
  ha : PySem.W.findIn K (.ref C) "__class__" = some (some (.builtin "object.__class__"))
  hn : PySem.W.specialIn K (.builtin "object.__class__") "__get__" = some (some (.builtin "getset_descriptor.__get__"))
  htk : PySem.W.takesIn K (.builtin "object.__class__") = some true
  hm : PySem.W.mroIn K C (.type "object") = some true
inductive TyD (K : PySem.W.Frag) : D → Value → Prop
  | non : TyD K .non (.type "NoneType")
  | bl {b : Bool} : TyD K (.bl b) (.type "bool")
  | int {i : Int} : TyD K (.int i) (.type "int")
  | str {z : Str} : TyD K (.str z) (.type "str")
  | lst {xs : List D} : TyD K (.lst xs) (.type "list")
  | tup {xs : List D} : TyD K (.tup xs) (.type "tuple")
  | tupx {xs : List D} : TyD K (.tupx xs) (.type "tuple")
  | dct {xs : List (Key × D)} : TyD K (.dct xs) (.type "dict")
  | ins {C : Addr} {fs : List (Str × D)} (o : OCls K C) : TyD K (.ins C fs) (.ref C)
theorem TyD.tyx {G : Hp} {v : V} {d : D} {t : Value} (h : TyD K d t) (r : Rp K G v d) : TyX K G v t := by
  cases h with
  | non => cases r; exact .base .non
  | bl => cases r; exact .base (.bl _)
  | int => cases r; exact .base (.int _)
  | str => cases r; exact .base (.str _)
  | lst =>
    cases r with
    | lst s r =>
      rcases s with (s | ⟨o, s⟩) | ⟨o, its, n, hk, hc, _⟩
      · exact .base (.lst s)
      · exact .base (.frz s)
      · exact .kList hk hc
  | tup =>
    cases r with
    | tup s r => exact .base (.tup s)
  | tupx =>
    cases r with
    | tupx s r =>
      rcases s with (s | ⟨o, s⟩) | ⟨o, its, n, hk, hc, _⟩
      · exact .base (.tup s)
      · exact .fTuple s
      · exact .kTuple hk hc
  | dct =>
    cases r with
    | dct s r => exact .base (.dK s)
  | ins o =>
    cases r with
    | ins s r => exact .base (.ins s o.c o.ha o.hn o.htk o.hm)
inductive ClD : D → Value → Prop
  | ty {n : String} : ClD (.ty n) (.type n)
  | own {C : Addr} : ClD (.ref C) (.ref C)
theorem cd_isi {t u : Value} {r : Bool} (hx : TyD X.K x t) (hc : ClD y u) (h : PySem.W.kitOne X.K t u = some r) : CallD X (.builtin "isinstance") [x, y] (.bl r) := .of call_isi fun vs H q m hm h1 k => by
  obtain ⟨v, w, rfl, r1, r2⟩ := h1.two
  refine ⟨v, w, t, u, r, rfl, ?_, hx.tyx (r1.mono (hid_sub m H)), h, k _ H (Sub.refl H) (.bl r)⟩
  cases hc <;> cases r2
  · exact .ty _
  · exact .own _
/-- the name of a built-in type -/
theorem xe_ty {xn : Str} {T : String} (hg : Gl X xn) (hm : X.mg xn = none) (hv : bootBuiltins xn = some (.type T)) (h : Q (.ty T) Γ) (hn : xn ≠ "__name__" := by decide) (hd : (xn == ("__debug__" : Str)) = false := by decide) : XE X μ (.Name xn pos) Γ Q :=
  PE.imp (pe_bltn (v := .ty T) hg hm hv rfl hn hd) fun σ H q ⟨R, k⟩ => k _ H _ Γ rfl (Fw.refl _ _) R (.ty T) h
theorem xg_ix {i : Nat} {xn : Str} {p : Addr} {np : Pos} {ix : Expr} {Q : En → Prop} (hN : X.N[i]? = some xn) (hv : Vis X.env.scope xn) (hx : Γ.s[i]? = some (some (.ref p)))
    (h : XE X μ ix Γ fun z Γ1 => ∃ c1 xs c2 k j, Γ1.c = c1 ++ (p, .lst xs) :: c2 ∧ z = .int k ∧ ixN xs.length k = some j ∧ Q ⟨Γ1.s, c1 ++ (p, .lst (xs.set j d)) :: c2⟩)
    (h1 : (xn == ("__debug__" : Str)) = false := by decide) (h2 : (xn == ("__classdict__" : Str)) = false := by decide)
    (ha : ∀ v, assign (.Subscript (.Name xn np) ix pos) X.env v = (do
      let ov ← holding [v] (eval (.Name xn np) X.env)
      let iv ← holding [v, ov] (eval ix X.env)
      standAt pos
      holding [v, ov, iv] (setItem ov iv v)
      release [v, ov, iv] []) := by intro _; rfl) : XG X μ (.Subscript (.Name xn np) ix pos) d Γ Q := by
  have hv' : XE X μ (.Name xn np) Γ fun x Γ1 => x = .ref p ∧ Γ1 = Γ := xe_var hN hv hx ⟨rfl, rfl⟩ h1 h2
  refine PG.imp (pg_sub hv' h set_list ha) fun v σ H q ⟨R, r, k⟩ => ?_
  refine ⟨R, fun w H1 x Γ1 s1 f1 R1 r1 ⟨hx, hG⟩ => ?_⟩
  subst hx; subst hG
  cases r1
  refine ⟨R1, fun z H2 d2 Γ2 s2 f2 R2 r2 ⟨c1, xs, c2, kk, j, ec, hz, hj, hq⟩ => ?_⟩
  obtain ⟨sl2, cc2⟩ := Γ2
  have ec : cc2 = c1 ++ (p, .lst xs) :: c2 := ec
  subst ec
  subst hz
  cases r2
  obtain ⟨us, hus, ru⟩ := cell_get R2.co
  have rd := r.mono ((f1.trans f2).sub (m := μ.m))
  obtain ⟨R3, f3⟩ := R2.put (cl' := .lst (xs.set j d)) (o := .lst (us.set j v)) ⟨_, rfl, ru.set rd j⟩
  exact ⟨p, us, kk, j, rfl, rfl, hus, by rw [ru.length]; exact hj, k _ _ ⟨sl2, c1 ++ (p, .lst (xs.set j d)) :: c2⟩ ((f1.trans f2).trans f3) R3 hq⟩
def putD (kvs : List (Key × D)) (k : Key) (v : D) : List (Key × D) :=
  if (kvs.any fun kv => decide (kv.1 = k)) = true then kvs.map (fun kv => if kv.1 = k then (kv.1, v) else kv) else kvs ++ [(k, v)]
theorem RpK.length {G : Hp} : ∀ {vs : List (Key × V)} {ds : List (Key × D)}, RpK K G vs ds → vs.length = ds.length
  | _, _, .nil => rfl
  | _, _, .cons _ r => by simp [RpK.length r]
theorem RpK.keys {G : Hp} : ∀ {vs : List (Key × V)} {ds : List (Key × D)}, RpK K G vs ds → vs.map (·.1) = ds.map (·.1)
  | _, _, .nil => rfl
  | _, _, .cons _ r => by simp [RpK.keys r]
theorem RpK.app {G : Hp} : ∀ {vs us : List (Key × V)} {ds es : List (Key × D)}, RpK K G vs ds → RpK K G us es → RpK K G (vs ++ us) (ds ++ es)
  | _, _, _, _, .nil, r => r
  | _, _, _, _, .cons h t, r => .cons h (RpK.app t r)
theorem RpK.put {G : Hp} {vs : List (Key × V)} {ds : List (Key × D)} {kk : Key} {v : V} (r : RpK K G vs ds) (rv : Rp K G v d) : RpK K G (putK vs kk v) (putD ds kk d) := by
  have ea : (vs.any fun kv => decide (kv.1 = kk)) = (ds.any fun kv => decide (kv.1 = kk)) := by
    have h1 : (vs.any fun kv => decide (kv.1 = kk)) = (vs.map (·.1)).any fun z => decide (z = kk) := by rw [List.any_map]; rfl
    have h2 : (ds.any fun kv => decide (kv.1 = kk)) = (ds.map (·.1)).any fun z => decide (z = kk) := by rw [List.any_map]; rfl
    rw [h1, h2, r.keys]
  unfold putK putD
  rw [ea]
  split
  · clear ea
    have go : ∀ {vs : List (Key × V)} {ds : List (Key × D)}, RpK K G vs ds → RpK K G (vs.map (fun kv => if kv.1 = kk then (kv.1, v) else kv)) (ds.map (fun kv => if kv.1 = kk then (kv.1, d) else kv)) := by
      intro vs ds r
      induction vs generalizing ds with
      | nil => cases r; exact .nil
      | cons x vs ih =>
        cases r with
        | @cons k0 v0 d0 _ _ h t =>
          rw [List.map_cons, List.map_cons]
          by_cases hk : k0 = kk
          · simp only [hk, if_true]
            exact .cons rv (ih t)
          · simp only [hk, if_false]
            exact .cons h (ih t)
    exact go r
  · exact r.app (.cons rv .nil)
def kD : Key → D
  | .inl i => .int i
  | .inr x => .str x
theorem cd_len_dct {xs : List (Key × D)} : CallD X (.builtin "len") [.dct xs] (.int xs.length) := .of call_lenD fun vs H q m hm h1 k => by
  obtain ⟨v, rfl, r⟩ := h1.one
  cases r with
  | dct s1 r1 => exact ⟨_, _, rfl, hid_sub m H _ _ s1, by rw [r1.length]; exact k _ H (Sub.refl H) (.int _)⟩
end
end Pdl
namespace Pdl
open PySem L2 PyProof.Rows
section
variable {prog : Program} {w : World} {A : Around} {E : Value → Shared → Prop} {s : Shared} {K : PySem.W.Frag} {x C L f : Addr} {h₀ : Heap} {m : Str → Option Value} {ox : Obj} {od : Option Obj} {b tb : Value}
open PySem.W in
theorem ifBound_KB {M : Model} {id : String} {T : String} {name : Str} {args : List Value} {Q : Option Value → Shared → Prop} (X : K.In s.heap) (I : InstAt s.heap x ox C od) (hs : findIn K (.ref C) name = some (some (.builtin id))) (sl : Slot T name id)
    (h : wpAny M A (call (.builtin id) (.ref x :: args)) (fun v => Q (some v)) E s) : wpAny M A (callSpecialIfBound? (.ref x) name args) Q E s := by
  simp only [callSpecialIfBound?, bindSpecialIfBound?]
  refine wpAny_holding (wpAny_bind (wpAny_bind (wpAny_bind (I.type.here ((looks_findIn X hs).here ?_)))))
  simp only [sl.bind]
  refine wpAny_bind (wpAny_askSetting (wpAny_ite ?_))
  have fin : wpAny M A (call (.builtin id) ([.ref x] ++ args) >>= fun v => pure (some v)) Q E s := wpAny_bind (wpAny_mono h (fun v s' h' => wpAny_pure h') fun _ _ h' => h')
  split
  · exact wpAny_bind (wpAny_pure (wpAny_pure fin))
  · exact wpAny_tryCatch (wpAny_bind (wpAny_pure (wpAny_pure fin)))
open PySem.W in
theorem ne_K {Q : Value → Shared → Prop} (hu : A.units + 1 < cLine) (X : K.In s.heap) (I : InstAt s.heap x ox C od) (hb : Looks (model prog w) s.heap (typeOf b) (.ref C))
    (hne : findIn K (.ref C) "__ne__" = some (some (.builtin "object.__ne__"))) (hob : subIn K (.ref C) (.type "object") = some true)
    (hs : findIn K (.ref C) "__eq__" = some (some (.ref f))) (hf : isFn K (.ref f) = true)
    (h : wpAny (model prog w) A.in1 (call (.ref f) [.ref x, b]) (fun v s' => ∃ c, v = .bool c ∧ Q (.bool (!c)) s') E s) : wpAny (model prog w) A (richCompare .NotEq (.ref x) b) Q E s := by
  have hu0 : A.units < cLine := Nat.lt_of_succ_lt hu
  have one : wpAny (model prog w) A (tryCompare (.ref x) "__ne__" b) (fun r s' => ∃ v, r = some v ∧ Q v s') E s := by
    unfold tryCompare
    refine wpAny_bind (ifBound_KB X I hne PySem.F.cmp_object.ne (wpAny_call (codeAny_call_builtin PySem.F.cmp_object.ne.plain F.cmpEntry_ne ?_)))
    refine check_slot F.cmpKind_ne F.cmpSplit_ne (I.type.andThen (looks_subIn X hob)) (F.cmpArgs_ne _ _) ?_
    unfold Builtin.«object.__ne__»
    repeat (first | with_reducible refine wpAny_cRoomFor hu ?_ | with_reducible refine ifBound_K X I hs hf (wpAny_mono h ?_ fun _ _ z => z) | wp_step)
    rintro v s' ⟨c, hv, hq⟩
    subst hv
    repeat (first | with_reducible refine wpAny_pure ?_ | wp_step)
    exact ⟨_, rfl, hq⟩
  unfold richCompare
  simp only [oneThing_ref, cmpInfo_NotEq]
  refine wpAny_holding (wpAny_bind (wpAny_cRoomFor hu0 ?_))
  refine wpAny_bind (I.type.here (wpAny_bind (hb.here ?_)))
  split
  · rename_i q
    simp at q
  · refine wpAny_bind (wpAny_pure ?_)
    simp only [Bool.false_eq_true, if_false]
    refine wpAny_bind (wpAny_mono one (fun r s' z => ?_) fun _ _ e => e)
    obtain ⟨v, rfl, hq⟩ := z
    exact wpAny_pure hq
end
section
variable {X : Cx} {μ : Md} {Γ Γ' : En} {Q : QE} {a b c e o : Expr} {es : List Expr} {pos apos cpos : Pos} {P P' : Po} {st : Stmt} {sts : List Stmt} {m : Addr → Bool} {H : Hp} {K : PySem.W.Frag} {x y d : D}
theorem op_neOwn {k : Nat} {C f : Addr} {fd : FuncData} {ps : List Str} {sp : Sp} {E : XK} (F : FnOk X.prog X.w X.K X.mg X.base CX0 k f fd ps sp) (hne : PySem.W.findIn X.K (.ref C) "__ne__" = some (some (.builtin "object.__ne__"))) (hob : PySem.W.subIn X.K (.ref C) (.type "object") = some true)
    (hs : PySem.W.findIn X.K (.ref C) "__eq__" = some (some (.ref f))) (hf : PySem.W.isFn X.K (.ref f) = true) (hb : Binds X.K fd ps []) (hr : Room (k + 1) X.A) :
    OpR X (compareOp .NotEq) (fun x y H Q => ∃ a b dx dy fs gs, x = .ref a ∧ y = .ref b ∧ H a = some (.ins C dx fs) ∧ H b = some (.ins C dy gs) ∧ sp [.ref a, .ref b] H (fun v H' => ∃ c, v = .bl c ∧ Q (.bl (!c)) H') E) := by
  intro pins s σ H x y u v Q I rx ry ⟨a, b, dx, dy, fs, gs, ex, ey, ha, hb', hsp⟩
  subst ex; subst ey
  cases rx
  cases ry
  obtain ⟨mA, J, _⟩ := ins_get I.hok ha
  obtain ⟨mB, J', _⟩ := ins_get I.hok hb'
  obtain ⟨od, J, _⟩ := J.look
  obtain ⟨od', J', _⟩ := J'.look
  refine ne_K (by have := hr.units; omega) I.kIn J J'.type hne hob hs hf ?_
  have hl := F.len _ _ _ _ hsp
  have r2 : Vals [V.ref a, V.ref b] [Value.ref a, Value.ref b] := .cons rfl (.cons rfl .nil)
  refine wpAny_call (codeAny_mono (F.run X.A.in1 X.stack s H ⟨[.ref a, .ref b], []⟩ [.ref a, .ref b] [.ref a, .ref b] _ E hr.in1 I.env0.in1 (by
    have := hb s [.ref a, .ref b] I.kIn (by simpa using hl)
    simpa using this) r2 hsp) fun r s' hq => ?_)
  cases r with
  | error e => exact hq.elim
  | ok fl =>
    cases fl with
    | ret w =>
      obtain ⟨z, H', I', rz, c, ez, q⟩ := I.after hq
      subst ez
      cases rz
      exact ⟨c, rfl, .bl (!c), H', I', rfl, q⟩
    | next => exact False.elim hq
    | brk => exact False.elim hq
    | cont => exact False.elim hq
/-- the class at C has an own ==, with its promise -/
def EqD (P : Program) (w : World) (K : PySem.W.Frag) (mg : Str → Option Value) (base : Heap) (C : Addr) (k : Nat) (S : PSp) : Prop :=
  ∃ (f : Addr) (fd : FuncData) (ps : List Str), FnOk P w K mg base CX0 k f fd ps (spD K (pS S)) ∧ PySem.W.findIn K (.ref C) "__ne__" = some (some (.builtin "object.__ne__")) ∧ PySem.W.subIn K (.ref C) (.type "object") = some true ∧
    PySem.W.findIn K (.ref C) "__eq__" = some (some (.ref f)) ∧ PySem.W.isFn K (.ref f) = true ∧ Binds K fd ps []
theorem od_neOwn {k : Nat} {C : Addr} {S : PSp} {fs gs : List (Str × D)} {r : Bool} (M : EqD X.prog X.w X.K X.mg X.base C k S) (hr : Room (k + 1) X.A) (h : ∀ Qc : D → Prop, Qc (.bl r) → S [.ins C fs, .ins C gs] Qc) : OpD X (compareOp .NotEq) (.ins C fs) (.ins C gs) (.bl (!r)) := by
  obtain ⟨f, fd, ps, F, hne, hob, hs, hf, hb⟩ := M
  refine .of (op_neOwn (E := fun _ _ _ => False) F hne hob hs hf hb hr) fun a b H q m hm h1 h2 k => ?_
  cases h1 with
  | @ins a1 _ dx fv _ s1 r1 =>
    cases h2 with
    | @ins a2 _ dy gv _ s2 r2 =>
      refine ⟨a1, a2, dx, dy, fv, gv, rfl, rfl, hid_sub m H _ _ s1, hid_sub m H _ _ s2, m, [.ins C fs, .ins C gs], [], ?_, ?_, rfl, h _ fun v H' f co rv => ?_⟩
      · exact ⟨hm, List.nodup_nil, fun p hp => (by cases hp), fun p hp => (by cases hp)⟩
      · have e : tot m [] = m := by funext a; simp [tot, inC]
        rw [e]
        exact .cons (.ins s1 r1) (.cons (.ins s2 r2) .nil)
      · cases rv
        exact ⟨r, rfl, k _ H' (fw_nil f) (.bl _)⟩
def putFD (f : Str) (v : D) : List (Str × D) → List (Str × D)
  | [] => [(f, v)]
  | (g, x) :: r => if g = f then (g, v) :: r else (g, x) :: putFD f v r
theorem RpF.put {G : Hp} {f : Str} {v : V} (rv : Rp K G v d) : ∀ {fs : List (Str × V)} {ds : List (Str × D)}, RpF K G fs ds → RpF K G (putF f v fs) (putFD f d ds)
  | _, _, .nil => .cons rv .nil
  | _, _, .cons (k := k) h t => by
    unfold putF putFD
    by_cases hk : k = f
    · simp only [hk, if_true]
      exact .cons rv t
    · simp only [hk, if_false]
      exact .cons h (RpF.put rv t)
/-- self.f = e, self an object that is being made -/
theorem xs_fld {i : Nat} {xn f : Str} {p C : Addr} {np pos' : Pos} (cl : Cls X.K C) (na : NoAttr X.K C f) (hN : X.N[i]? = some xn) (hv : Vis X.env.scope xn) (hx : Γ.s[i]? = some (some (.ref p)))
    (h : XE X μ e Γ fun d Γ1 => ∃ c1 fs c2, Γ1.c = c1 ++ (p, .ins C fs) :: c2 ∧ fs.length < 1000 ∧ P.nx ⟨Γ1.s, c1 ++ (p, .ins C (putFD f d fs)) :: c2⟩)
    (h1 : (xn == ("__debug__" : Str)) = false := by decide) (h2 : (xn == ("__classdict__" : Str)) = false := by decide)
    (hs : swapsWith e (some (.Attribute (.Name xn np) f pos')) pos.line X.env = pure false := by rfl) : XS X μ (.Assign [.Attribute (.Name xn np) f pos'] e pos) Γ P := by
  refine PS.imp (ps_fld (pe_var hN hv h1 h2) h hs) fun D σ H ⟨R, k, _⟩ => ?_
  refine ⟨R, fun w H1 d Γ1 s1 f1 R1 r1 ⟨c1, fs, c2, ec, hl, hq⟩ => ?_⟩
  obtain ⟨sl, cc⟩ := Γ1
  have ec : cc = c1 ++ (p, .ins C fs) :: c2 := ec
  subst ec
  have s1 : sl = Γ.s := s1
  obtain ⟨v, hv, rv⟩ := R1.slots.2 i (.ref p) (by show sl[i]? = _; rw [s1]; exact hx)
  cases rv
  obtain ⟨dx, us, hus, ru⟩ := cell_get R1.co
  obtain ⟨R3, f3⟩ := R1.put (cl' := .ins C (putFD f d fs)) (o := .ins C dx (putF f w us)) ⟨dx, _, rfl, ru.put r1⟩
  exact ⟨_, hv, p, C, dx, us, rfl, hus, cl, na, by rw [ru.length]; exact hl, k σ _ ⟨sl, c1 ++ (p, .ins C (putFD f d fs)) :: c2⟩ (f1.trans f3) R3 hq⟩
/-- o.f -/
theorem xe_fld {f : Str} (h : XE X μ o Γ fun z Γ1 => ∃ C fs d, z = .ins C fs ∧ Cls X.K C ∧ NoAttr X.K C f ∧ fs.lookup f = some d ∧ Q d Γ1) (hb : attributeBase o f X.env (eval o X.env) = eval o X.env := by rfl) : XE X μ (.Attribute o f pos) Γ Q :=
  PE.imp (pe_fld h hb) fun σ H q ⟨R, k⟩ => ⟨R, fun v H1 z Γ1 s1 f1 R1 r1 ⟨C, fs, d, hz, cl, na, hl, hq⟩ => by
    subst hz
    cases r1 with
    | ins g1 g2 =>
      obtain ⟨u, hu, ru⟩ := (RpF.lookup g2).1 d hl
      exact ⟨_, C, _, _, u, rfl, hid_sub _ _ _ _ g1, cl, na, hu, k u H1 d Γ1 s1 f1 R1 ru hq⟩⟩
/-- a property -/
def PropD (P : Program) (w : World) (K : PySem.W.Frag) (mg : Str → Option Value) (base : Heap) (C : Addr) (f : Str) (k : Nat) (S : SpD) : Prop :=
  ∃ (p g : Addr) (fd : FuncData) (ps : List Str), Cls K C ∧ PropOf K C f p g ∧ FnOk P w K mg base CX0 k g fd ps (spD K S) ∧ Binds K fd ps []
theorem xe_prop {k : Nat} {C : Addr} {f : Str} {S : SpD} (M : PropD X.prog X.w X.K X.mg X.base C f k S) (hr : Room (k + 1) X.A) (h : XE X μ o Γ fun z Γ1 => ∃ fs, z = .ins C fs ∧ Asks μ S Q [.ins C fs] Γ1)
    (hb : attributeBase o f X.env (eval o X.env) = eval o X.env := by rfl) : XE X μ (.Attribute o f pos) Γ Q := by
  obtain ⟨p, g, fd, ps, cl, pr, F, bd⟩ := M
  refine PE.imp pe_u fun σ H q ⟨R, k⟩ => ⟨_, pe_prop (E := wD X.K μ σ) h cl pr F hr bd .nil pass0' hb, R, fun v H1 z Γ1 s1 f1 R1 r1 ⟨fs, hz, hs⟩ => ?_⟩
  subst hz
  cases r1 with
  | @ins a _ dx fv _ g1 g2 =>
    refine ⟨a, dx, fv, rfl, hid_sub _ _ _ _ g1, ?_⟩
    exact asks_sp R1 (.cons (.ins g1 g2) .nil) hs fun v H2 d Γ2 s2 f2 R2 r2 hq => k v H2 d Γ2 (s2.trans s1) (f1.trans f2) R2 r2 hq
/-- a method -/
def MethD (P : Program) (w : World) (K : PySem.W.Frag) (mg : Str → Option Value) (base : Heap) (C : Addr) (f : Str) (k : Nat) (S : SpD) : Prop :=
  ∃ (g : Addr) (fd : FuncData) (ps : List Str), Cls K C ∧ Meth K C f g ∧ FnOk P w K mg base CX0 k g fd ps (spD K S) ∧ Binds K fd ps []
theorem xe_meth {pl : Sem Bool} {k : Nat} {C : Addr} {f : Str} {S : SpD} (M : MethD X.prog X.w X.K X.mg X.base C f k S) (hr : Room k X.A) (h : XE X μ o Γ fun z Γ1 => ∃ fs, z = .ins C fs ∧ fs.lookup f = none ∧ XA X μ (e :: es) Γ1 fun ds Γ2 => Asks μ S Q (.ins C fs :: ds) Γ2)
    (hst : starEach (e :: es) X.env = (false, eval e X.env) :: starEach es X.env := by rfl) (hpl : (backTo pos (starEach es X.env)).any (·.1) = false := by rfl)
    (ht : eval (.Call (.Attribute o f apos) (e :: es) [] pos) X.env = (do
      let ov ← eval o X.env
      standAt apos.atName
      let (f, first) ← holding [ov] (getMethod ov f pl)
      callWith pos f first (backTo pos (starEach (e :: es) X.env)) (backToKw pos (keywordEach [] X.env))) := by rfl) : XE X μ (.Call (.Attribute o f apos) (e :: es) [] pos) Γ Q := by
  obtain ⟨g, fd, ps, cl, mt, F, bd⟩ := M
  refine PE.imp pe_u fun σ H q ⟨R, k⟩ => ⟨_, pe_meth (E := wD X.K μ σ) h cl mt F hr bd .nil pass0' pa_u hst hpl ht, R, fun v H1 z Γ1 s1 f1 R1 r1 ⟨fs, hz, hl, hs⟩ => ?_⟩
  subst hz
  cases r1 with
  | @ins a _ dx fv _ g1 g2 =>
    refine ⟨a, dx, fv, rfl, hid_sub _ _ _ _ g1, (RpF.lookup g2).2 hl, _, hs, R1, fun vs H2 ds Γ2 s2 f2 R2 r2 ha => ?_⟩
    show spD X.K S (.ref a :: (vs ++ [])) H2 q (wD X.K μ σ)
    rw [List.append_nil]
    exact asks_sp R2 (.cons ((Rp.ins g1 g2).mono f2.sub) r2) ha fun v H3 d Γ3 s3 f3 R3 r3 hq => k v H3 d Γ3 ((s3.trans s2).trans s1) ((f1.trans f2).trans f3) R3 r3 hq
abbrev ISp := List D → (List (Str × D) → Prop) → Prop
def iS (C : Addr) (S : ISp) : SpD := fun ds c Q _ => ∃ x ds', ds = .ref x :: ds' ∧ c = [(x, .ins C [])] ∧ S ds' fun fs => Q .non [(x, .ins C fs)]
def MkD (P : Program) (w : World) (K : PySem.W.Frag) (mg : Str → Option Value) (base : Heap) (x : Str) (C : Addr) (k : Nat) (S : ISp) : Prop :=
  ∃ (f : Addr) (fd : FuncData) (ps : List Str), mg x = some (.ref C) ∧ Mk K C f ∧ FnOk P w K mg base CX0 k f fd ps (spD K (iS C S)) ∧ Binds K fd ps []
/-- a new object, in front of the cells -/
theorem Rel.newF {σ : L2.St} {s : List (Option D)} {cs : Cs} {p dx C : Addr} (R : Rel K μ H σ ⟨s, cs⟩) (hp : H p = none) (hdx : H dx = none) (hne : dx ≠ p) : Rel K μ (upd (upd H dx (.own p)) p (.ins C dx [])) σ ⟨s, (p, .ins C []) :: cs⟩ ∧
    Fw cs ((p, .ins C []) :: cs) H (upd (upd H dx (.own p)) p (.ins C dx [])) := by
  have e1 : Sub H (upd H dx (.own p)) := sub_upd hdx
  have hp1 : upd H dx (.own p) p = none := by rw [upd_ne (Ne.symm hne)]; exact hp
  have R1 := R.more e1
  obtain ⟨R2, f2⟩ := R1.newC (cl := .ins C []) (o := .ins C dx []) hp1 ⟨dx, [], rfl, .nil⟩
  have ti : ∀ a, inC (cs ++ [(p, Cell.ins C [])]) a = inC ((p, Cell.ins C []) :: cs) a := fun a => by
    rw [inC_app]
    simp only [inC, List.any_cons, List.any_nil, Bool.or_false]
    exact Bool.or_comm _ _
  have tt : tot μ.m (cs ++ [(p, Cell.ins C [])]) = tot μ.m ((p, Cell.ins C []) :: cs) := by
    funext a
    unfold tot
    rw [ti]
  refine ⟨⟨⟨R2.co.dom, ?_, fun q hq => R2.co.off q ?_, fun q hq => ?_⟩, ?_, ?_⟩, ?_⟩
  · have nd := R2.co.nd
    show (((p, Cell.ins C []) :: cs).map (·.1)).Nodup
    have pm : ((cs ++ [(p, Cell.ins C [])]).map (·.1)).Perm (((p, Cell.ins C []) :: cs).map (·.1)) := (List.perm_append_singleton _ _).map _
    exact pm.nodup_iff.mp nd
  · have hq : q ∈ (p, Cell.ins C []) :: cs := hq
    show q ∈ cs ++ [(p, Cell.ins C [])]
    rcases List.mem_cons.mp hq with h | h
    · rw [h]; simp
    · exact List.mem_append_left _ h
  · have := R2.co.cells q (by
      have hq : q ∈ (p, Cell.ins C []) :: cs := hq
      show q ∈ cs ++ [(p, Cell.ins C [])]
      rcases List.mem_cons.mp hq with h | h
      · rw [h]; simp
      · exact List.mem_append_left _ h)
    have this : CellRp K (hid (tot μ.m (cs ++ [(p, Cell.ins C [])])) _) _ q.2 := this
    rw [tt] at this
    exact this
  · have := R2.slots
    have this : SlotRp K (hid (tot μ.m (cs ++ [(p, Cell.ins C [])])) _) σ s := this
    rw [tt] at this
    exact this
  · intro a o h z
    obtain ⟨h1, h2⟩ := R2.fw a o h z
    exact ⟨h1, by rw [← ti]; exact h2⟩
  · intro a o h z
    obtain ⟨h1, h2⟩ := ((Fw.of_sub e1).trans f2) a o h z
    exact ⟨h1, by rw [← ti]; exact h2⟩
theorem xe_make {k : Nat} {xn : Str} {C : Addr} {S : ISp} {p : Pos} (M : MkD X.prog X.w X.K X.mg X.base xn C k S) (hr : Room (k + 1) X.A) (hg : Gl X xn) (h : XA X μ (e :: es) Γ fun ds Γ1 => ∀ Qc : List (Str × D) → Prop, (∀ fs, Q (.ins C fs) Γ1 → Qc fs) → S ds Qc)
    (hdb : (xn == ("__debug__" : Str)) = false := by decide) (he : starEach (e :: es) X.env = (false, eval e X.env) :: starEach es X.env := by rfl) (hpl : (backTo pos (starEach es X.env)).any (·.1) = false := by rfl) : XE X μ (.Call (.Name xn p) (e :: es) [] pos) Γ Q := by
  obtain ⟨f, fd, ps, hm, mk, F, bd⟩ := M
  refine PE.imp pe_u fun σ H q ⟨R, k⟩ => ⟨_, pe_make (E := wD X.K μ σ) mk F hr hg hm bd .nil pass0' h hdb he hpl, R, fun vs H1 ds Γ1 s1 f1 R1 r1 hs x dx hx hdx hne => ?_⟩
  show spD X.K (iS C S) (.ref x :: (vs ++ [])) _ _ (wD X.K μ σ)
  rw [List.append_nil]
  obtain ⟨sl, cs⟩ := Γ1
  obtain ⟨R2, f2⟩ := R1.newF (C := C) hx hdx hne
  refine asks_sp (Q := fun d Γ' => d = .non ∧ ∃ fs, Γ' = ⟨sl, (x, .ins C fs) :: cs⟩ ∧ Q (.ins C fs) ⟨sl, cs⟩) R2 (.cons (.ref x) (r1.mono f2.sub)) ?_ fun v H3 d Γ3 s3 f3 R3 r3 ⟨hd, fs, hG, hq⟩ => ?_
  · refine ⟨[(x, .ins C [])], cs, rfl, fun Qc Ec kq _ => ⟨x, ds, rfl, rfl, hs _ fun fs hq => kq _ _ ⟨rfl, fs, rfl, hq⟩⟩⟩
  · subst hd; subst hG
    cases r3
    obtain ⟨R4, f4, _⟩ := Rel.freeze (c1 := []) R3 (.inr (.inr trivial))
    exact ⟨rfl, k _ H3 _ ⟨sl, cs⟩ s1 (((f1.trans f2).trans f3).trans f4) R4 (frozen (c1 := []) R3 rfl) hq⟩
end
end Pdl
namespace Pdl
open PySem L2 PyProof.Rows
structure Wd where
  P : Program
  w : World
  K : PySem.W.Frag
  mg : Str → Option Value
  base : Heap
/-- built-in names that the module does not bind -/
structure Bl (mg : Str → Option Value) : Prop where
  len : mg "len" = none
  min : mg "min" = none
  max : mg "max" = none
  sorted : mg "sorted" = none
  set : mg "set" = none
  list : mg "list" = none
  tuple : mg "tuple" = none
  str : mg "str" = none
  int : mg "int" = none
  range : mg "range" = none
  abs : mg "abs" = none
  divmod : mg "divmod" = none
  any : mg "any" = none
  all : mg "all" = none
  isinstance : mg "isinstance" = none
/-- a def that may be called: its promise -/
def Ca (T : Wd) (x : Str) (k : Nat) (S : SpD) : Prop := ∃ ps, Cal T.P T.w T.K T.mg T.base x k ps S
abbrev Cp (T : Wd) (x : Str) (k : Nat) (S : PSp) : Prop := Ca T x k (pS S)
abbrev Cj (T : Wd) (x : Str) (k : Nat) (S : PSp) : Prop := Ca T x k (jS S)
abbrev Mk' (T : Wd) (x : Str) (C : Addr) (k : Nat) (S : ISp) : Prop := MkD T.P T.w T.K T.mg T.base x C k S
abbrev Pr (T : Wd) (C : Addr) (f : Str) (k : Nat) (S : PSp) : Prop := PropD T.P T.w T.K T.mg T.base C f k (pS S)
abbrev Me (T : Wd) (C : Addr) (f : Str) (k : Nat) (S : PSp) : Prop := MethD T.P T.w T.K T.mg T.base C f k (pS S)
abbrev Eq' (T : Wd) (C : Addr) (k : Nat) (S : PSp) : Prop := EqD T.P T.w T.K T.mg T.base C k S
abbrev De (T : Wd) (x : Str) (ps : List Str) (st : Stmt) : Prop := Def T.K T.mg x ps st
/-- the world of a def's body -/
abbrev wdX (X : Cx) : Wd := ⟨X.prog, X.w, X.K, X.mg, X.base⟩
abbrev cX (T : Wd) (N : List Str) (x : Str) (st : Stmt) (f : Addr) (cdv : Value) (A : Around) (outer : List Env) (s : Shared) (H : Hp) (E : XK) : Cx := bX T.P T.w T.K T.mg T.base N x st f cdv A outer s H E
section
variable {T : Wd}
theorem cp_of {x : Str} {st : Stmt} {N ps : List Str} {k : Nat} {S : PSp} (df : De T x ps st) (sc : FnScope N ps (defScope st)) (len : ∀ ds Q, S ds Q → ds.length = ps.length)
    (hbody : N.Nodup → ∀ (f : Addr) (cdv : Value) (A : Around) (outer : List Env) (s : Shared) (H : Hp) (E0 : XK), Room k (cX T N x st f cdv A outer s H E0).A →
      ∀ m ds (Q : D → Cs → Prop) E, S ds (fun d => Q d []) → XB (cX T N x st f cdv A outer s H E0) (mdOf m [] H E) (defBody st) ⟨startD N ds, []⟩ (poOf Q)) : Cp T x (k + 1) S :=
  ⟨ps, cal_of df sc (fun ds c Q E h => len ds _ h.2) fun f cdv A outer s H E0 hr m ds c Q E h => by
    obtain ⟨rfl, h⟩ := h
    exact hbody sc.nd f cdv A outer s H E0 hr m ds Q E h⟩
theorem cj_of {x : Str} {st : Stmt} {N ps : List Str} {k : Nat} {S : PSp} (df : De T x ps st) (sc : FnScope N ps (defScope st)) (len : ∀ ds Q, S ds Q → ds.length + 1 = ps.length)
    (hbody : N.Nodup → ∀ (f : Addr) (cdv : Value) (A : Around) (outer : List Env) (s : Shared) (H : Hp) (E0 : XK), Room k (cX T N x st f cdv A outer s H E0).A →
      ∀ m J ds (Q : D → Cs → Prop) E, S ds (fun d => Q d [(J, .jar)]) → XB (cX T N x st f cdv A outer s H E0) (mdOf m [(J, .jar)] H E) (defBody st) ⟨startD N (.ref J :: ds), [(J, .jar)]⟩ (poOf Q)) : Cj T x (k + 1) S :=
  ⟨ps, cal_of df sc (fun ds c Q E ⟨J, ds', h1, h2, h3⟩ => by rw [h1]; exact len ds' _ h3) fun f cdv A outer s H E0 hr m ds c Q E h => by
    obtain ⟨J, ds', rfl, rfl, h⟩ := h
    exact hbody sc.nd f cdv A outer s H E0 hr m J ds' Q E h⟩
end
section
variable {X : Cx} {μ : Md} {Γ : En} {Q : QE} {k n : Nat} {x : Str} {p pos apos : Pos} {e o : Expr} {es : List Expr}
/-- f(e, ..), pure -/
theorem xe_cp {S : PSp} (C : Cp (wdX X) x k S) (hr : Room n X.A) (hkn : k ≤ n) (hg : Gl X x) (h : XA X μ (e :: es) Γ fun ds Γ1 => ∀ Qc : D → Prop, (∀ d, Q d Γ1 → Qc d) → S ds Qc) (hdb : (x == ("__debug__" : Str)) = false := by decide)
    (he : starEach (e :: es) X.env = (false, eval e X.env) :: starEach es X.env := by rfl) (hpl : (backTo pos (starEach es X.env)).any (·.1) = false := by rfl) : XE X μ (.Call (.Name x p) (e :: es) [] pos) Γ Q := by
  obtain ⟨ps, C⟩ := C
  refine xe_call C (hr.mono hkn) hg (PA.imp h fun σ H q ⟨R, k⟩ => ⟨R, fun vs H' ds Γ' s' f' R' r' hq => k vs H' ds Γ' s' f' R' r' (asks_p hq)⟩) hdb he hpl
/-- f(jar, e, ..) -/
theorem xe_cj {S : PSp} (C : Cj (wdX X) x k S) (hr : Room n X.A) (hkn : k ≤ n) (hg : Gl X x) (h : XA X μ (e :: es) Γ fun ds Γ1 => ∃ J cs ds', ds = .ref J :: ds' ∧ Γ1.c = (J, .jar) :: cs ∧ ∀ Qc : D → Prop, (∀ d, Q d Γ1 → Qc d) → S ds' Qc) (hdb : (x == ("__debug__" : Str)) = false := by decide)
    (he : starEach (e :: es) X.env = (false, eval e X.env) :: starEach es X.env := by rfl) (hpl : (backTo pos (starEach es X.env)).any (·.1) = false := by rfl) : XE X μ (.Call (.Name x p) (e :: es) [] pos) Γ Q := by
  obtain ⟨ps, C⟩ := C
  refine xe_call C (hr.mono hkn) hg (PA.imp h fun σ H q ⟨R, k⟩ => ⟨R, fun vs H' ds Γ' s' f' R' r' hq => k vs H' ds Γ' s' f' R' r' ?_⟩) hdb he hpl
  obtain ⟨J, cs, ds', rfl, hc, hq⟩ := hq
  exact asks_j hc hq
theorem xe_mk {xn : Str} {C : Addr} {S : ISp} (M : Mk' (wdX X) xn C k S) (hr : Room n X.A) (hkn : k + 1 ≤ n) (hg : Gl X xn) (h : XA X μ (e :: es) Γ fun ds Γ1 => ∀ Qc : List (Str × D) → Prop, (∀ fs, Q (.ins C fs) Γ1 → Qc fs) → S ds Qc)
    (hdb : (xn == ("__debug__" : Str)) = false := by decide) (he : starEach (e :: es) X.env = (false, eval e X.env) :: starEach es X.env := by rfl) (hpl : (backTo pos (starEach es X.env)).any (·.1) = false := by rfl) : XE X μ (.Call (.Name xn p) (e :: es) [] pos) Γ Q :=
  xe_make M (hr.mono hkn) hg h hdb he hpl
theorem xe_pr {C : Addr} {f : Str} {S : PSp} (M : Pr (wdX X) C f k S) (hr : Room n X.A) (hkn : k + 1 ≤ n) (h : XE X μ o Γ fun z Γ1 => ∃ fs, z = .ins C fs ∧ ∀ Qc : D → Prop, (∀ d, Q d Γ1 → Qc d) → S [.ins C fs] Qc)
    (hb : attributeBase o f X.env (eval o X.env) = eval o X.env := by rfl) : XE X μ (.Attribute o f pos) Γ Q :=
  xe_prop M (hr.mono hkn) (h.imp fun d Γ' ⟨fs, e, hq⟩ => ⟨fs, e, asks_p hq⟩) hb
/-- the value of a condition -/
theorem ite_t {c : Prop} [Decidable c] {A B : Prop} (hc : c) (h : A) : if decide c = true then A else B := by rw [if_pos (by simpa using hc)]; exact h
theorem ite_f {c : Prop} [Decidable c] {A B : Prop} (hc : ¬ c) (h : B) : if decide c = true then A else B := by rw [if_neg (by simpa using hc)]; exact h
theorem ite_c {c : Prop} [Decidable c] {A B : Prop} (h1 : c → A) (h2 : ¬ c → B) : if decide c = true then A else B := by
  by_cases h : c
  · exact ite_t h (h1 h)
  · exact ite_f h (h2 h)
theorem ite_b {b : Bool} {A B : Prop} (h1 : b = true → A) (h2 : b = false → B) : if b = true then A else B := by
  cases b
  · exact h2 rfl
  · exact h1 rfl
theorem ite_tt {A B : Prop} (h : A) : if true = true then A else B := h
theorem ite_nt {A B : Prop} (h : B) : if (!true) = true then A else B := by rw [if_neg (by decide)]; exact h
theorem ite_nf {A B : Prop} (h : A) : if (!false) = true then A else B := h
theorem ite_ff {A B : Prop} (h : B) : if false = true then A else B := by rw [if_neg Bool.false_ne_true]; exact h
end
end Pdl
namespace Pdl
open PySem L2 PyProof.Rows
section
variable {X : Cx} {μ : Md} {Γ : En} {Q : QE} {x : Str} {pos : Pos}
/-- a text that is written out -/
theorem xe_lit {i : Str} {l : List Nat} {j} (e : i = S l) (h : Q (.str (S l)) Γ) : XE X μ (.Constant (.str i) j pos) Γ Q := xe_str (by rw [e]; exact h)
/-- the module's constants -/
def GS (mg : Str → Option Value) (x : Str) (l : List Nat) : Prop := ∃ t, mg x = some (.str (S l) t)
def GI (mg : Str → Option Value) (x : Str) (i : Int) : Prop := ∃ t, mg x = some (.int i t)
theorem xe_gs {l : List Nat} (hm : GS X.mg x l) (hg : Gl X x) (h : Q (.str (S l)) Γ) (h1 : (x == ("__debug__" : Str)) = false := by decide) : XE X μ (.Name x pos) Γ Q := by
  obtain ⟨t, hm⟩ := hm
  exact xe_glob (v := .str (S l)) hg hm ⟨t, rfl⟩ (fun _ => .str _) h h1
theorem xe_gi {i : Int} (hm : GI X.mg x i) (hg : Gl X x) (h : Q (.int i) Γ) (h1 : (x == ("__debug__" : Str)) = false := by decide) : XE X μ (.Name x pos) Γ Q := by
  obtain ⟨t, hm⟩ := hm
  exact xe_glob (v := .int i) hg hm ⟨t, rfl⟩ (fun _ => .int _) h h1
/-- a class's name -/
theorem xe_gc {C : Addr} (hm : X.mg x = some (.ref C)) (hg : Gl X x) (h : Q (.ref C) Γ) (h1 : (x == ("__debug__" : Str)) = false := by decide) : XE X μ (.Name x pos) Γ Q := xe_glob (v := .ref C) hg hm rfl (fun _ => .ref _) h h1
end
end Pdl
namespace Pdl
open PySem L2 PyProof.Rows
section
variable {X : Cx}
theorem isi_str {z : Str} : CallD X (.builtin "isinstance") [.str z, .ty "str"] (.bl true) := cd_isi .str .ty (kit_ty (by decide +kernel))
theorem isi_tup {xs : List D} : CallD X (.builtin "isinstance") [.tup xs, .ty "tuple"] (.bl true) := cd_isi .tup .ty (kit_ty (by decide +kernel))
/-- an own class, its instances -/
def IsO (K : PySem.W.Frag) (C : Addr) : Prop := PySem.W.kitOne K (.ref C) (.ref C) = some true
theorem isi_own {C : Addr} {fs : List (Str × D)} (o : OCls X.K C) (h : IsO X.K C) : CallD X (.builtin "isinstance") [.ins C fs, .ref C] (.bl true) := cd_isi (.ins o) .own h
end
end Pdl
namespace Pdl
open PySem L2 PyProof.Rows
def leN (a b : Nat) : Bool := decide (a ≤ b)
theorem leN_trans (a b c : Nat) (h1 : leN a b = true) (h2 : leN b c = true) : leN a c = true := by simp [leN] at *; omega
theorem leN_total (a b : Nat) : (leN a b || leN b a) = true := by simp [leN]; omega
def sN (l : List Nat) : List Nat := l.mergeSort leN
def us (l : List Nat) : List Nat := sN l.eraseDups
def ch (l : List Nat) : List (List Nat) := l.map fun c => [c]
theorem mem_us {l : List Nat} {x : Nat} : x ∈ us l ↔ x ∈ l := by
  unfold us sN
  rw [(List.mergeSort_perm _ _).mem_iff, List.mem_eraseDups]
theorem us_nodup (l : List Nat) : (us l).Nodup := (List.mergeSort_perm _ _).nodup_iff.mpr (ed_nodup _)
theorem us_sorted (l : List Nat) : (us l).Pairwise (· < ·) := by
  have h1 : (us l).Pairwise (fun a b => leN a b = true) := List.pairwise_mergeSort leN_trans leN_total _
  have h2 := us_nodup l
  exact (h1.and h2).imp fun ⟨a, b⟩ => by simp [leN] at a; omega
theorem sorted_ext {l m : List Nat} (h1 : l.Pairwise (· < ·)) (h2 : m.Pairwise (· < ·)) (h : ∀ x, x ∈ l ↔ x ∈ m) : l = m := by
  have n1 : l.Nodup := h1.imp fun h => Nat.ne_of_lt h
  have n2 : m.Nodup := h2.imp fun h => Nat.ne_of_lt h
  have p : l.Perm m := (List.perm_ext_iff_of_nodup n1 n2).mpr h
  exact List.Perm.eq_of_pairwise (fun a b _ _ x y => by omega) h1 h2 p
theorem us_eq {l m : List Nat} (h1 : m.Pairwise (· < ·)) (h : ∀ x, x ∈ m ↔ x ∈ l) : us l = m := sorted_ext (us_sorted l) h1 fun x => mem_us.trans (h x).symm
theorem nodup_len {α : Type} [BEq α] [LawfulBEq α] : ∀ {l m : List α}, l.Nodup → (∀ x ∈ l, x ∈ m) → l.length ≤ m.length
  | [], _, _, _ => Nat.zero_le _
  | a :: l, m, hn, h => by
    rw [List.nodup_cons] at hn
    have ha := h a List.mem_cons_self
    have := nodup_len (m := m.erase a) hn.2 fun x hx => by
      refine (List.mem_erase_of_ne ?_).mpr (h x (List.mem_cons_of_mem _ hx))
      exact fun e => hn.1 (e ▸ hx)
    rw [List.length_erase_of_mem ha] at this
    have := List.length_pos_of_mem ha
    simp only [List.length_cons]
    omega
theorem us_len_le {l m : List Nat} (h : ∀ x ∈ l, x ∈ m) : (us l).length ≤ m.length := nodup_len (us_nodup l) fun x hx => h x (mem_us.mp hx)
theorem ch_sorted {l : List Nat} (h : l.Pairwise (· < ·)) : (ch l).Pairwise (fun a b => leL a b = true) := by
  refine List.Pairwise.map _ (fun a b hab => ?_) h
  show decide ([a] ≤ [b]) = true
  rw [decide_eq_true_eq]
  exact List.cons_le_cons_iff.mpr (.inl hab)
theorem usL_ch (l : List Nat) : usL (ch l) = ch (us l) := by
  refine usL_eq (ch_sorted (us_sorted l)) ?_ fun x => ?_
  · exact List.Pairwise.map _ (fun a b hab e => hab (by cases e; rfl)) (us_nodup l)
  · simp [ch, mem_us]
theorem srt_ch (l : List Nat) : srt (ch l) = ch (sN l) := by
  refine srt_eq ?_ ?_
  · have h1 : (sN l).Pairwise (fun a b => leN a b = true) := List.pairwise_mergeSort leN_trans leN_total _
    refine List.Pairwise.map _ (fun a b hab => ?_) h1
    show decide ([a] ≤ [b]) = true
    rw [decide_eq_true_eq]
    simp [leN] at hab
    rcases Nat.lt_or_eq_of_le hab with h | h
    · exact List.cons_le_cons_iff.mpr (.inl h)
    · subst h; exact List.le_refl _
  · exact (List.mergeSort_perm _ _).map _
theorem join_flat : ∀ (ls : List (List Nat)), TL.joinL [] ls = ls.flatten
  | [] => rfl
  | [a] => by simp [TL.joinL]
  | a :: b :: ls => by
    have ih := join_flat (b :: ls)
    simp only [TL.joinL] at *
    rw [ih]
    simp
theorem ch_flat (l : List Nat) : (ch l).flatten = l := by
  induction l with
  | nil => rfl
  | cons a l ih => simp [ch] at *; exact ih
theorem items_str (l : List Nat) : Items (.str (S l)) (SL (ch l)) := by
  show SL (ch l) = (S l).cps.toList.map fun c => .str (S [c])
  rw [S_cps]
  simp [SL, ch]
theorem items_lst (ls : List (List Nat)) : Items (.lst (SL ls)) (SL ls) := rfl
theorem items_tup (ls : List (List Nat)) : Items (.tup (SL ls)) (SL ls) := rfl
end Pdl
namespace Pdl
theorem ch_len (l : List Nat) : (ch l).length = l.length := by simp [ch]
theorem flat_len (ls : List (List Nat)) : (ls.map List.length).sum = ls.flatten.length := (List.length_flatten ..).symm
end Pdl
namespace Pdl
open PySem L2 PyProof.Rows
section
variable {X : Cx} {μ : Md} {Γ : En} {Q : QE} {a b c e o it tg elt : Expr} {es ifs : List Expr} {pos apos cpos tpos : Pos} {x y d : D} {scope : Scope} {P : Po}
/-- .. by a function on what the items show -/
def QLa (X : Cx) (scope : Scope) (ifs : List Expr) (elt : Expr) (i : Nat) {α β : Type} (ea : α → D) (eb : β → D) (Q : QE) : List D → En → Prop := fun ds Γ1 => ∃ (as : List α) (F : α → Option β), ds = as.map ea ∧ as.length ≤ 100000 ∧
      (∀ a ∈ as, ∀ μ', Blk X scope fun Y => XTl Y μ' ifs ⟨Γ1.s.set i (some (ea a)), Γ1.c⟩ fun b Γ3 => if b = true then Blk X scope fun Z => XE Z μ' elt Γ3 fun y Γ4 => ∃ r, F a = some r ∧ y = eb r ∧ Γ4.c = Γ1.c else F a = none ∧ Γ3.c = Γ1.c) ∧
      Q (.lst ((as.filterMap F).map eb)) Γ1
theorem qla {α β : Type} {ea : α → D} {eb : β → D} {i : Nat} {ds : List D} {Γ1 : En} (h : QLa X scope ifs elt i ea eb Q ds Γ1) : QLc X scope ifs elt i Q ds Γ1 := by
  obtain ⟨as, F, hds, hl, ht, hq⟩ := h
  subst hds
  refine ⟨fun k acc c => acc = ((as.take k).filterMap F).map eb ∧ c = Γ1.c, ⟨by simp, rfl⟩, ?_, by simpa using hl, ?_⟩
  · rintro k d acc c2 hd ⟨rfl, rfl⟩ μ' s H C cl fp
    rw [List.getElem?_map] at hd
    obtain ⟨a, ha, rfl⟩ := Option.map_eq_some_iff.mp hd
    have et : as.take (k + 1) = as.take k ++ [a] := by
      rw [List.take_add_one, ha]
      rfl
    refine ⟨fun pins s' σ' H' q I' ⟨R', k'⟩ => (ht a (List.mem_of_getElem? ha) μ' s H C cl fp).run pins s' σ' H' q I' ⟨R', fun H3 b Γ3 s3 f3 R3 hq => k' H3 b Γ3 s3 f3 R3 ?_⟩⟩
    cases b with
    | true =>
      rw [if_pos rfl] at hq ⊢
      intro s2 H2 C2 cl2 fp2
      refine PE.imp (hq s2 H2 C2 cl2 fp2) fun σ4 H4 q4 ⟨R4, k4⟩ => ⟨R4, fun v5 H5 d5 Γ5 s5 f5 R5 r5 ⟨r, g1, g2, g3⟩ => k4 v5 H5 d5 Γ5 s5 f5 R5 r5 ⟨?_, g3⟩⟩
      rw [et, List.filterMap_append]
      simp [g1, g2]
    | false =>
      rw [if_neg Bool.false_ne_true] at hq ⊢
      refine ⟨?_, hq.2⟩
      rw [et, List.filterMap_append]
      simp [hq.1]
  · rintro acc c2 ⟨rfl, rfl⟩
    have e : (as.map ea).length = as.length := by simp
    rw [e, List.take_length]
    exact hq
theorem XI.imp {Q Q' : List D → En → Prop} (h : XI X μ tg it Γ Q) (i : ∀ d Γ', Q d Γ' → Q' d Γ') : XI X μ tg it Γ Q' := PI.imp h fun σ H R ⟨Rl, k⟩ => ⟨Rl, fun J H' ds Γ1 e1 f1 R1 wk hq => k J H' ds Γ1 e1 f1 R1 wk (i _ _ hq)⟩
theorem xe_lcA {α β : Type} (ea : α → D) (eb : β → D) {i : Nat} {xn : Str} (hN : X.N.Nodup) (hi : X.N[i]? = some xn) (hb : blkC X.N X.env.scope scope [(xn, i)] = true) (hx : Blk X scope fun Y => Loc Y.env.scope xn) (hf : Blk X scope fun Y => Y.fn xn = true ∨ Y.env.scope.names.lookup xn = some .local)
    (h : XI X μ (.Name xn tpos) it Γ (QLa X scope ifs elt i ea eb Q))
    (hs : ∀ x, foldedSetIterable it X.env x = pure x := by intro _; rfl) (hc : X.calm = true := by rfl) : XE X μ (.ListComp elt [⟨.Name xn tpos, it, ifs, 0⟩] scope pos) Γ Q :=
  xe_lc hc hN hi (blkOk_by hb) hx hf (h.imp fun _ _ => qla) hs
theorem xs_lcA {α β : Type} (ea : α → D) (eb : β → D) {i j : Nat} {xn yn : Str} {py spos : Pos} (hN : X.N.Nodup) (hi : X.N[i]? = some xn) (hb : blkC X.N X.env.scope scope [(xn, i)] = true) (hx : Blk X scope fun Y => Loc Y.env.scope xn) (hf : Blk X scope fun Y => Y.fn xn = true ∨ Y.env.scope.names.lookup xn = some .local)
    (hy : X.N[j]? = some yn) (hyl : X.env.scope.names.lookup yn = some .local) (hk : X.env.scope.kind = .function) (hl : (py.line == pos.line) = true)
    (ha : (scope.names.any fun (n, k) => n == yn && (k == .local || k == .cell)) = false)
    (h : XI X μ (.Name xn tpos) it Γ (QLa X scope ifs elt i ea eb fun d Γ1 => P.nx { Γ1 with s := Γ1.s.set j (some d) }))
    (hs : ∀ x, foldedSetIterable it X.env x = pure x := by intro _; rfl) (hc : X.calm = true := by rfl) : XS X μ (.Assign [.Name yn py] (.ListComp elt [⟨.Name xn tpos, it, ifs, 0⟩] scope pos) spos) Γ P :=
  xs_lc hc hN hi (blkOk_by hb) hx hf hy hyl (sw_true hk hyl hl ha) (h.imp fun _ _ => qla) hs
/-- for x in ..: what holds with the items that are gone through -/
theorem xs_forN {body : List Stmt} {i : Nat} {xn : Str} (hp : PassesOwn (model X.prog X.w) X.A X.env X.xe) (hN : X.N.Nodup) (hi : X.N[i]? = some xn) (hx : Loc X.env.scope xn)
    (h : XI X μ (.Name xn tpos) it Γ fun ds Γ1 => ∃ I : Nat → En → Prop, I 0 Γ1 ∧ (∀ i' d Γ2, ds[i']? = some d → I i' Γ2 → XB X μ body { Γ2 with s := Γ2.s.set i (some d) } { P with nx := I (i' + 1), ct := I (i' + 1), bk := P.nx }) ∧ ∀ Γ2, I ds.length Γ2 → P.nx Γ2)
    (hf : X.fn xn = true ∨ X.env.scope.names.lookup xn = some .local := by first | exact .inl rfl | exact .inr rfl | assumption) (hs : ∀ x, foldedSetIterable it X.env x = pure x := by intro _; rfl) (hc : X.calm = true := by rfl) : XS X μ (.For (.Name xn tpos) it body [] pos) Γ P :=
  xs_for hp hc (PI.imp h fun σ H R ⟨Rl, k⟩ => ⟨Rl, fun J H' ds Γ1 e1 f1 R1 wk ⟨I, h0, ht, hd⟩ => k J H' ds Γ1 e1 f1 R1 wk ⟨I, h0, fun i' d Γ2 hd' hI => xg_name hN hi hx (ht i' d Γ2 hd' hI) hf, hd⟩⟩) hs
end
theorem lt1 {a b : Nat} : ([a] < [b]) ↔ a < b := by
  rw [List.cons_lt_cons_iff]
  simp
def az : List Nat := (List.range 26).map (97 + ·)
theorem mem_az {c : Nat} : c ∈ az ↔ 97 ≤ c ∧ c ≤ 122 := by
  unfold az
  simp only [List.mem_map, List.mem_range]
  exact ⟨fun ⟨i, h, e⟩ => by omega, fun h => ⟨c - 97, by omega, by omega⟩⟩
end Pdl
namespace Pdl
theorem flat2 : ∀ {ls : List (List Nat)}, (∀ l ∈ ls, ∃ a b, l = [a, b]) → ls.flatten.length = 2 * ls.length
  | [], _ => rfl
  | l :: ls, h => by
    obtain ⟨a, b, rfl⟩ := h _ List.mem_cons_self
    have := flat2 (ls := ls) fun l hl => h l (List.mem_cons_of_mem _ hl)
    simp only [List.flatten_cons, List.length_append, List.length_cons, List.length_nil]
    omega
structure IsMet (ls : List (List Nat)) (ps M : List Nat) : Prop where
  sorted : M.Pairwise (· < ·)
  sub : ∀ x ∈ ps, x ∈ M
  clo : ∀ a b, [a, b] ∈ ls → (a ∈ M ∨ b ∈ M) → a ∈ M ∧ b ∈ M
  least : ∀ C : Nat → Prop, (∀ x ∈ ps, C x) → (∀ a b, [a, b] ∈ ls → (C a ∨ C b) → C a ∧ C b) → ∀ x ∈ M, C x
def touch (M : List Nat) (l : List Nat) : Bool := match l with
  | [a, b] => decide (a ∈ M) || decide (b ∈ M)
  | _ => false
def stp (ls : List (List Nat)) (M : List Nat) : List Nat := us ([M] ++ ls.filter (touch M)).flatten
theorem mem_stp {ls : List (List Nat)} {M : List Nat} (h2 : ∀ l ∈ ls, ∃ a b, l = [a, b]) {x : Nat} : x ∈ stp ls M ↔ x ∈ M ∨ ∃ a b, [a, b] ∈ ls ∧ (a ∈ M ∨ b ∈ M) ∧ (x = a ∨ x = b) := by
  unfold stp
  rw [mem_us]
  simp only [List.singleton_append, List.flatten_cons, List.mem_append, List.mem_flatten, List.mem_filter]
  constructor
  · rintro (h | ⟨l, ⟨hl, ht⟩, hx⟩)
    · exact .inl h
    · obtain ⟨a, b, rfl⟩ := h2 l hl
      exact .inr ⟨a, b, hl, by simpa [touch] using ht, by simpa using hx⟩
  · rintro (h | ⟨a, b, hl, ht, hx⟩)
    · exact .inl h
    · exact .inr ⟨[a, b], ⟨hl, by simpa [touch] using ht⟩, by simpa using hx⟩
/-- as far as one has come -/
structure InMet (ls : List (List Nat)) (ps M : List Nat) : Prop where
  sorted : M.Pairwise (· < ·)
  sub : ∀ x ∈ ps, x ∈ M
  inn : ∀ x ∈ M, x ∈ ps ∨ x ∈ ls.flatten
  least : ∀ C : Nat → Prop, (∀ x ∈ ps, C x) → (∀ a b, [a, b] ∈ ls → (C a ∨ C b) → C a ∧ C b) → ∀ x ∈ M, C x
theorem InMet.start (ls : List (List Nat)) (ps : List Nat) : InMet ls ps (us [ps].flatten) := by
  have e : [ps].flatten = ps := by simp
  rw [e]
  exact ⟨us_sorted _, fun x h => mem_us.mpr h, fun x h => .inl (mem_us.mp h), fun C h _ x hx => h x (mem_us.mp hx)⟩
theorem InMet.step {ls : List (List Nat)} {ps M : List Nat} (h2 : ∀ l ∈ ls, ∃ a b, l = [a, b]) (h : InMet ls ps M) : InMet ls ps (stp ls M) := by
  refine ⟨us_sorted _, fun x hx => (mem_stp h2).mpr (.inl (h.sub x hx)), fun x hx => ?_, fun C h1 h3 x hx => ?_⟩
  · rcases (mem_stp h2).mp hx with hx | ⟨a, b, hl, _, hx⟩
    · exact h.inn x hx
    · exact .inr (List.mem_flatten.mpr ⟨[a, b], hl, by simpa using hx⟩)
  · rcases (mem_stp h2).mp hx with hx | ⟨a, b, hl, ht, hx⟩
    · exact h.least C h1 h3 x hx
    · have := h3 a b hl (ht.imp (h.least C h1 h3 a) (h.least C h1 h3 b))
      rcases hx with rfl | rfl
      · exact this.1
      · exact this.2
theorem InMet.done {ls : List (List Nat)} {ps M : List Nat} (h2 : ∀ l ∈ ls, ∃ a b, l = [a, b]) (h : InMet ls ps M) (e : stp ls M = M) : IsMet ls ps M := by
  refine ⟨h.sorted, h.sub, fun a b hl ht => ?_, h.least⟩
  have k : ∀ x, x ∈ stp ls M → x ∈ M := fun x hx => e ▸ hx
  exact ⟨k a ((mem_stp h2).mpr (.inr ⟨a, b, hl, ht, .inl rfl⟩)), k b ((mem_stp h2).mpr (.inr ⟨a, b, hl, ht, .inr rfl⟩))⟩
theorem InMet.le {ls : List (List Nat)} {ps M : List Nat} (h : InMet ls ps M) : M.length ≤ (ps ++ ls.flatten).length :=
  nodup_len (h.sorted.imp fun h => Nat.ne_of_lt h) fun x hx => List.mem_append.mpr (h.inn x hx)
theorem stp_grows {ls : List (List Nat)} {ps M : List Nat} (h2 : ∀ l ∈ ls, ∃ a b, l = [a, b]) (h : InMet ls ps M) (e : stp ls M ≠ M) : M.length < (stp ls M).length := by
  have hs : ∀ x ∈ M, x ∈ stp ls M := fun x hx => (mem_stp h2).mpr (.inl hx)
  have hle := nodup_len (h.sorted.imp fun h => Nat.ne_of_lt h) hs
  rcases Nat.lt_or_eq_of_le hle with hlt | heq
  · exact hlt
  · refine absurd (sorted_ext (us_sorted _) h.sorted fun x => ⟨fun hx => ?_, hs x⟩) e
    refine Decidable.byContradiction fun hn => ?_
    have hn2 : (x :: M).Nodup := List.nodup_cons.mpr ⟨hn, h.sorted.imp fun h => Nat.ne_of_lt h⟩
    have := nodup_len (m := stp ls M) hn2 fun y hy => by
      rcases List.mem_cons.mp hy with rfl | hy
      · exact hx
      · exact hs y hy
    simp at this
    omega
end Pdl
namespace Pdl
open PySem L2 PyProof.Rows
def Lw (ls : List (List Nat)) : Prop := ∀ l ∈ ls, ∀ c ∈ l, c < 1000
theorem strOk_S {l : List Nat} (h : ∀ c ∈ l, c < 1000) : PyData.strOk (S l) = true := by
  unfold PyData.strOk
  show l.toArray.all (fun c => decide (c < 0x110000)) = true
  rw [List.all_toArray, List.all_eq_true]
  intro c hc
  have := h c hc
  simp
  omega
theorem canLay_SL : ∀ {ls : List (List Nat)}, Lw ls → PyData.canLayAll0 (toPyL (SL ls)) = true
  | [], _ => rfl
  | l :: ls, h => by
    show (PyData.canLay0 (.str (S l)) && PyData.canLayAll0 (toPyL (SL ls))) = true
    rw [canLay_SL fun l hl => h l (List.mem_cons_of_mem _ hl), Bool.and_true]
    exact strOk_S (h l List.mem_cons_self)
theorem depth_SL : ∀ (ls : List (List Nat)), PyData.depthAll (toPyL (SL ls)) = 0
  | [] => rfl
  | l :: ls => by
    show max (PyData.depth (.str (S l))) (PyData.depthAll (toPyL (SL ls))) = 0
    rw [depth_SL ls]
    rfl
theorem shaped_T {ls : List (List Nat)} (h : Lw ls) : SeqAt.shaped (toPy (.tup (SL ls))) = true := by
  unfold SeqAt.shaped
  show (PyData.canLayAll0 (toPyL (SL ls)) && decide (PyData.depthAll (toPyL (SL ls)) + 1 ≤ 64)) = true
  rw [canLay_SL h, depth_SL]
  rfl
theorem shaped_L {ls : List (List Nat)} (h : Lw ls) : SeqAt.shaped (toPy (.lst (SL ls))) = true := by
  unfold SeqAt.shaped
  show (PyData.canLayAll0 (toPyL (SL ls)) && decide (PyData.depthAll (toPyL (SL ls)) + 1 ≤ 64)) = true
  rw [canLay_SL h, depth_SL]
  rfl
theorem eqv_SL : ∀ (a b : List (List Nat)), PyData.eqvAll (toPyL (SL a)) (toPyL (SL b)) = decide (a = b)
  | [], [] => rfl
  | [], _ :: _ => rfl
  | _ :: _, [] => rfl
  | x :: a, y :: b => by
    show (PyData.eqv (.str (S x)) (.str (S y)) && PyData.eqvAll (toPyL (SL a)) (toPyL (SL b))) = _
    rw [eqv_SL a b]
    have e : PyData.eqv (.str (S x)) (.str (S y)) = decide (x = y) := by
      show (S x == S y) = _
      rw [Bool.beq_eq_decide_eq]
      exact decide_eq_decide.mpr S_eq
    rw [e]
    by_cases h1 : x = y <;> by_cases h2 : a = b <;> simp [h1, h2]
section
variable {X : Cx} {a b : List (List Nat)}
theorem od_eqT (hu : X.A.units + 64 < cLine) (ha : Lw a) (hb : Lw b) : OpD X (compareOp .Eq) (.tup (SL a)) (.tup (SL b)) (.bl (decide (a = b))) := by
  have h := od_eqD (X := X) (x := .tup (SL a)) (y := .tup (SL b)) hu (SL_py a) (SL_py b) (shaped_T ha) (shaped_T hb)
  have e : PyData.eqv (toPy (.tup (SL a))) (toPy (.tup (SL b))) = decide (a = b) := eqv_SL a b
  rw [e] at h
  exact h
theorem od_neT (hu : X.A.units + 64 < cLine) (ha : Lw a) (hb : Lw b) : OpD X (compareOp .NotEq) (.tup (SL a)) (.tup (SL b)) (.bl (!decide (a = b))) := by
  have h := od_neD (X := X) (x := .tup (SL a)) (y := .tup (SL b)) hu (SL_py a) (SL_py b) (shaped_T ha) (shaped_T hb)
  have e : PyData.eqv (toPy (.tup (SL a))) (toPy (.tup (SL b))) = decide (a = b) := eqv_SL a b
  rw [e] at h
  exact h
theorem od_eqL (hu : X.A.units + 64 < cLine) (ha : Lw a) (hb : Lw b) : OpD X (compareOp .Eq) (.lst (SL a)) (.lst (SL b)) (.bl (decide (a = b))) := by
  have h := od_eqD (X := X) (x := .lst (SL a)) (y := .lst (SL b)) hu (SL_py a) (SL_py b) (shaped_L ha) (shaped_L hb)
  have e : PyData.eqv (toPy (.lst (SL a))) (toPy (.lst (SL b))) = decide (a = b) := eqv_SL a b
  rw [e] at h
  exact h
theorem od_neL (hu : X.A.units + 64 < cLine) (ha : Lw a) (hb : Lw b) : OpD X (compareOp .NotEq) (.lst (SL a)) (.lst (SL b)) (.bl (!decide (a = b))) := by
  have h := od_neD (X := X) (x := .lst (SL a)) (y := .lst (SL b)) hu (SL_py a) (SL_py b) (shaped_L ha) (shaped_L hb)
  have e : PyData.eqv (toPy (.lst (SL a))) (toPy (.lst (SL b))) = decide (a = b) := eqv_SL a b
  rw [e] at h
  exact h
end
theorem atI_nat {α : Type} {xs : List α} {k : Nat} {d : α} (h : xs[k]? = some d) : atI xs (k : Int) = some d := by
  have hl := (List.getElem?_eq_some_iff.mp h).1
  unfold atI ixN
  rw [if_pos (by omega), if_pos (by omega)]
  simpa using h
theorem SL_get {ls : List (List Nat)} {k : Nat} {l : List Nat} (h : ls[k]? = some l) : (SL ls)[k]? = some (.str (S l)) := by
  unfold SL
  rw [List.getElem?_map, h]
  rfl
theorem rng_get {n k : Nat} {d : D} (h : (rngD 0 n)[k]? = some d) : k < n ∧ d = .int (k : Int) := by
  unfold rngD at h
  rw [List.getElem?_map] at h
  obtain ⟨j, hj, rfl⟩ := Option.map_eq_some_iff.mp h
  obtain ⟨h1, h2⟩ := List.getElem?_eq_some_iff.mp hj
  rw [List.getElem_range] at h2
  subst h2
  refine ⟨by simpa using h1, ?_⟩
  rw [Int.zero_add]
theorem rng_get1 {lo n k : Nat} {d : D} (h : (rngD (lo : Int) n)[k]? = some d) : k < n ∧ d = .int ((lo + k : Nat) : Int) := by
  unfold rngD at h
  rw [List.getElem?_map] at h
  obtain ⟨j, hj, rfl⟩ := Option.map_eq_some_iff.mp h
  obtain ⟨h1, h2⟩ := List.getElem?_eq_some_iff.mp hj
  rw [List.getElem_range] at h2
  subst h2
  refine ⟨by simpa using h1, ?_⟩
  rw [Int.natCast_add]
theorem rng_len {lo : Int} {n : Nat} : (rngD lo n).length = n := by simp [rngD]
/-- all hangs together -/
def Conn (ls : List (List Nat)) : Prop := ∀ C : Nat → Prop, (∀ l0, ls.head? = some l0 → ∀ x ∈ l0, C x) → (∀ a b, [a, b] ∈ ls → (C a ∨ C b) → C a ∧ C b) → ∀ x ∈ ls.flatten, C x
structure Ties (ls : List (List Nat)) : Prop where
  ne : ls ≠ []
  len : ls.length ≤ 10
  pr : ∀ l ∈ ls, ∃ a b, l = [a, b] ∧ 97 ≤ a ∧ a < b ∧ b ≤ 122
  asc : ls.Pairwise (· < ·)
  few : (us ls.flatten).length ≤ 7
  conn : Conn ls
theorem Ties.two {ls : List (List Nat)} (h : Ties ls) : ∀ l ∈ ls, ∃ a b, l = [a, b] := fun l hl => let ⟨a, b, e, _⟩ := h.pr l hl; ⟨a, b, e⟩
theorem Ties.lw {ls : List (List Nat)} (h : Ties ls) : Lw ls := fun l hl c hc => by
  obtain ⟨a, b, rfl, h1, h2, h3⟩ := h.pr l hl
  simp at hc
  rcases hc with rfl | rfl <;> omega
theorem met_all {ls : List (List Nat)} {l0 M : List Nat} (h0 : ls.head? = some l0) (hc : Conn ls) (h : IsMet ls l0 M) : M = us ls.flatten := by
  refine (us_eq h.sorted fun x => ⟨fun hx => ?_, fun hx => ?_⟩).symm
  · refine h.least (· ∈ ls.flatten) (fun y hy => ?_) (fun a b hl _ => ?_) x hx
    · cases ls with
      | nil => cases h0
      | cons l ls =>
        cases h0
        simp [hy]
    · exact ⟨List.mem_flatten.mpr ⟨_, hl, by simp⟩, List.mem_flatten.mpr ⟨_, hl, by simp⟩⟩
  · refine hc (· ∈ M) (fun l hl => ?_) h.clo x hx
    rw [h0] at hl
    cases hl
    exact h.sub
end Pdl
namespace Pdl
open PySem L2 PyProof.Rows
section
variable {X : Cx} {μ : Md} {Γ : En} {P : Po} {c e : Expr} {t u : List Stmt} {pos : Pos} {Q : QE}
/-- if: the outcome is known -/
theorem xs_if_f (h : XT X μ c Γ fun b Γ1 => b = false ∧ Γ1 = Γ) (h2 : XB X μ u Γ P) : XS X μ (.If c t u pos) Γ P := xs_if (h.imp fun b Γ1 ⟨e1, e2⟩ => by subst e1; subst e2; exact ite_ff h2)
theorem xs_if_t (h : XT X μ c Γ fun b Γ1 => b = true ∧ Γ1 = Γ) (h2 : XB X μ t Γ P) : XS X μ (.If c t u pos) Γ P := xs_if (h.imp fun b Γ1 ⟨e1, e2⟩ => by subst e1; subst e2; exact h2)
theorem xs_if_b (b0 : Bool) (h : XT X μ c Γ fun b Γ1 => b = b0 ∧ Γ1 = Γ) (h2 : if b0 = true then XB X μ t Γ P else XB X μ u Γ P) : XS X μ (.If c t u pos) Γ P := xs_if (h.imp fun b Γ1 ⟨e1, e2⟩ => by subst e1; subst e2; exact h2)
end
end Pdl
namespace Pdl
open PySem L2 PyProof.Rows
theorem xt_cut {X : Cx} {μ : Md} {Γ : En} {c : Expr} {Q : Bool → En → Prop} (b0 : Bool) (h : XT X μ c Γ fun b Γ1 => b = b0 ∧ Γ1 = Γ) (h2 : Q b0 Γ) : XT X μ c Γ Q := h.imp fun r Γ1 ⟨e1, e2⟩ => by subst e1; subst e2; exact h2
end Pdl
namespace Pdl
open PySem L2 PyProof.Rows
def DeP (T : Wd) (C : Addr) (f qual : Str) (ps : List Str) (st : Stmt) : Prop := ∃ p g fd, Cls T.K C ∧ PropOf T.K C f p g ∧ Fun T.K f qual st g fd ∧ Binds T.K fd ps []
def DeM (T : Wd) (C : Addr) (f qual : Str) (ps : List Str) (st : Stmt) : Prop := ∃ g fd, Cls T.K C ∧ Meth T.K C f g ∧ Fun T.K f qual st g fd ∧ Binds T.K fd ps []
def DeI (T : Wd) (x : Str) (C : Addr) (qual : Str) (ps : List Str) (st : Stmt) : Prop := ∃ f fd, T.mg x = some (.ref C) ∧ Mk T.K C f ∧ Fun T.K "__init__" qual st f fd ∧ Binds T.K fd ps []
def DeQ (T : Wd) (C : Addr) (qual : Str) (ps : List Str) (st : Stmt) : Prop := ∃ f fd, PySem.W.findIn T.K (.ref C) "__ne__" = some (some (.builtin "object.__ne__")) ∧ PySem.W.subIn T.K (.ref C) (.type "object") = some true ∧
    PySem.W.findIn T.K (.ref C) "__eq__" = some (some (.ref f)) ∧ PySem.W.isFn T.K (.ref f) = true ∧ Fun T.K "__eq__" qual st f fd ∧ Binds T.K fd ps []
section
variable {T : Wd} {C : Addr} {f x qual : Str} {st : Stmt} {N ps : List Str} {k : Nat}
theorem fnp {S : PSp} {g : Addr} {fd : FuncData} (F : Fun T.K x qual st g fd) (sc : FnScope N ps (defScope st)) (len : ∀ ds Q, S ds Q → ds.length = ps.length)
    (hbody : N.Nodup → ∀ (f : Addr) (cdv : Value) (A : Around) (outer : List Env) (s : Shared) (H : Hp) (E0 : XK), Room k (cX T N qual st f cdv A outer s H E0).A →
      ∀ m ds (Q : D → Cs → Prop) E, S ds (fun d => Q d []) → XB (cX T N qual st f cdv A outer s H E0) (mdOf m [] H E) (defBody st) ⟨startD N ds, []⟩ (poOf Q)) : FnOk T.P T.w T.K T.mg T.base CX0 (k + 1) g fd ps (spD T.K (pS S)) :=
  fn_D F sc (fun ds c Q E h => len ds _ h.2) fun cdv A outer s H E0 hr m ds c Q E h => by
    obtain ⟨rfl, h⟩ := h
    exact hbody sc.nd g cdv A outer s H E0 hr m ds Q E h
theorem pr_of {S : PSp} (df : DeP T C f qual ps st) (sc : FnScope N ps (defScope st)) (len : ∀ ds Q, S ds Q → ds.length = ps.length)
    (hbody : N.Nodup → ∀ (f : Addr) (cdv : Value) (A : Around) (outer : List Env) (s : Shared) (H : Hp) (E0 : XK), Room k (cX T N qual st f cdv A outer s H E0).A →
      ∀ m ds (Q : D → Cs → Prop) E, S ds (fun d => Q d []) → XB (cX T N qual st f cdv A outer s H E0) (mdOf m [] H E) (defBody st) ⟨startD N ds, []⟩ (poOf Q)) : Pr T C f (k + 1) S := by
  obtain ⟨p, g, fd, cl, pr, F, bd⟩ := df
  exact ⟨p, g, fd, ps, cl, pr, fnp F sc len hbody, bd⟩
theorem me_of {S : PSp} (df : DeM T C f qual ps st) (sc : FnScope N ps (defScope st)) (len : ∀ ds Q, S ds Q → ds.length = ps.length)
    (hbody : N.Nodup → ∀ (f : Addr) (cdv : Value) (A : Around) (outer : List Env) (s : Shared) (H : Hp) (E0 : XK), Room k (cX T N qual st f cdv A outer s H E0).A →
      ∀ m ds (Q : D → Cs → Prop) E, S ds (fun d => Q d []) → XB (cX T N qual st f cdv A outer s H E0) (mdOf m [] H E) (defBody st) ⟨startD N ds, []⟩ (poOf Q)) : Me T C f (k + 1) S := by
  obtain ⟨g, fd, cl, mt, F, bd⟩ := df
  exact ⟨g, fd, ps, cl, mt, fnp F sc len hbody, bd⟩
theorem eq_of {S : PSp} (df : DeQ T C qual ps st) (sc : FnScope N ps (defScope st)) (len : ∀ ds Q, S ds Q → ds.length = ps.length)
    (hbody : N.Nodup → ∀ (f : Addr) (cdv : Value) (A : Around) (outer : List Env) (s : Shared) (H : Hp) (E0 : XK), Room k (cX T N qual st f cdv A outer s H E0).A →
      ∀ m ds (Q : D → Cs → Prop) E, S ds (fun d => Q d []) → XB (cX T N qual st f cdv A outer s H E0) (mdOf m [] H E) (defBody st) ⟨startD N ds, []⟩ (poOf Q)) : Eq' T C (k + 1) S := by
  obtain ⟨f, fd, h1, h2, h3, h4, F, bd⟩ := df
  exact ⟨f, fd, ps, fnp F sc len hbody, h1, h2, h3, h4, bd⟩
theorem mk_of {S : ISp} (df : DeI T x C qual ps st) (sc : FnScope N ps (defScope st)) (len : ∀ ds Q, S ds Q → ds.length + 1 = ps.length)
    (hbody : N.Nodup → ∀ (f : Addr) (cdv : Value) (A : Around) (outer : List Env) (s : Shared) (H : Hp) (E0 : XK), Room k (cX T N qual st f cdv A outer s H E0).A →
      ∀ m o ds (Q : List (Str × D) → Prop) E, S ds Q → XB (cX T N qual st f cdv A outer s H E0) (mdOf m [(o, .ins C [])] H E) (defBody st) ⟨startD N (.ref o :: ds), [(o, .ins C [])]⟩ (poOf fun d c => ∃ fs, d = .non ∧ c = [(o, .ins C fs)] ∧ Q fs)) : Mk' T x C (k + 1) S := by
  obtain ⟨f, fd, h1, h2, F, bd⟩ := df
  refine ⟨f, fd, ps, h1, h2, fn_D F sc (fun ds c Q E ⟨o, ds', e, _, h⟩ => by rw [e]; exact len _ _ h) fun cdv A outer s H E0 hr m ds c Q E h => ?_, bd⟩
  obtain ⟨o, ds', rfl, rfl, h⟩ := h
  refine (hbody sc.nd f cdv A outer s H E0 hr m o ds' _ E h).imp ?_ ?_ (fun _ h => h) (fun _ h => h)
  · rintro Γ1 ⟨fs, h1, h2, h3⟩
    show Q .non Γ1.c
    rw [h2]
    exact h3
  · rintro d Γ1 ⟨fs, h1, h2, h3⟩
    show Q d Γ1.c
    rw [h1, h2]
    exact h3
end
end Pdl
namespace Pdl
def pr2 : List Nat → List Nat
  | [a, b] => if b < a then [b, a] else [a, b]
  | l => l
def fst2 (l : List Nat) : Nat := match l with | [a, _] => a | _ => 0
def snd2 (l : List Nat) : Nat := match l with | [_, b] => b | _ => 0
def Ranked (as : List (List Nat)) : Prop := ∃ r : Nat → Nat, ∀ a b, [a, b] ∈ as → r a < r b
def Two (as : List (List Nat)) : Prop := ∀ l ∈ as, ∃ a b, l = [a, b]
structure Arrs (as : List (List Nat)) : Prop where
  two : Two as
  ties : Ties (as.map pr2)
  rk : Ranked as
theorem Arrs.len {as : List (List Nat)} (h : Arrs as) : as.length ≤ 10 := by
  have := h.ties.len
  simpa using this
theorem Arrs.ne {as : List (List Nat)} (h : Arrs as) : as ≠ [] := fun e => h.ties.ne (by rw [e]; rfl)
theorem Arrs.pr {as : List (List Nat)} (h : Arrs as) : ∀ l ∈ as, ∃ a b, l = [a, b] ∧ (97 ≤ a ∧ a ≤ 122) ∧ (97 ≤ b ∧ b ≤ 122) ∧ a ≠ b := fun l hl => by
  obtain ⟨a, b, rfl⟩ := h.two l hl
  obtain ⟨x, y, e, h1, h2, h3⟩ := h.ties.pr (pr2 [a, b]) (List.mem_map_of_mem hl)
  refine ⟨a, b, rfl, ?_⟩
  have e : (if b < a then [b, a] else [a, b]) = [x, y] := e
  split at e <;> (simp at e; omega)
theorem Arrs.lw {as : List (List Nat)} (h : Arrs as) : Lw as := fun l hl c hc => by
  obtain ⟨a, b, rfl, h1, h2, h3⟩ := h.pr l hl
  simp at hc
  rcases hc with rfl | rfl <;> omega
theorem pr2_pair {a b : Nat} : (if ([b] < [a]) then [b] ++ [a] else [a] ++ [b]) = pr2 [a, b] := by
  show _ = if b < a then [b, a] else [a, b]
  by_cases h : b < a
  · rw [if_pos (lt1.mpr h), if_pos h]; rfl
  · rw [if_neg (fun z => h (lt1.mp z)), if_neg h]; rfl
def goesOn (L : List (List Nat)) (l : List Nat) : Bool := L.any fun o => decide ([snd2 o] = [fst2 l])
def onL (L : List (List Nat)) : List (List Nat) := L.filter (goesOn L)
theorem onL_less {L : List (List Nat)} (h2 : Two L) (hr : Ranked L) (hne : L ≠ []) : (onL L).length < L.length := by
  obtain ⟨r, hr⟩ := hr
  -- an arrow whose beginning has the least rank
  have ex : ∃ l ∈ L, ∀ o ∈ L, r (fst2 l) ≤ r (fst2 o) := by
    clear h2 hr
    induction L with
    | nil => exact absurd rfl hne
    | cons l L ih =>
      by_cases hL : L = []
      · subst hL
        exact ⟨l, by simp, fun o ho => by simp at ho; rw [ho]; exact Nat.le_refl _⟩
      · obtain ⟨m, hm, hmin⟩ := ih hL
        by_cases hlt : r (fst2 l) ≤ r (fst2 m)
        · refine ⟨l, by simp, fun o ho => ?_⟩
          rcases List.mem_cons.mp ho with rfl | ho
          · exact Nat.le_refl _
          · exact Nat.le_trans hlt (hmin o ho)
        · refine ⟨m, List.mem_cons_of_mem _ hm, fun o ho => ?_⟩
          rcases List.mem_cons.mp ho with rfl | ho
          · omega
          · exact hmin o ho
  obtain ⟨l, hl, hmin⟩ := ex
  unfold onL
  refine List.length_filter_lt_length_iff_exists.mpr ⟨l, hl, ?_⟩
  intro hg
  unfold goesOn at hg
  obtain ⟨o, ho, e⟩ := List.any_eq_true.mp hg
  have e : snd2 o = fst2 l := by simpa using e
  obtain ⟨a, b, rfl⟩ := h2 o ho
  have h1 := hr a b ho
  have h3 := hmin [a, b] ho
  have e : b = fst2 l := e
  have h3 : r (fst2 l) ≤ r a := h3
  rw [← e] at h3
  omega
theorem onL_two {L : List (List Nat)} (h : Two L) : Two (onL L) := fun l hl => h l (List.mem_filter.mp hl).1
theorem onL_ranked {L : List (List Nat)} (h : Ranked L) : Ranked (onL L) := let ⟨r, hr⟩ := h; ⟨r, fun a b hl => hr a b (List.mem_filter.mp hl).1⟩
theorem onL_len (L : List (List Nat)) : (onL L).length ≤ L.length := List.length_filter_le _ _
theorem onL_lw {L : List (List Nat)} (h : Lw L) : Lw (onL L) := fun l hl => h l (List.mem_filter.mp hl).1
def lay (o : List Nat) : List Nat → List Nat
  | [a, b] => if idx o a < idx o b then [a, b] else [b, a]
  | l => l
theorem idx_ne {o : List Nat} {a b : Nat} (ha : a ∈ o) (hb : b ∈ o) (h : a ≠ b) : idx o a ≠ idx o b := fun e => by
  have h1 := idx_at ha
  have h2 := idx_at hb
  rw [e, h2] at h1
  cases h1
  exact h rfl
theorem lay_arrs {ls : List (List Nat)} {o : List Nat} (h : Ties ls) (ho : ∀ x ∈ ls.flatten, x ∈ o) : Arrs (ls.map (lay o)) := by
  have e : (ls.map (lay o)).map pr2 = ls := by
    rw [List.map_map]
    conv => rhs; rw [← List.map_id ls]
    refine List.map_congr_left fun l hl => ?_
    obtain ⟨a, b, rfl, h1, h2, h3⟩ := h.pr l hl
    show pr2 (if idx o a < idx o b then [a, b] else [b, a]) = [a, b]
    split
    · show (if b < a then [b, a] else [a, b]) = _
      rw [if_neg (by omega)]
    · show (if a < b then [a, b] else [b, a]) = _
      rw [if_pos h2]
  refine ⟨fun l hl => ?_, by rw [e]; exact h, idx o, fun x y hxy => ?_⟩
  · obtain ⟨t, ht, rfl⟩ := List.mem_map.mp hl
    obtain ⟨a, b, rfl⟩ := h.two t ht
    show ∃ x y, (if idx o a < idx o b then [a, b] else [b, a]) = [x, y]
    split
    · exact ⟨a, b, rfl⟩
    · exact ⟨b, a, rfl⟩
  · obtain ⟨t, ht, e⟩ := List.mem_map.mp hxy
    obtain ⟨a, b, rfl, h1, h2, h3⟩ := h.pr t ht
    have ha : a ∈ o := ho a (List.mem_flatten.mpr ⟨_, ht, by simp⟩)
    have hb : b ∈ o := ho b (List.mem_flatten.mpr ⟨_, ht, by simp⟩)
    have hne := idx_ne ha hb (by omega)
    have e : (if idx o a < idx o b then [a, b] else [b, a]) = [x, y] := e
    split at e <;> (simp at e; obtain ⟨rfl, rfl⟩ := e; omega)
end Pdl
namespace Pdl
open PySem L2 PyProof.Rows
section
variable {X : Cx} {μ : Md} {Γ Γ' : En} {Q : QE} {a b c e o : Expr} {es : List Expr} {pos apos cpos : Pos} {P P' : Po} {st : Stmt} {sts : List Stmt} {m : Addr → Bool} {H : Hp} {K : PySem.W.Frag} {x y d : D}
theorem cr_list_str (hc : X.calm = true) : CallR X (.type "list") (fun xs H Q => ∃ l : List Nat, xs = [.str (S l)] ∧ l.length ≤ sizeLine ∧ ∀ p, H p = none → Q (.ref p) (upd H p (.lst (((ch l).map S).map V.str)))) := by
  intro pins s σ H xs us Q I r h
  obtain ⟨l, rfl, hz, q⟩ := h
  obtain ⟨u, rfl, ru⟩ := vals1 r
  obtain ⟨t, rfl⟩ := ru
  refine call_list_str (I.ok.hd hc) (S l) t (fun h' tk acc c' hk e hi => ?_) (by show l.toArray.size ≤ _; simpa using hz)
  refine ⟨.ref s.heap.objs.size, upd H s.heap.objs.size (.lst (((ch l).map S).map V.str)), I.laid hk (Nat.le_refl _) ⟨by simp [ch]; exact hz, acc.toList, c', ?_, by rw [Array.toArray_toList]; exact e⟩, rfl, q _ (I.hok.fresh (Nat.le_refl _))⟩
  refine vals_of_idx _ _ (by simp [ch]; have := hi.1; simpa [S] using this) fun j u hj => ?_
  obtain ⟨c, t', hc, rfl⟩ := hi.2 j u (by rw [← Array.getElem?_toList]; exact hj)
  refine ⟨.str (S [c]), ?_, ⟨_, rfl⟩⟩
  have hc : l[j]? = some c := by
    have : l.toArray[j]? = some c := hc
    simpa using this
  simp [ch, hc]
/-- list(text), as a cell -/
theorem xe_own_listS {p : Pos} (hg : Gl X "list") (hm : X.mg "list" = none) (h : XA X μ (e :: es) Γ fun ds Γ1 => ∃ l, ds = [.str (S l)] ∧ l.length ≤ 100000 ∧ ∀ p, Q (.ref p) ⟨Γ1.s, Γ1.c ++ [(p, .lst (SL (ch l)))]⟩)
    (he : starEach (e :: es) X.env = (false, eval e X.env) :: starEach es X.env := by rfl) (hpl : (backTo pos (starEach es X.env)).any (·.1) = false := by rfl) (hc : X.calm = true := by rfl) : XE X μ (.Call (.Name "list" p) (e :: es) [] pos) Γ Q :=
  PE.imp (pe_callTy (cr_list_str hc) hg hm PyProof.Rows.boot_list h (by decide) (by decide) he hpl) fun σ H q ⟨R, k⟩ => ⟨R, fun vs H1 ds Γ1 s1 f1 R1 r1 ⟨l, hd, hl, hq⟩ => by
    subst hd
    obtain ⟨v, rfl, r⟩ := r1.one
    cases r
    refine ⟨l, rfl, Nat.le_trans hl (by decide), fun p hp => ?_⟩
    obtain ⟨R2, f2⟩ := R1.newC (cl := .lst (SL (ch l))) (o := .lst (((ch l).map S).map V.str)) hp ⟨_, rfl, by rw [SL_strs]; exact RpA.strs _⟩
    exact k _ _ (.ref p) ⟨Γ1.s, Γ1.c ++ [(p, .lst (SL (ch l)))]⟩ s1 (f1.trans f2) R2 (.ref p) (hq p)⟩
def dT (ks : List (List Nat)) : List (Key × D) := ks.map fun l => (Sum.inr (S l), .bl true)
def insT (ks : List (List Nat)) (l : List Nat) : List (List Nat) := if l ∈ ks then ks else ks ++ [l]
theorem xb_close {J : Addr} {Q : D → Cs → Prop} (h : XB X μ sts Γ { nx := fun _ => False, rt := fun d Γ1 => ∃ x y z : Int, 0 ≤ x ∧ 0 ≤ y ∧ 0 ≤ z ∧ Γ1.c = [(J, .lst [.int x, .int y, .int z])] ∧ Q d [(J, .jar)] }) : XB X μ sts Γ (poOf Q) := by
  refine h.post (fun _ h => h.elim) ?_ (fun _ h => h.elim) (fun _ h => h.elim)
  rintro d ⟨s, c⟩ ⟨x, y, z, hx, hy, hz, hc, hq⟩
  have hc : c = [(J, .lst [.int x, .int y, .int z])] := hc
  subst hc
  refine ⟨⟨s, [(J, .jar)]⟩, fun H σ v R r => ⟨rel_close (c1 := []) (c2 := []) hx hy hz R, fw_same (s := s) (c1 := []) (c2 := []), ?_⟩, hq⟩
  have e : tot μ.m [(J, Cell.lst [.int x, .int y, .int z])] = tot μ.m [(J, Cell.jar)] := tot_swap (c1 := []) (c2 := [])
  have r : Rp X.K (hid (tot μ.m [(J, Cell.lst [.int x, .int y, .int z])]) H) v d := r
  rw [e] at r
  exact r
/-- what is called makes a new jar -/
def kS (S : List D → Prop) : SpD := fun ds c Q _ => c = [] ∧ S ds ∧ ∀ p, Q (.ref p) [(p, .jar)]
abbrev Ck (T : Wd) (x : Str) (k : Nat) (S : List D → Prop) : Prop := Ca T x k (kS S)
theorem xe_ck {k n : Nat} {xn : Str} {S : List D → Prop} {p : Pos} (C : Ck (wdX X) xn k S) (hr : Room n X.A) (hkn : k ≤ n) (hg : Gl X xn) (h : XA X μ (e :: es) Γ fun ds Γ1 => S ds ∧ ∀ p, Q (.ref p) ⟨Γ1.s, (p, .jar) :: Γ1.c⟩) (hdb : (xn == ("__debug__" : Str)) = false := by decide)
    (he : starEach (e :: es) X.env = (false, eval e X.env) :: starEach es X.env := by rfl) (hpl : (backTo pos (starEach es X.env)).any (·.1) = false := by rfl) : XE X μ (.Call (.Name xn p) (e :: es) [] pos) Γ Q := by
  obtain ⟨ps, C⟩ := C
  refine xe_call C (hr.mono hkn) hg (PA.imp h fun σ H q ⟨R, k⟩ => ⟨R, fun vs H' ds Γ' s' f' R' r' hq => k vs H' ds Γ' s' f' R' r' ?_⟩) hdb he hpl
  exact ⟨[], Γ'.c, rfl, fun Qc Ec kq _ => ⟨rfl, hq.1, fun p => kq _ _ (hq.2 p)⟩⟩
end
end Pdl
namespace Pdl
open PySem L2 PyProof.Rows
section
variable {X : Cx} {μ : Md} {Γ : En} {sts : List Stmt}
/-- a new jar is handed out -/
theorem xb_closeN {Q : D → Cs → Prop} (h : XB X μ sts Γ { nx := fun _ => False, rt := fun d Γ1 => ∃ (J : Addr) (x y z : Int), 0 ≤ x ∧ 0 ≤ y ∧ 0 ≤ z ∧ d = .ref J ∧ Γ1.c = [(J, .lst [.int x, .int y, .int z])] ∧ Q d [(J, .jar)] }) : XB X μ sts Γ (poOf Q) := by
  refine h.post (fun _ h => h.elim) ?_ (fun _ h => h.elim) (fun _ h => h.elim)
  rintro d ⟨s, c⟩ ⟨J, x, y, z, hx, hy, hz, hd, hc, hq⟩
  have hc : c = [(J, .lst [.int x, .int y, .int z])] := hc
  subst hc
  refine ⟨⟨s, [(J, .jar)]⟩, fun H σ v R r => ⟨rel_close (c1 := []) (c2 := []) hx hy hz R, fw_same (s := s) (c1 := []) (c2 := []), ?_⟩, hq⟩
  have e : tot μ.m [(J, Cell.lst [.int x, .int y, .int z])] = tot μ.m [(J, Cell.jar)] := tot_swap (c1 := []) (c2 := [])
  have r : Rp X.K (hid (tot μ.m [(J, Cell.lst [.int x, .int y, .int z])]) H) v d := r
  rw [e] at r
  exact r
end
theorem ck_of {T : Wd} {x : Str} {st : Stmt} {N ps : List Str} {k : Nat} {S : List D → Prop} (df : De T x ps st) (sc : FnScope N ps (defScope st)) (len : ∀ ds, S ds → ds.length = ps.length)
    (hbody : N.Nodup → ∀ (f : Addr) (cdv : Value) (A : Around) (outer : List Env) (s : Shared) (H : Hp) (E0 : XK), Room k (cX T N x st f cdv A outer s H E0).A →
      ∀ m ds (Q : D → Cs → Prop) E, S ds → (∀ p, Q (.ref p) [(p, .jar)]) → XB (cX T N x st f cdv A outer s H E0) (mdOf m [] H E) (defBody st) ⟨startD N ds, []⟩ (poOf Q)) : Ck T x (k + 1) S :=
  ⟨ps, cal_of df sc (fun ds c Q E h => len ds h.2.1) fun f cdv A outer s H E0 hr m ds c Q E h => by
    obtain ⟨rfl, h1, h2⟩ := h
    exact hbody sc.nd f cdv A outer s H E0 hr m ds Q E h1 h2⟩
theorem ch_erase {L : List Nat} {i : Nat} : (SL (ch L)).eraseIdx i = SL (ch (L.eraseIdx i)) := by
  simp [SL, ch, List.eraseIdx_eq_take_drop_succ, List.map_take, List.map_drop]
theorem ch_snoc {L : List Nat} {c : Nat} : SL (ch L) ++ [.str (S [c])] = SL (ch (L ++ [c])) := by simp [SL, ch]
theorem ch_get {L : List Nat} {i c : Nat} (h : L[i]? = some c) : (SL (ch L))[i]? = some (.str (S [c])) := by simp [SL, ch, h]
theorem pop_perm {L F w : List Nat} {i c : Nat} (h : L[i]? = some c) (p : (L ++ F).Perm w) : (L.eraseIdx i ++ (F ++ [c])).Perm w := by
  obtain ⟨hi, rfl⟩ := List.getElem?_eq_some_iff.mp h
  have h1 : (L[i] :: L.eraseIdx i).Perm L := by
    rw [List.eraseIdx_eq_take_drop_succ]
    have e : L = L.take i ++ (L[i] :: L.drop (i + 1)) := by rw [List.getElem_cons_drop, List.take_append_drop]
    exact (List.perm_middle (a := L[i]) (l₁ := L.take i) (l₂ := L.drop (i + 1))).symm.trans (by rw [← e])
  refine List.Perm.trans ?_ p
  have h2 : (L.eraseIdx i ++ (F ++ [L[i]])).Perm (L[i] :: (L.eraseIdx i ++ F)) := by
    rw [← List.append_assoc]
    exact List.perm_append_singleton _ _
  exact h2.trans (h1.append_right F)
theorem sN_lt {l : List Nat} (h : l.Nodup) : (sN l).Pairwise (· < ·) := by
  have h1 : (sN l).Pairwise (fun a b => leN a b = true) := List.pairwise_mergeSort leN_trans leN_total _
  have h2 : (sN l).Nodup := (List.mergeSort_perm _ _).nodup_iff.mpr h
  exact (h1.and h2).imp fun ⟨a, b⟩ => by simp [leN] at a; omega
theorem sN_len' (o : List Nat) : (sN o).length = o.length := (List.mergeSort_perm _ _).length_eq
theorem mem_sN' {o : List Nat} {x : Nat} : x ∈ sN o ↔ x ∈ o := (List.mergeSort_perm _ _).mem_iff
end Pdl
namespace Pdl
def AzP (l : List Nat) : Prop := ∀ c ∈ l, 97 ≤ c ∧ c ≤ 122
structure NetI (w : List Nat) (k : Nat) (ks : List (List Nat)) : Prop where
  nd : ks.Nodup
  pr : ∀ t ∈ ks, ∃ a b, t = [a, b] ∧ a < b ∧ a ∈ w ∧ b ∈ w
  par : ∀ j c, 1 ≤ j → j < k → w[j]? = some c → ∃ i d, i < j ∧ w[i]? = some d ∧ pr2 [c, d] ∈ ks
theorem insT_mem {ks : List (List Nat)} {l x : List Nat} : x ∈ insT ks l ↔ x ∈ ks ∨ x = l := by
  unfold insT
  split
  · exact ⟨.inl, fun h => h.elim id fun e => e ▸ by assumption⟩
  · simp
theorem insT_nodup {ks : List (List Nat)} {l : List Nat} (h : ks.Nodup) : (insT ks l).Nodup := by
  unfold insT
  split
  · exact h
  · rw [List.nodup_append]
    exact ⟨h, by simp, fun x hx y hy e => by simp at hy; subst hy; subst e; contradiction⟩
theorem pr2_lt {a b : Nat} {w : List Nat} (h : a ≠ b) (ha : a ∈ w) (hb : b ∈ w) : ∃ x y, pr2 [a, b] = [x, y] ∧ x < y ∧ x ∈ w ∧ y ∈ w := by
  show ∃ x y, (if b < a then [b, a] else [a, b]) = [x, y] ∧ _
  split
  · exact ⟨b, a, rfl, by assumption, hb, ha⟩
  · exact ⟨a, b, rfl, by omega, ha, hb⟩
theorem NetI.ins {w : List Nat} {k : Nat} {ks : List (List Nat)} {a b : Nat} (h : NetI w k ks) (hne : a ≠ b) (ha : a ∈ w) (hb : b ∈ w) : NetI w k (insT ks (pr2 [a, b])) := by
  refine ⟨insT_nodup h.nd, fun t ht => ?_, fun j c h1 h2 h3 => ?_⟩
  · rcases insT_mem.mp ht with ht | rfl
    · exact h.pr t ht
    · exact pr2_lt hne ha hb
  · obtain ⟨i, d, q1, q2, q3⟩ := h.par j c h1 h2 h3
    exact ⟨i, d, q1, q2, insT_mem.mpr (.inl q3)⟩
theorem NetI.next {w : List Nat} {k i : Nat} {ks : List (List Nat)} {a b : Nat} (hw : w.Nodup) (h : NetI w k ks) (ha : w[k]? = some a) (hb : w[i]? = some b) (hik : i < k) : a ≠ b ∧ NetI w (k + 1) (insT ks (pr2 [a, b])) := by
  have hne : a ≠ b := fun e => by
    obtain ⟨p1, p2⟩ := List.getElem?_eq_some_iff.mp ha
    obtain ⟨p3, p4⟩ := List.getElem?_eq_some_iff.mp hb
    have := (List.getElem_inj hw).mp (p2.trans (e.trans p4.symm))
    omega
  have h1 := h.ins hne (List.mem_of_getElem? ha) (List.mem_of_getElem? hb)
  refine ⟨hne, h1.nd, h1.pr, fun j c g1 g2 g3 => ?_⟩
  by_cases hj : j = k
  · subst hj
    rw [ha] at g3
    cases g3
    exact ⟨i, b, hik, hb, insT_mem.mpr (.inr rfl)⟩
  · exact h1.par j c g1 (by omega) g3
theorem net_ties {w : List Nat} {ks : List (List Nat)} (hw : w.Nodup) (hA : AzP w) (h2 : 2 ≤ w.length) (h7 : w.length ≤ 7) (hl : ks.length ≤ 10) (h : NetI w w.length ks) : Ties (srt ks) ∧ ∀ x, x ∈ (srt ks).flatten ↔ x ∈ w := by
  have hm : ∀ t, t ∈ srt ks ↔ t ∈ ks := fun t => (srt_perm ks).mem_iff
  have hsub : ∀ x ∈ (srt ks).flatten, x ∈ w := fun x hx => by
    obtain ⟨t, ht, hx⟩ := List.mem_flatten.mp hx
    obtain ⟨a, b, rfl, h1, h3, h4⟩ := h.pr t ((hm t).mp ht)
    simp at hx
    rcases hx with rfl | rfl
    · exact h3
    · exact h4
  have hcl : ∀ {C : Nat → Prop}, (∀ a b, [a, b] ∈ srt ks → (C a ∨ C b) → C a ∧ C b) → ∀ {c d : Nat}, pr2 [c, d] ∈ ks → (C c ∨ C d) → C c ∧ C d := fun {C} hc {c d} hp hor => by
    have hp : (if d < c then [d, c] else [c, d]) ∈ ks := hp
    split at hp
    · exact (hc d c ((hm _).mpr hp) hor.symm).symm
    · exact hc c d ((hm _).mpr hp) hor
  have hmem : ∀ {c d : Nat}, pr2 [c, d] ∈ ks → c ∈ (srt ks).flatten ∧ d ∈ (srt ks).flatten := fun {c d} hp => by
    have hp : (if d < c then [d, c] else [c, d]) ∈ ks := hp
    split at hp
    · exact ⟨List.mem_flatten.mpr ⟨_, (hm _).mpr hp, by simp⟩, List.mem_flatten.mpr ⟨_, (hm _).mpr hp, by simp⟩⟩
    · exact ⟨List.mem_flatten.mpr ⟨_, (hm _).mpr hp, by simp⟩, List.mem_flatten.mpr ⟨_, (hm _).mpr hp, by simp⟩⟩
  obtain ⟨w0, hw0⟩ : ∃ c, w[0]? = some c := ⟨_, List.getElem?_eq_getElem (by omega)⟩
  obtain ⟨w1, hw1⟩ : ∃ c, w[1]? = some c := ⟨_, List.getElem?_eq_getElem (by omega)⟩
  -- down to the first one
  have down : ∀ {C : Nat → Prop}, (∀ a b, [a, b] ∈ srt ks → (C a ∨ C b) → C a ∧ C b) → ∀ j, ∀ c, w[j]? = some c → C c → C w0 := fun {C} hc j => by
    induction j using Nat.strongRecOn with
    | ind j ih =>
      intro c hcj hC
      by_cases hj : j = 0
      · subst hj
        rw [hw0] at hcj
        cases hcj
        exact hC
      · obtain ⟨i, d, q1, q2, q3⟩ := h.par j c (by omega) (List.getElem?_eq_some_iff.mp hcj).1 hcj
        exact ih i q1 d q2 (hcl hc q3 (.inl hC)).2
  have up : ∀ {C : Nat → Prop}, (∀ a b, [a, b] ∈ srt ks → (C a ∨ C b) → C a ∧ C b) → C w0 → ∀ j, ∀ c, w[j]? = some c → C c := fun {C} hc h0 j => by
    induction j using Nat.strongRecOn with
    | ind j ih =>
      intro c hcj
      by_cases hj : j = 0
      · subst hj
        rw [hw0] at hcj
        cases hcj
        exact h0
      · obtain ⟨i, d, q1, q2, q3⟩ := h.par j c (by omega) (List.getElem?_eq_some_iff.mp hcj).1 hcj
        exact (hcl hc q3 (.inr (ih i q1 d q2))).1
  have all : ∀ x ∈ w, x ∈ (srt ks).flatten := fun x hx => by
    obtain ⟨j, hj⟩ := List.mem_iff_getElem?.mp hx
    by_cases h0 : j = 0
    · subst h0
      rw [hw0] at hj
      cases hj
      obtain ⟨i, d, q1, q2, q3⟩ := h.par 1 w1 (by omega) (by omega) hw1
      have : i = 0 := by omega
      subst this
      rw [hw0] at q2
      cases q2
      exact (hmem q3).2
    · obtain ⟨i, d, q1, q2, q3⟩ := h.par j x (by omega) (List.getElem?_eq_some_iff.mp hj).1 hj
      exact (hmem q3).1
  refine ⟨⟨fun e => ?_, by rw [(srt_perm ks).length_eq]; exact hl, fun t ht => ?_, ?_, ?_, fun C h0 hc x hx => ?_⟩, fun x => ⟨hsub x, all x⟩⟩
  · have := all w0 (List.mem_of_getElem? hw0)
    rw [e] at this
    cases this
  · obtain ⟨a, b, rfl, h1, h3, h4⟩ := h.pr t ((hm t).mp ht)
    exact ⟨a, b, rfl, (hA a h3).1, h1, (hA b h4).2⟩
  · have h1 := srt_sorted ks
    have h3 : (srt ks).Nodup := (srt_perm ks).nodup_iff.mpr h.nd
    exact (h1.and h3).imp fun {a b} ⟨x, y⟩ => by
      unfold leL at x
      have x : a ≤ b := by simpa using x
      exact Decidable.byContradiction fun hn => y (List.le_antisymm x (List.not_lt.mp hn))
  · exact Nat.le_trans (us_len_le hsub) h7
  · obtain ⟨j, hj⟩ := List.mem_iff_getElem?.mp (hsub x hx)
    refine up hc ?_ j x hj
    -- the first tie's places
    cases e : srt ks with
    | nil => rw [e] at hx; cases hx
    | cons t ts =>
      have ht : t ∈ srt ks := by rw [e]; simp
      obtain ⟨a, b, rfl, h1, h3, h4⟩ := h.pr t ((hm t).mp ht)
      obtain ⟨i, hi⟩ := List.mem_iff_getElem?.mp h3
      exact down hc i a hi (h0 [a, b] (by rw [e]; rfl) a (by simp))
end Pdl
namespace Pdl
open PySem L2 PyProof.Rows
theorem RpA.pick {K : PySem.W.Frag} {G : Hp} {vs : List V} {ds : List D} (r : RpA K G vs ds) : ∀ ix : List Nat, RpA K G (ix.filterMap (vs[·]?)) (ix.filterMap (ds[·]?))
  | [] => .nil
  | i :: ix => by
    have ih := RpA.pick r ix
    rw [List.filterMap_cons, List.filterMap_cons]
    cases e : vs[i]? with
    | none =>
      have : ds[i]? = none := by
        rw [List.getElem?_eq_none_iff] at e ⊢
        rw [← r.length]
        exact e
      rw [this]
      exact ih
    | some v =>
      obtain ⟨d, h1, h2⟩ := r.get e
      rw [h1]
      exact .cons h2 ih
theorem vals_pick {vs : List V} {us : List Value} (r : Vals vs us) : ∀ ix : List Nat, Vals (ix.filterMap (vs[·]?)) (ix.filterMap (us[·]?))
  | [] => .nil
  | i :: ix => by
    have ih := vals_pick r ix
    rw [List.filterMap_cons, List.filterMap_cons]
    cases e : vs[i]? with
    | none =>
      have : us[i]? = none := by
        rw [List.getElem?_eq_none_iff] at e ⊢
        rw [← r.length]
        exact e
      rw [this]
      exact ih
    | some v =>
      obtain ⟨u, h1, h2⟩ := r.get e
      rw [h1]
      exact .cons h2 ih
theorem lay_pr2 {ls : List (List Nat)} {o : List Nat} (h : Ties ls) : (ls.map (lay o)).map pr2 = ls := by
  rw [List.map_map]
  conv => rhs; rw [← List.map_id ls]
  refine List.map_congr_left fun l hl => ?_
  obtain ⟨a, b, rfl, h1, h2, h3⟩ := h.pr l hl
  show pr2 (if idx o a < idx o b then [a, b] else [b, a]) = [a, b]
  split
  · show (if b < a then [b, a] else [a, b]) = _
    rw [if_neg (by omega)]
  · show (if a < b then [a, b] else [b, a]) = _
    rw [if_pos h2]
end Pdl
namespace Pdl
theorem mem_srt {ls : List (List Nat)} {x : List Nat} : x ∈ srt ls ↔ x ∈ ls := (srt_perm ls).mem_iff
end Pdl
namespace Pdl
open PySem L2 PyProof.Rows
mutual
/-- plain data: texts of small signs, small ints -/
def okD : D → Bool
  | .non => true
  | .bl _ => true
  | .int i => decide (-1000000000 ≤ i ∧ i ≤ 1000000000)
  | .str x => x.cps.toList.all (fun c => decide (c < 1000))
  | .lst xs => okL xs
  | .tup xs => okL xs
  | .tupx xs => okL xs
  | _ => false
def okL : List D → Bool
  | [] => true
  | x :: xs => okD x && okL xs
end
mutual
def wtD : D → Nat
  | .int _ => 40
  | .str x => x.length
  | .lst xs => wtL xs
  | .tup xs => wtL xs
  | .tupx xs => wtL xs
  | _ => 0
def wtL : List D → Nat
  | [] => 0
  | x :: xs => wtD x + 1 + wtL xs
end
mutual
def dpD : D → Nat
  | .lst xs => dpL xs + 1
  | .tup xs => dpL xs + 1
  | .tupx xs => dpL xs + 1
  | _ => 0
def dpL : List D → Nat
  | [] => 0
  | x :: xs => max (dpD x) (dpL xs)
end
mutual
theorem ok_py : ∀ (d : D), okD d = true → isPy d = true
  | .non, _ => rfl
  | .bl _, _ => rfl
  | .int _, _ => rfl
  | .str _, _ => rfl
  | .lst xs, h => by rw [isPy]; exact ok_pyL xs (by rw [okD] at h; exact h)
  | .tup xs, h => by rw [isPy]; exact ok_pyL xs (by rw [okD] at h; exact h)
  | .tupx xs, h => by rw [isPy]; exact ok_pyL xs (by rw [okD] at h; exact h)
  | .ty _, h => by simp [okD] at h
  | .ref _, h => by simp [okD] at h
  | .dct _, h => by simp [okD] at h
  | .ins _ _, h => by simp [okD] at h
  | .set _ _, h => by simp [okD] at h
  | .dcT _, h => by simp [okD] at h
  | .dcL _, h => by simp [okD] at h
theorem ok_pyL : ∀ (d : List D), okL d = true → isPyL d = true
  | [], _ => rfl
  | x :: xs, h => by
    rw [okL, Bool.and_eq_true] at h
    rw [isPyL, ok_py x h.1, ok_pyL xs h.2]
    rfl
end
theorem int_log {i : Int} (h : -1000000000 ≤ i ∧ i ≤ 1000000000) : i.natAbs.log2 < 31 := by
  have h1 : i.natAbs ≤ 1000000000 := by omega
  by_cases h0 : i.natAbs = 0
  · rw [h0]; decide
  · exact (Nat.log2_lt h0).mpr (by omega)
theorem int_shown {i : Int} (h : -1000000000 ≤ i ∧ i ≤ 1000000000) : (PyData.shown (.int i)).length ≤ 13 := by
  have h1 : (toString i).length ≤ 10 + 1 := int_text_length_le10 (by decide) (by omega)
  show (Str.ofString (toString i)).length ≤ 13
  rw [ofString_len]
  omega
mutual
theorem ok_can : ∀ (d : D), okD d = true → PyData.canLay0 (toPy d) = true ∧ PyData.showable (toPy d) = true ∧ PyData.hasDict (toPy d) = false ∧ PyData.depth (toPy d) = dpD d ∧ PyData.weight (toPy d) ≤ wtD d ∧ PyData.intsShort 13 (toPy d) = true
  | .non, _ => ⟨rfl, rfl, rfl, rfl, Nat.le_refl _, rfl⟩
  | .bl _, _ => ⟨rfl, rfl, rfl, rfl, Nat.le_refl _, rfl⟩
  | .int i, h => by
    have h : -1000000000 ≤ i ∧ i ≤ 1000000000 := by simpa [okD] using h
    have hl := int_log h
    refine ⟨rfl, ?_, rfl, rfl, ?_, ?_⟩
    · simp only [toPy, PyData.showable, decide_eq_true_eq]; omega
    · show (if i == 0 then 0 else i.natAbs.log2 + 1) ≤ 40
      split <;> omega
    · simp only [toPy, PyData.intsShort, decide_eq_true_eq]
      exact int_shown h
  | .str x, h => by
    have hs : PyData.strOk x = true := by
      unfold PyData.strOk
      rw [Array.all_eq_true_iff_forall_mem]
      intro c hc
      have := (List.all_eq_true.mp (by simpa only [okD] using h)) c (Array.mem_toList_iff.mpr hc)
      simp at this ⊢
      omega
    exact ⟨hs, rfl, rfl, rfl, Nat.le_refl _, rfl⟩
  | .lst xs, h => by
    rw [okD] at h
    obtain ⟨h1, h2, h3, h4, h5, h6⟩ := ok_canL xs h
    exact ⟨h1, h2, h3, congrArg (· + 1) h4, h5, h6⟩
  | .tup xs, h => by
    rw [okD] at h
    obtain ⟨h1, h2, h3, h4, h5, h6⟩ := ok_canL xs h
    exact ⟨h1, h2, h3, congrArg (· + 1) h4, h5, h6⟩
  | .tupx xs, h => by
    rw [okD] at h
    obtain ⟨h1, h2, h3, h4, h5, h6⟩ := ok_canL xs h
    exact ⟨h1, h2, h3, congrArg (· + 1) h4, h5, h6⟩
  | .ty _, h => by simp [okD] at h
  | .ref _, h => by simp [okD] at h
  | .dct _, h => by simp [okD] at h
  | .ins _ _, h => by simp [okD] at h
  | .set _ _, h => by simp [okD] at h
  | .dcT _, h => by simp [okD] at h
  | .dcL _, h => by simp [okD] at h
theorem ok_canL : ∀ (d : List D), okL d = true → PyData.canLayAll0 (toPyL d) = true ∧ PyData.showableAll (toPyL d) = true ∧ PyData.hasDictAll (toPyL d) = false ∧ PyData.depthAll (toPyL d) = dpL d ∧ PyData.weightAll (toPyL d) ≤ wtL d ∧ PyData.intsShortAll 13 (toPyL d) = true
  | [], _ => ⟨rfl, rfl, rfl, rfl, Nat.le_refl _, rfl⟩
  | x :: xs, h => by
    rw [okL, Bool.and_eq_true] at h
    obtain ⟨h1, h2, h3, h4, h5, h6⟩ := ok_can x h.1
    obtain ⟨i1, i2, i3, i4, i5, i6⟩ := ok_canL xs h.2
    refine ⟨?_, ?_, ?_, ?_, ?_, ?_⟩
    · rw [toPyL, PyData.canLayAll0, h1, i1]; rfl
    · rw [toPyL, PyData.showableAll, h2, i2]; rfl
    · rw [toPyL, PyData.hasDictAll, h3, i3]; rfl
    · rw [toPyL, PyData.depthAll, h4, i4]; rfl
    · rw [toPyL, PyData.weightAll, wtL]; omega
    · rw [toPyL, PyData.intsShortAll, h6, i6]; rfl
end
section
variable {X : Cx} {x y : D}
def shownD (d : D) : Str := (toPy d).shown
end
def CaG (T : Wd) (x : Str) (k : Nat) (S : SpD) : Prop := ∃ ps, CalG T.P T.w T.K T.mg T.base x k ps S
abbrev CpG (T : Wd) (x : Str) (k : Nat) (S : PSp) : Prop := CaG T x k (pS S)
section
variable {T : Wd}
theorem cpg_of {x : Str} {st : Stmt} {N ps : List Str} {k : Nat} {S : PSp} (df : De T x ps st) (sc : FnScope N ps (defScope st)) (len : ∀ ds Q, S ds Q → ds.length = ps.length)
    (hbody : N.Nodup → ∀ (f : Addr) (cdv : Value) (A : Around) (outer : List Env) (s : Shared) (H : Hp) (E0 : XK), Room k (cX T N x st f cdv A outer s H E0).A → (cX T N x st f cdv A outer s H E0).A.guards = some [] →
      ∀ m ds (Q : D → Cs → Prop) E, S ds (fun d => Q d []) → XB (cX T N x st f cdv A outer s H E0) (mdOf m [] H E) (defBody st) ⟨startD N ds, []⟩ (poOf Q)) : CpG T x (k + 1) S :=
  ⟨ps, calg_of df sc (fun ds c Q E h => len ds _ h.2) fun f cdv A outer s H E0 hr hg m ds c Q E h => by
    obtain ⟨rfl, h⟩ := h
    exact hbody sc.nd f cdv A outer s H E0 hr hg m ds Q E h⟩
end
section
variable {X : Cx} {μ : Md} {Γ : En} {Q : QE} {k n : Nat} {x : Str} {p pos apos : Pos} {e o : Expr} {es : List Expr}
theorem xe_cpG {S : PSp} (C : CpG (wdX X) x k S) (hr : Room n X.A) (gd : X.A.guards = some []) (hkn : k ≤ n) (hg : Gl X x) (h : XA X μ (e :: es) Γ fun ds Γ1 => ∀ Qc : D → Prop, (∀ d, Q d Γ1 → Qc d) → S ds Qc) (hdb : (x == ("__debug__" : Str)) = false := by decide)
    (he : starEach (e :: es) X.env = (false, eval e X.env) :: starEach es X.env := by rfl) (hpl : (backTo pos (starEach es X.env)).any (·.1) = false := by rfl) : XE X μ (.Call (.Name x p) (e :: es) [] pos) Γ Q := by
  obtain ⟨ps, C⟩ := C
  refine xe_callG C (hr.mono hkn) gd hg (PA.imp h fun σ H q ⟨R, k⟩ => ⟨R, fun vs H' ds Γ' s' f' R' r' hq => k vs H' ds Γ' s' f' R' r' (asks_p hq)⟩) hdb he hpl
end
end Pdl
namespace Pdl
open PySem L2 PyProof.Rows PySem.Spec
/-- the tracked part at the law's call: the script alone, unless the module owns it -/
def scr (K : PySem.W.Frag) (a : Addr) (vs : List Value) (ns : List Int) : Hp := fun b => if b = a ∧ K.lookup a = none then some (.frz { cls := .type "list", data := .seq vs.toArray } (.lst (ns.map V.int))) else none
theorem scr_cases {K : PySem.W.Frag} {a : Addr} {vs : List Value} {ns : List Int} (b : Addr) : scr K a vs ns b = none ∨ (b = a ∧ K.lookup a = none ∧ scr K a vs ns b = some (.frz { cls := .type "list", data := .seq vs.toArray } (.lst (ns.map V.int)))) := by
  by_cases h : b = a ∧ K.lookup a = none
  · exact .inr ⟨h.1, h.2, if_pos h⟩
  · exact .inl (if_neg h)
end Pdl
namespace Pdl
open PySem L2 PyProof.Rows PySem.Spec
/-- a def's function object: where it is found, its names, its text -/
structure DefX where
  adr : PySem.W.Frag → Addr
  name : Str
  qual : Str
  st : Stmt
abbrev SeenF : Type := Option (Str × Str × Arguments × FuncBody × Scope × Addr × List (Str × Addr) × Value × Addr)
def seenF (K : PySem.W.Frag) (a : Addr) : SeenF := match K.lookup a with
  | some ⟨_, _, .func fd, _⟩ => some (fd.name, fd.qualname, fd.params, fd.body, fd.scope, fd.globals, fd.closure, fd.defaults, fd.builtins)
  | _ => none
def DefX.due (d : DefX) : SeenF := some (d.name, d.qual, defArgs d.st, .stmts (defBody d.st), defScope d.st, mainGlobals, [], .none, builtinsNs)
def DefX.ok (K : PySem.W.Frag) (d : DefX) : Bool := PySem.W.keepIn K (.ref (d.adr K)) && (match K.lookup (d.adr K) with
  | some ⟨_, _, .func fd, _⟩ => PySem.W.codeIn K fd.code d.qual
  | _ => false)
theorem DefX.fo {K : PySem.W.Frag} {d : DefX} (e : seenF K (d.adr K) = d.due) (c : d.ok K = true) : ∃ fd, Fun K d.name d.qual d.st (d.adr K) fd := by
  obtain ⟨kp, c2⟩ := Bool.and_eq_true_iff.mp c
  unfold seenF at e
  cases q : K.lookup (d.adr K) with
  | none => rw [q] at c2; cases c2
  | some o =>
    obtain ⟨oc, od, dt, osl⟩ := o
    rw [q] at c2 e
    cases dt with
    | func fd =>
      obtain ⟨n1, n2, n3, n4, n5, n6, n7, n8, n9, n10, n11, n12, n13, n14, n15⟩ := fd
      unfold DefX.due at e
      simp only [Option.some.injEq, Prod.mk.injEq] at e
      obtain ⟨h1, h2, h3, h4, h5, h6, h7, h8, h9⟩ := e
      subst h1 h2 h3 h4 h5 h6 h7 h8 h9
      exact ⟨_, fun_mk (oc := oc) (od := od) (osl := osl) (kV := n9) (doc := n10) (pm := n11) (an := n12) (cdv := n13) (ct := n14) q c2 kp⟩
    | _ => cases c2
/-- a look at the heap: facts, defs -/
abbrev FB := PySem.W.Frag → Bool
abbrev AlX : Type := Bool × List SeenF
def obsX (fs : List FB) (ds : List DefX) (K : PySem.W.Frag) : AlX := ((fs.all fun f => f K) && ds.all fun d => d.ok K, ds.map fun d => seenF K (d.adr K))
def dueX (ds : List DefX) : AlX := (true, ds.map DefX.due)
def SaysX (fs : List FB) (ds : List DefX) (K : PySem.W.Frag) : Prop := obsX fs ds K = dueX ds
/-- what the objects of a list name -/
def frontG (g : Addr → Option Obj) (as : List Addr) : List Addr := as.flatMap fun a => match g a with
  | some o => He.refsD o
  | none => []
def asF (g : Addr → Option Obj) : Nat → List Addr → List Addr
  | 0, f => f
  | n + 1, f => f ++ asF g n (frontG g f)
/-- the objects of some of the module's names -/
def namedG (g : Addr → Option Obj) (names : List Str) : List Addr := names.filterMap fun x => match PySem.W.nsIn (He.frG g [mainGlobals]) mainGlobals x with
  | some (some (.ref a)) => some a
  | _ => none
def asN (g : Addr → Option Obj) (names : List Str) (n : Nat) : List Addr := mainGlobals :: PySem.cStatics :: asF g n (namedG g names)
section
variable {fs : List FB} {ds : List DefX} {K : PySem.W.Frag}
theorem SaysX.fact (c : SaysX fs ds K) (i : Nat) {f : FB} (h : fs[i]? = some f := by rfl) : f K = true := by
  have c0 : ((fs.all fun f => f K) && ds.all fun d => d.ok K) = true := congrArg Prod.fst c
  exact List.all_eq_true.mp (Bool.and_eq_true_iff.mp c0).1 f (List.mem_of_getElem? h)
theorem SaysX.fo (c : SaysX fs ds K) (i : Nat) {d : DefX} (h : ds[i]? = some d := by rfl) : ∃ fd, Fun K d.name d.qual d.st (d.adr K) fd := by
  have c0 : ((fs.all fun f => f K) && ds.all fun d => d.ok K) = true := congrArg Prod.fst c
  have e : (ds.map fun d => seenF K (d.adr K))[i]? = (ds.map DefX.due)[i]? := by
    have e0 : ds.map (fun d => seenF K (d.adr K)) = ds.map DefX.due := congrArg Prod.snd c
    rw [e0]
  rw [List.getElem?_map, List.getElem?_map, h] at e
  exact DefX.fo (Option.some.inj e) (List.all_eq_true.mp (Bool.and_eq_true_iff.mp c0).2 d (List.mem_of_getElem? h))
end
def gA (x : Str) : PySem.W.Frag → Addr := fun K => He.ga K x
def mA (x m : Str) : PySem.W.Frag → Addr := fun K => He.ma K (He.ga K x) m
/-- a property's object, its getter -/
def pA (x p : Str) : PySem.W.Frag → Addr := fun K => match PySem.W.recIn K (He.ma K (He.ga K x) p) "property" with
  | some (.ref g :: _) => g
  | _ => 0
def vO (o : Option (Option Value)) (b : Option (Option Value)) : Bool := He.eqO o b
def fFree (x : Str) : FB := fun K => vO (PySem.W.nsIn K mainGlobals x) (some none)
def fGlo (x : Str) : FB := fun K => vO (PySem.W.nsIn K mainGlobals x) (some (some (.ref (gA x K))))
def fInt (x : Str) (i : Int) : FB := (He.Fa.int x i).ok
def fStr (x z : Str) : FB := (He.Fa.str x z).ok
def fCls (x : Str) : FB := (He.Fa.cls x).ok
def fNo (x f : Str) : FB := (He.Fa.noat x f).ok
def fMk (x : Str) : FB := (He.Fa.mkr x).ok
def fMeth (x m : Str) : FB := (He.Fa.meth x m).ok
def fOCls (x : Str) : FB := fun K => vO (PySem.W.findIn K (.ref (gA x K)) "__class__") (some (some (.builtin "object.__class__"))) && (vO (PySem.W.specialIn K (.builtin "object.__class__") "__get__") (some (some (.builtin "getset_descriptor.__get__"))) &&
  (decide (PySem.W.takesIn K (.builtin "object.__class__") = some true) && decide (PySem.W.mroIn K (gA x K) (.type "object") = some true)))
def fEq (x : Str) : FB := fun K => vO (PySem.W.findIn K (.ref (gA x K)) "__ne__") (some (some (.builtin "object.__ne__"))) && (decide (PySem.W.subIn K (.ref (gA x K)) (.type "object") = some true) && (vO (PySem.W.findIn K (.ref (gA x K)) "__eq__") (some (some (.ref (mA x "__eq__" K)))) && PySem.W.isFn K (.ref (mA x "__eq__" K))))
def fProp (x p : Str) : FB := fun K => vO (PySem.W.findIn K (.ref (gA x K)) p) (some (some (.ref (mA x p K)))) && (vO (PySem.W.specialIn K (.ref (mA x p K)) "__get__") (some (some (.builtin "property.__get__"))) && (decide (PySem.W.takesIn K (.ref (mA x p K)) = some true) &&
  (match PySem.W.recIn K (mA x p K) "property" with
    | some (.ref _ :: _) => true
    | _ => false)))
section
variable {K : PySem.W.Frag} {h : Heap} {mg : Str → Option Value}
theorem glo_mg (X : K.In h) (G : h.Ns mainGlobals mg) {x : Str} (c : fGlo x K = true) : mg x = some (.ref (gA x K)) := PySem.W.mg_of X G (He.eqO_ok c)
theorem free_mg (X : K.In h) (G : h.Ns mainGlobals mg) {x : Str} (c : fFree x K = true) : mg x = none := PySem.W.mg_none_of X G (He.eqO_ok c)
theorem int_mg (X : K.In h) (G : h.Ns mainGlobals mg) {x : Str} {i : Int} (c : fInt x i K = true) : GI mg x i := He.int_ok X G c
theorem str_mg (X : K.In h) (G : h.Ns mainGlobals mg) {x : Str} {l : List Nat} (c : fStr x (S l) K = true) : GS mg x l := He.str_ok X G c
theorem cls_of {x : Str} (c : fCls x K = true) : Cls K (gA x K) := He.cls_ok c
theorem no_of {x f : Str} (c : fNo x f K = true) : NoAttr K (gA x K) f := He.noat_ok c
theorem ocls_of {x : Str} (c : fCls x K = true) (o : fOCls x K = true) : OCls K (gA x K) := by
  obtain ⟨o1, o⟩ := Bool.and_eq_true_iff.mp o
  obtain ⟨o2, o⟩ := Bool.and_eq_true_iff.mp o
  obtain ⟨o3, o4⟩ := Bool.and_eq_true_iff.mp o
  exact ⟨cls_of c, He.eqO_ok o1, He.eqO_ok o2, of_decide_eq_true o3, of_decide_eq_true o4⟩
theorem prop_of {x p : Str} (c : fProp x p K = true) : PropOf K (gA x K) p (mA x p K) (pA x p K) := by
  obtain ⟨o1, o⟩ := Bool.and_eq_true_iff.mp c
  obtain ⟨o2, o⟩ := Bool.and_eq_true_iff.mp o
  obtain ⟨o3, o4⟩ := Bool.and_eq_true_iff.mp o
  refine ⟨He.eqO_ok o1, He.eqO_ok o2, of_decide_eq_true o3, ?_⟩
  unfold pA
  show ∃ r, PySem.W.recIn K (He.ma K (He.ga K x) p) "property" = some (.ref _ :: r)
  have o4 : (match PySem.W.recIn K (He.ma K (He.ga K x) p) "property" with
    | some (.ref _ :: _) => true
    | _ => false) = true := o4
  cases e : PySem.W.recIn K (He.ma K (He.ga K x) p) "property" with
  | none => rw [e] at o4; cases o4
  | some l =>
    rw [e] at o4
    match l, o4 with
    | .ref g :: r, _ => exact ⟨r, rfl⟩
end
theorem isO_self {K : PySem.W.Frag} {C : Addr} : IsO K C := by
  unfold IsO PySem.W.kitOne
  simp
section
variable {T : Wd} {h : Heap}
theorem de_at {x : Str} {st : Stmt} {ps : List Str} (KX : T.K.In h) (G : h.Ns mainGlobals T.mg) (a : fGlo x T.K = true) (o : ∃ fd, Fun T.K x x st (gA x T.K) fd)
    (b : ∀ (kV doc pm : Value) (an : Option Addr) (cdv ct : Value) (us : List Value), us.length = ps.length → bindArgs (PySem.W.fnOf x x (defArgs st) (defBody st) (defScope st) .none kV doc pm an cdv ct) ⟨us, []⟩ = pure (ps.zip us)) : De T x ps st := by
  obtain ⟨fd, F⟩ := o
  exact ⟨_, fd, glo_mg KX G a, F.kp, F, F.binds b⟩
theorem dei_at {x qual : Str} {st : Stmt} {ps : List Str} (KX : T.K.In h) (G : h.Ns mainGlobals T.mg) (a : fGlo x T.K = true) (m : fMk x T.K = true) (o : ∃ fd, Fun T.K "__init__" qual st (mA x "__init__" T.K) fd)
    (b : ∀ (kV doc pm : Value) (an : Option Addr) (cdv ct : Value) (us : List Value), us.length = ps.length → bindArgs (PySem.W.fnOf "__init__" qual (defArgs st) (defBody st) (defScope st) .none kV doc pm an cdv ct) ⟨us, []⟩ = pure (ps.zip us)) : DeI T x (gA x T.K) qual ps st := by
  obtain ⟨fd, F⟩ := o
  exact ⟨_, fd, glo_mg KX G a, He.mkr_ok m, F, F.binds b⟩
theorem deq_at {x qual : Str} {st : Stmt} {ps : List Str} (q : fEq x T.K = true) (o : ∃ fd, Fun T.K "__eq__" qual st (mA x "__eq__" T.K) fd)
    (b : ∀ (kV doc pm : Value) (an : Option Addr) (cdv ct : Value) (us : List Value), us.length = ps.length → bindArgs (PySem.W.fnOf "__eq__" qual (defArgs st) (defBody st) (defScope st) .none kV doc pm an cdv ct) ⟨us, []⟩ = pure (ps.zip us)) : DeQ T (gA x T.K) qual ps st := by
  obtain ⟨fd, F⟩ := o
  obtain ⟨o1, q⟩ := Bool.and_eq_true_iff.mp q
  obtain ⟨o2, q⟩ := Bool.and_eq_true_iff.mp q
  obtain ⟨o3, o4⟩ := Bool.and_eq_true_iff.mp q
  exact ⟨_, fd, He.eqO_ok o1, of_decide_eq_true o2, He.eqO_ok o3, o4, F, F.binds b⟩
theorem dep_at {x f qual : Str} {st : Stmt} {ps : List Str} (c : fCls x T.K = true) (p : fProp x f T.K = true) (o : ∃ fd, Fun T.K f qual st (pA x f T.K) fd)
    (b : ∀ (kV doc pm : Value) (an : Option Addr) (cdv ct : Value) (us : List Value), us.length = ps.length → bindArgs (PySem.W.fnOf f qual (defArgs st) (defBody st) (defScope st) .none kV doc pm an cdv ct) ⟨us, []⟩ = pure (ps.zip us)) : DeP T (gA x T.K) f qual ps st := by
  obtain ⟨fd, F⟩ := o
  exact ⟨_, _, fd, cls_of c, prop_of p, F, F.binds b⟩
theorem dem_at {x f qual : Str} {st : Stmt} {ps : List Str} (c : fCls x T.K = true) (m : fMeth x f T.K = true) (o : ∃ fd, Fun T.K f qual st (mA x f T.K) fd)
    (b : ∀ (kV doc pm : Value) (an : Option Addr) (cdv ct : Value) (us : List Value), us.length = ps.length → bindArgs (PySem.W.fnOf f qual (defArgs st) (defBody st) (defScope st) .none kV doc pm an cdv ct) ⟨us, []⟩ = pure (ps.zip us)) : DeM T (gA x T.K) f qual ps st := by
  obtain ⟨fd, F⟩ := o
  exact ⟨_, fd, cls_of c, He.meth_ok m, F, F.binds b⟩
end
end Pdl
namespace Pdl
open PySem L2 PyProof.Rows PySem.Spec
theorem fn_GD {P : Program} {w : World} {K : PySem.W.Frag} {mg : Str → Option Value} {base : Heap} {x qual : Str} {st : Stmt} {f : Addr} {fd : FuncData} {N ps : List Str} {k : Nat} {S : SpD} (F : Fun K x qual st f fd) (sc : FnScope N ps (defScope st)) (len : ∀ ds c Q E, S ds c Q E → ds.length = ps.length)
    (hbody : ∀ (cdv : Value) (A : Around) (outer : List Env) (s : Shared) (H : Hp) (E0 : XK), Room k (bX P w K mg base N qual st f cdv A outer s H E0).A → (bX P w K mg base N qual st f cdv A outer s H E0).A.guards = some [] →
      ∀ m ds c Q E, S ds c Q E → XB (bX P w K mg base N qual st f cdv A outer s H E0) (mdOf m c H E) (defBody st) ⟨startD N ds, c⟩ (poOf Q)) : FnG P w K mg base (k + 1) f fd ps (spD K S) := by
  refine fn_G F sc (fun vs H Q E h => ?_) (fun cdv A outer s H vs Q E hr hg h => ?_)
  · obtain ⟨m, ds, c, _, r, hs⟩ := h
    rw [r.length]
    exact len _ _ _ _ hs
  · exact body_D (X := bX P w K mg base N qual st f cdv A outer s H E) rfl (fun m ds c Q' E' _ hs => hbody cdv A outer s H E hr hg m ds c Q' E' hs) h
end Pdl
namespace Pdl
open PySem L2 PyProof.Rows
def sPair : PSp := fun ds Q => ∃ a b : List Nat, ds = [.str (S a), .str (S b)] ∧ a.length + b.length ≤ 1000 ∧ Q (.str (S (if b < a then b ++ a else a ++ b)))
def sPlaces : PSp := fun ds Q => ∃ (d : D) (ls : List (List Nat)), ds = [d] ∧ (d = .lst (SL ls) ∨ d = .tup (SL ls)) ∧ ls.length ≤ 4000 ∧ ls.flatten.length ≤ 4000 ∧ Q (.str (S (us ls.flatten)))
/-- is_place(text) -/
def sIsPlace : PSp := fun ds Q => ∃ c : Nat, ds = [.str (S [c])] ∧ Q (.bl (decide (97 ≤ c ∧ c ≤ 122)))
/-- is_two, is_pair of texts of two signs -/
def sIsTwo : PSp := fun ds Q => ∃ a b : Nat, ds = [.str (S [a, b])] ∧ (97 ≤ a ∧ a ≤ 122) ∧ (97 ≤ b ∧ b ≤ 122) ∧ a ≠ b ∧ Q (.bl true)
def sIsPair : PSp := fun ds Q => ∃ a b : Nat, ds = [.str (S [a, b])] ∧ (97 ≤ a ∧ a ≤ 122) ∧ (97 ≤ b ∧ b ≤ 122) ∧ a < b ∧ Q (.bl true)
def sMet : PSp := fun ds Q => ∃ (d : D) (ls : List (List Nat)) (ps : List Nat), ds = [d, .str (S ps)] ∧ Items d (SL ls) ∧ (∀ l ∈ ls, ∃ a b, l = [a, b]) ∧ ls.length ≤ 500 ∧ ps.length ≤ 500 ∧ ∀ M, IsMet ls ps M → Q (.str (S M))
def sHang : PSp := fun ds Q => ∃ (d : D) (ls : List (List Nat)), ds = [d] ∧ (d = .lst (SL ls) ∨ d = .tup (SL ls)) ∧ (∀ l ∈ ls, ∃ a b, l = [a, b]) ∧ ls ≠ [] ∧ ls.length ≤ 500 ∧ Conn ls ∧ Q (.bl true)
def sChk : PSp := fun ds Q => ∃ (ls : List (List Nat)), ds = [.tup (SL ls)] ∧ Ties ls ∧ Q .non
def webD (C : Addr) (ls : List (List Nat)) : D := .ins C [("pairs", .tup (SL ls)), ("letters", .str (S (us ls.flatten)))]
def wayD (C : Addr) (as : List (List Nat)) : D := .ins C [("lot", .tup (SL as))]
def sWebI : ISp := fun ds Q => ∃ ls, ds = [.tup (SL ls)] ∧ Ties ls ∧ Q [("pairs", .tup (SL ls)), ("letters", .str (S (us ls.flatten)))]
def sWebPlaces (C : Addr) : PSp := fun ds Q => ∃ ls, ds = [webD C ls] ∧ Q (.str (S (us ls.flatten)))
def itOn : Nat → List (List Nat) → List (List Nat)
  | 0, L => L
  | n + 1, L => itOn n (onL L)
def rkB (as : List (List Nat)) : Bool := decide (itOn as.length as = [])
theorem ranked_back {L : List (List Nat)} (h2 : Two L) (h : Ranked (onL L)) : Ranked L := by
  obtain ⟨r, hr⟩ := h
  refine ⟨fun x => if (L.any fun o => decide ([snd2 o] = [x])) = true then r x + 1 else 0, fun a b hl => ?_⟩
  have hb : (L.any fun o => decide ([snd2 o] = [b])) = true := List.any_eq_true.mpr ⟨_, hl, by simp [snd2]⟩
  show (if (L.any fun o => decide ([snd2 o] = [a])) = true then r a + 1 else 0) < (if (L.any fun o => decide ([snd2 o] = [b])) = true then r b + 1 else 0)
  rw [if_pos hb]
  by_cases ha : (L.any fun o => decide ([snd2 o] = [a])) = true
  · rw [if_pos ha]
    have := hr a b (List.mem_filter.mpr ⟨hl, ha⟩)
    omega
  · rw [if_neg ha]
    omega
theorem itOn_ranked : ∀ (n : Nat) {L : List (List Nat)}, Two L → itOn n L = [] → Ranked L
  | 0, L, _, h => by
    have h : L = [] := h
    subst h
    exact ⟨fun _ => 0, fun a b hl => by cases hl⟩
  | n + 1, L, h2, h => ranked_back h2 (itOn_ranked n (onL_two h2) h)
theorem itOn_nil : ∀ (n : Nat), itOn n [] = []
  | 0 => rfl
  | n + 1 => itOn_nil n
theorem itOn_end : ∀ (n : Nat) {L : List (List Nat)}, Two L → Ranked L → L.length ≤ n → itOn n L = []
  | 0, L, _, _, h => List.length_eq_zero_iff.mp (Nat.le_zero.mp h)
  | n + 1, L, h2, hr, h => by
    by_cases hne : L = []
    · subst hne
      exact itOn_nil (n + 1)
    · have := onL_less h2 hr hne
      exact itOn_end n (onL_two h2) (onL_ranked hr) (by omega)
theorem rkB_iff {as : List (List Nat)} (h2 : Two as) : rkB as = true ↔ Ranked as := by
  unfold rkB
  rw [decide_eq_true_iff]
  exact ⟨itOn_ranked _ h2, fun h => itOn_end _ h2 h (Nat.le_refl _)⟩
theorem ranked_onL {L : List (List Nat)} (h2 : Two L) : Ranked (onL L) ↔ Ranked L := ⟨ranked_back h2, onL_ranked⟩
theorem rkB_fix {as L : List (List Nat)} (h2 : Two as) (g2 : Two L) (hr : Ranked as ↔ Ranked L) (hf : onL L = L) : (!decide (L = [])) = !rkB as := by
  congr 1
  rw [Bool.eq_iff_iff, decide_eq_true_iff, rkB_iff h2, hr]
  constructor
  · rintro rfl
    exact ⟨fun _ => 0, fun a b hl => by cases hl⟩
  · intro h
    refine Decidable.byContradiction fun hn => ?_
    have := onL_less g2 h hn
    rw [hf] at this
    omega
theorem rkB_t {as : List (List Nat)} (h2 : Two as) (h : Ranked as) : rkB as = true := (rkB_iff h2).mpr h
def sRing : PSp := fun ds Q => ∃ as, ds = [.tup (SL as)] ∧ Two as ∧ as.length ≤ 500 ∧ Lw as ∧ Q (.bl (!rkB as))
def sChkA : PSp := fun ds Q => ∃ as, ds = [.tup (SL as)] ∧ Arrs as ∧ Q .non
def sWayI : ISp := fun ds Q => ∃ as, ds = [.tup (SL as)] ∧ Arrs as ∧ Q [("lot", .tup (SL as))]
def sWayArrows (C : Addr) : PSp := fun ds Q => ∃ as, ds = [wayD C as] ∧ Q (.tup (SL as))
def sWayEq (C : Addr) : PSp := fun ds Q => ∃ a b, ds = [wayD C a, wayD C b] ∧ Lw a ∧ Lw b ∧ Q (.bl (decide (a = b)))
def sWebOf (Cw : Addr) : PSp := fun ds Q => ∃ as, ds = [.tup (SL as)] ∧ Arrs as ∧ Q (webD Cw (as.map pr2))
def sWayWeb (Cy Cw : Addr) : PSp := fun ds Q => ∃ as, ds = [wayD Cy as] ∧ Arrs as ∧ Q (webD Cw (as.map pr2))
def sTap : PSp := fun ds Q => ∃ n : Nat, ds = [.int (n : Int)] ∧ 1 ≤ n ∧ n ≤ 1000000 ∧ ∀ i : Nat, i < n → Q (.int (i : Int))
def sPick : PSp := fun ds Q => ∃ (d : D) (xs : List D), ds = [d] ∧ (d = .lst xs ∨ d = .tup xs ∨ ∃ l, d = .str (S l) ∧ xs = l.map fun c => .str (S [c])) ∧ xs ≠ [] ∧ xs.length ≤ 100000 ∧ ∀ x ∈ xs, Q x
def kKeg : List D → Prop := fun ds => ∃ (ns : List Int) (k : Nat), ds = [.lst (ns.map D.int), .int (k : Int)] ∧ k ≤ 100 ∧ ns.length ≤ 1000
def Az (l : List Nat) : Prop := ∀ c ∈ l, 97 ≤ c ∧ c ≤ 122
def sLetters : PSp := fun ds Q => ∃ n : Nat, ds = [.int (n : Int)] ∧ n ≤ 7 ∧ ∀ l : List Nat, l.Pairwise (· < ·) → l.length = n → Az l → Q (.str (S l))
structure NetOk (most : Nat) (l : List Nat) (ls : List (List Nat)) : Prop where
  ties : Ties ls
  all : us ls.flatten = l
  two : 2 ≤ l.length
  most : l.length ≤ most
  az : AzP l
def sRight : PSp := fun ds Q => ds = [] ∧ Q (.bl true)
end Pdl
namespace Pdl
open PySem L2 PyProof.Rows
/-- the list that is being made stands at p, hidden -/
def LcSt (K : PySem.W.Frag) (μ : Md) (p : Addr) (c1 : Cs) (H1 : Hp) (σ : L2.St) (s : List (Option D)) (acc : List D) (c : Cs) (H : Hp) : Prop :=
  ∃ vs, H p = some (.lst vs) ∧ RpA K (hid (tot μ.m c) H) vs acc ∧ Fw c1 c H1 H ∧ Rel K μ H σ ⟨s, c⟩
section
variable {K : PySem.W.Frag} {μ : Md} {p : Addr} {c1 c c' : Cs} {H1 H H' : Hp} {σ σ' : L2.St} {s s' : List (Option D)} {acc : List D} {y : V} {d : D}
theorem LcSt.off (mp : μ.m p = true) (R : Rel K μ H σ ⟨s, c⟩) : inC c p = false := by
  cases e : inC c p with
  | false => rfl
  | true =>
    obtain ⟨r, hr, er⟩ := of_inC e
    have := R.co.off r hr
    rw [er, mp] at this
    cases this
theorem LcSt.next (mp : μ.m p = true) (h : LcSt K μ p c1 H1 σ s acc c H) (f : Fw c c' H H') (R : Rel K μ H' σ' ⟨s', c'⟩) : LcSt K μ p c1 H1 σ' s' acc c' H' := by
  obtain ⟨vs, h1, h2, h3, h4⟩ := h
  exact ⟨vs, (f _ _ (LcSt.off mp h4) h1).1, h2.mono f.sub, h3.trans f, R⟩
theorem LcSt.push (mp : μ.m p = true) (hp : H1 p = none) (hp0 : μ.H0 p = none) (h : LcSt K μ p c1 H1 σ s acc c H) (r : Rp K (hid (tot μ.m c) H) y d) : ∃ vs, H p = some (.lst vs) ∧ vs.length = acc.length ∧ LcSt K μ p c1 H1 σ s (acc ++ [d]) c (upd H p (.lst (vs ++ [y]))) := by
  obtain ⟨vs, h1, h2, h3, h4⟩ := h
  have tp : tot μ.m c p = true := by unfold tot; rw [mp]; rfl
  refine ⟨vs, h1, h2.length, vs ++ [y], upd_same, ?_, ?_, ⟨⟨fun a ha => ?_, h4.co.nd, h4.co.off, fun r hr => ?_⟩, ?_, fun a o ha e => ?_⟩⟩
  · rw [hid_msk tp]
    exact h2.app (.cons r .nil)
  · intro a o ha e
    obtain ⟨z1, z2⟩ := h3 a o ha e
    exact ⟨by rw [upd_ne (ne_of_none e hp)]; exact z1, z2⟩
  · by_cases ea : a = p
    · subst ea; exact ⟨_, upd_same, rfl⟩
    · obtain ⟨o, ho, z⟩ := h4.co.dom a ha
      exact ⟨o, by rw [upd_ne ea]; exact ho, z⟩
  · have hne : r.1 ≠ p := fun z => by
      have := h4.co.off r hr
      rw [z, mp] at this
      cases this
    show CellRp K (hid (tot μ.m c) (upd H p _)) (upd H p _ r.1) r.2
    rw [hid_msk tp, upd_ne hne]
    exact h4.co.cells r hr
  · show SlotRp K (hid (tot μ.m c) (upd H p _)) _ _
    rw [hid_msk tp]
    exact h4.slots
  · obtain ⟨z1, z2⟩ := h4.fw a o ha e
    exact ⟨by rw [upd_ne (ne_of_none e hp0)]; exact z1, z2⟩
end
end Pdl
namespace Pdl
open PySem L2 PyProof.Rows PySem.W
section
variable {α : Type}
def leE (e : α → D) : α → α → Bool := dataLe false fun a => toPy (e a)
def srtE (e : α → D) (l : List α) : List α := l.mergeSort (leE e)
/-- keys tell the things of l apart -/
def KInj (e : α → D) (l : List α) : Prop := ∀ a ∈ l, ∀ b ∈ l, keyToks (toPy (e a)) = keyToks (toPy (e b)) → a = b
theorem leE_trans (e : α → D) (a b c : α) (h1 : leE e a b = true) (h2 : leE e b c = true) : leE e a c = true := (sortLe_total (listOrd itemOrd) false fun a => keyToks (toPy (e a))).trans a b c h1 h2
theorem leE_total (e : α → D) (a b : α) : (leE e a b || leE e b a) = true := by
  have := (sortLe_total (listOrd itemOrd) false fun a => keyToks (toPy (e a))).total a b
  unfold leE dataLe
  rcases this with h | h <;> simp [h]
theorem leE_anti {e : α → D} {l : List α} (hk : KInj e l) {a b : α} (ha : a ∈ l) (hb : b ∈ l) (h1 : leE e a b = true) (h2 : leE e b a = true) : a = b := by
  have h1' : (!PyProof.Rows.lexLt itemOrd (keyToks (toPy (e b))) (keyToks (toPy (e a)))) = true := h1
  have h2' : (!PyProof.Rows.lexLt itemOrd (keyToks (toPy (e a))) (keyToks (toPy (e b)))) = true := h2
  rw [Bool.not_eq_true'] at h1' h2'
  exact hk a ha b hb (lex_total _ _ h2' h1')
theorem srtE_perm (e : α → D) (l : List α) : (srtE e l).Perm l := List.mergeSort_perm _ _
theorem srtE_sorted (e : α → D) (l : List α) : (srtE e l).Pairwise fun a b => leE e a b = true := List.pairwise_mergeSort (leE_trans e) (leE_total e) l
theorem srtE_eq {e : α → D} {l m : List α} (hk : KInj e l) (hs : m.Pairwise fun a b => leE e a b = true) (hp : m.Perm l) : srtE e l = m :=
  List.Perm.eq_of_pairwise (fun a b ha hb h1 h2 => leE_anti hk ((srtE_perm e l).mem_iff.mp ha) (hp.mem_iff.mp hb) h1 h2) (srtE_sorted e l) hs ((srtE_perm e l).trans hp.symm)
theorem srtE_same {e : α → D} {l m : List α} (hk : KInj e l) (hp : m.Perm l) : srtE e m = srtE e l :=
  (srtE_eq hk (srtE_sorted e m) ((srtE_perm e m).trans hp)).symm
end
def tS (ls : List (List Nat)) : D := .tup (SL ls)
theorem keys_SL : ∀ {a b : List (List Nat)}, keyToksAll (toPyL (SL a)) = keyToksAll (toPyL (SL b)) → a = b
  | [], [], _ => rfl
  | [], y :: b, h => by
    have h : keyToksAll [] = keyToksAll (.str (S y) :: toPyL (SL b)) := h
    simp [keyToksAll] at h
  | x :: a, [], h => by
    have h : keyToksAll (.str (S x) :: toPyL (SL a)) = keyToksAll [] := h
    simp [keyToksAll] at h
  | x :: a, y :: b, h => by
    have h : keyToksAll (.str (S x) :: toPyL (SL a)) = keyToksAll (.str (S y) :: toPyL (SL b)) := h
    simp only [keyToksAll, keyToks, List.cons_append, List.nil_append, List.cons.injEq, Sum.inr.injEq] at h
    obtain ⟨_, h1, h2⟩ := h
    rw [keys_SL h2]
    have h1 : x = y := h1
    rw [h1]
theorem kinj_tS (l : List (List (List Nat))) : KInj tS l := fun a _ b _ h => by
  have h : keyToks (.tuple (toPyL (SL a))) = keyToks (.tuple (toPyL (SL b))) := h
  unfold keyToks at h
  exact keys_SL h
end Pdl
namespace Pdl
open PySem L2 PyProof.Rows
section
variable {X : Cx} {μ : Md} {Γ : En} {Q : QE} {a b c e o it tg elt : Expr} {es ifs : List Expr} {pos apos cpos tpos p : Pos} {x y d : D} {m : Addr → Bool} {H : Hp} {P : Po} {scope : Scope}
theorem xe_me {pl : Sem Bool} {k n : Nat} {C : Addr} {f : Str} {S : PSp} (M : Me (wdX X) C f k S) (hr : Room n X.A) (hkn : k ≤ n) (h : XE X μ o Γ fun z Γ1 => ∃ fs, z = .ins C fs ∧ fs.lookup f = none ∧ XA X μ (e :: es) Γ1 fun ds Γ2 => ∀ Qc : D → Prop, (∀ d, Q d Γ2 → Qc d) → S (.ins C fs :: ds) Qc)
    (hst : starEach (e :: es) X.env = (false, eval e X.env) :: starEach es X.env := by rfl) (hpl : (backTo pos (starEach es X.env)).any (·.1) = false := by rfl)
    (ht : eval (.Call (.Attribute o f apos) (e :: es) [] pos) X.env = (do
      let ov ← eval o X.env
      standAt apos.atName
      let (f, first) ← holding [ov] (getMethod ov f pl)
      callWith pos f first (backTo pos (starEach (e :: es) X.env)) (backToKw pos (keywordEach [] X.env))) := by rfl) : XE X μ (.Call (.Attribute o f apos) (e :: es) [] pos) Γ Q :=
  xe_meth M (hr.mono hkn) (h.imp fun d Γ' ⟨fs, e1, e2, hq⟩ => ⟨fs, e1, e2, PA.imp hq fun σ H q ⟨R, k⟩ => ⟨R, fun vs H' ds Γ'' s' f' R' r' hq => k vs H' ds Γ'' s' f' R' r' (asks_p hq)⟩⟩) hst hpl ht
end
end Pdl
namespace Pdl
open PySem L2 PyProof.Rows
section
variable {X : Cx} {μ : Md} {Γ : En} {Q : QE} {a b c e e2 o it tg elt : Expr} {es ifs : List Expr} {pos apos cpos tpos p : Pos} {x y d : D} {m : Addr → Bool} {H : Hp} {P : Po} {scope : Scope}
theorem RpK.val {K : PySem.W.Frag} {G : Hp} {k : Key} : ∀ {vs : List (Key × V)} {ds : List (Key × D)}, RpK K G vs ds → ∀ {d : D}, (ds.find? fun q => decide (q.1 = k)) = some (k, d) → ∃ v, valV vs k = some v ∧ Rp K G v d
  | _, _, .nil, d, h => by simp at h
  | _, _, .cons (k := k') (v := v') (d := d') h t, d, e => by
    by_cases hk : k' = k
    · subst hk
      rw [List.find?_cons] at e
      simp at e
      subst e
      exact ⟨v', by simp [valV], h⟩
    · rw [List.find?_cons] at e
      simp only [hk, decide_false] at e
      obtain ⟨v, h1, h2⟩ := RpK.val t e
      refine ⟨v, ?_, h2⟩
      unfold valV at h1 ⊢
      rw [List.find?_cons]
      simp only [hk, decide_false]
      exact h1
end
end Pdl
namespace Pdl
/-- arrows with those of a place the other way -/
def exF (p : Nat) (l : List Nat) : List Nat := if p ∈ l then l.reverse else l
def exch (as : List (List Nat)) (p : Nat) : List (List Nat) := as.map (exF p)
def Gives (as : List (List Nat)) (p : Nat) : Prop := ∀ a, [a, p] ∉ as
def Takes (as : List (List Nat)) (p : Nat) : Prop := ∀ a, [p, a] ∉ as
/-- a row of turnings leads from arrows to others -/
inductive Row : List (List Nat) → List Nat → List (List Nat) → Prop
  | nil {as} : Row as [] as
  | cons {as p row bs} : p ∈ as.flatten → Gives as p → Row (exch as p) row bs → Row as (p :: row) bs
def NoLoop (as : List (List Nat)) : Prop := ∀ a, [a, a] ∉ as
theorem Ranked.noLoop {as : List (List Nat)} (h : Ranked as) : NoLoop as := fun a ha => by
  obtain ⟨r, hr⟩ := h
  exact Nat.lt_irrefl _ (hr a a ha)
theorem exF_two {p a b : Nat} : exF p [a, b] = if p = a ∨ p = b then [b, a] else [a, b] := by
  unfold exF
  simp only [List.mem_cons, List.not_mem_nil, or_false]
  rfl
theorem exch_two {as : List (List Nat)} {p : Nat} (h : Two as) : Two (exch as p) := fun l hl => by
  obtain ⟨t, ht, rfl⟩ := List.mem_map.mp hl
  obtain ⟨a, b, rfl⟩ := h t ht
  rw [exF_two]
  split
  · exact ⟨b, a, rfl⟩
  · exact ⟨a, b, rfl⟩
theorem pr2_comm {a b : Nat} : pr2 [a, b] = pr2 [b, a] := by
  show (if b < a then [b, a] else [a, b]) = (if a < b then [a, b] else [b, a])
  by_cases h1 : b < a
  · rw [if_pos h1, if_neg (by omega)]
  · by_cases h2 : a < b
    · rw [if_neg h1, if_pos h2]
    · have : a = b := by omega
      subst this
      simp
theorem exF_pr2 {p : Nat} {l : List Nat} (h : ∃ a b, l = [a, b]) : pr2 (exF p l) = pr2 l := by
  obtain ⟨a, b, rfl⟩ := h
  rw [exF_two]
  split
  · exact pr2_comm
  · rfl
theorem exch_pr2 {as : List (List Nat)} {p : Nat} (h : Two as) : (exch as p).map pr2 = as.map pr2 := by
  unfold exch
  rw [List.map_map]
  exact List.map_congr_left fun l hl => exF_pr2 (h l hl)
theorem exF_exF (p : Nat) (l : List Nat) : exF p (exF p l) = l := by
  unfold exF
  by_cases h : p ∈ l
  · rw [if_pos h, if_pos (by simpa using h), List.reverse_reverse]
  · rw [if_neg h, if_neg h]
theorem exch_exch (as : List (List Nat)) (p : Nat) : exch (exch as p) p = as := by
  unfold exch
  rw [List.map_map]
  conv => rhs; rw [← List.map_id as]
  exact List.map_congr_left fun l _ => exF_exF p l
theorem mem_exF {p x : Nat} {l : List Nat} : x ∈ exF p l ↔ x ∈ l := by
  unfold exF
  split
  · simp
  · rfl
theorem mem_exch_flat {as : List (List Nat)} {p x : Nat} : x ∈ (exch as p).flatten ↔ x ∈ as.flatten := by
  simp only [List.mem_flatten, exch]
  constructor
  · rintro ⟨l, hl, hx⟩
    obtain ⟨t, ht, rfl⟩ := List.mem_map.mp hl
    exact ⟨t, ht, mem_exF.mp hx⟩
  · rintro ⟨l, hl, hx⟩
    exact ⟨_, List.mem_map_of_mem hl, mem_exF.mpr hx⟩
theorem mem_exch {as : List (List Nat)} {p a b : Nat} (h2 : Two as) : [a, b] ∈ exch as p ↔ ((p = a ∨ p = b) ∧ [b, a] ∈ as) ∨ (¬ (p = a ∨ p = b) ∧ [a, b] ∈ as) := by
  unfold exch
  rw [List.mem_map]
  constructor
  · rintro ⟨t, ht, e⟩
    obtain ⟨x, y, rfl⟩ := h2 t ht
    rw [exF_two] at e
    split at e
    · rename_i h
      simp at e
      obtain ⟨rfl, rfl⟩ := e
      exact .inl ⟨h.symm, ht⟩
    · rename_i h
      simp at e
      obtain ⟨rfl, rfl⟩ := e
      exact .inr ⟨h, ht⟩
  · rintro (⟨h, ht⟩ | ⟨h, ht⟩)
    · exact ⟨_, ht, by rw [exF_two, if_pos h.symm]⟩
    · exact ⟨_, ht, by rw [exF_two, if_neg h]⟩
/-- a giver turned: no ring comes -/
theorem exch_ranked {as : List (List Nat)} {p : Nat} (h2 : Two as) (hr : Ranked as) (hg : Gives as p) : Ranked (exch as p) := by
  obtain ⟨r, h⟩ := hr
  have hl : NoLoop as := Ranked.noLoop ⟨r, h⟩
  obtain ⟨M, hM⟩ : ∃ M, ∀ a b, [a, b] ∈ as → r a < M ∧ r b < M := by
    clear hl hg
    induction as with
    | nil => exact ⟨0, fun a b h => by cases h⟩
    | cons l ls ih =>
      obtain ⟨M, hM⟩ := ih (fun l hl => h2 l (List.mem_cons_of_mem _ hl)) fun a b hab => h a b (List.mem_cons_of_mem _ hab)
      obtain ⟨x, y, rfl⟩ := h2 l List.mem_cons_self
      refine ⟨M + r x + r y + 1, fun a b hab => ?_⟩
      rcases List.mem_cons.mp hab with e | e
      · simp at e
        obtain ⟨rfl, rfl⟩ := e
        omega
      · have := hM a b e
        omega
  refine ⟨fun x => if x = p then M else r x, fun a b hab => ?_⟩
  rcases (mem_exch h2).mp hab with ⟨h1, h3⟩ | ⟨h1, h3⟩
  · have h4 : p ≠ a := fun e => hg b (e ▸ h3)
    have h5 : p = b := h1.resolve_left h4
    subst h5
    show (if a = p then M else r a) < (if p = p then M else r p)
    rw [if_neg (fun e => h4 e.symm), if_pos rfl]
    exact (hM _ _ h3).2
  · show (if a = p then M else r a) < (if b = p then M else r b)
    rw [if_neg (fun e => h1 (.inl e.symm)), if_neg (fun e => h1 (.inr e.symm))]
    exact h a b h3
theorem exch_takes {as : List (List Nat)} {p : Nat} (h2 : Two as) (hg : Gives as p) : Takes (exch as p) p := fun a ha => by
  rcases (mem_exch h2).mp ha with ⟨_, h⟩ | ⟨h, _⟩
  · exact hg a h
  · exact h (.inl rfl)
/-- numbers with the differences that two lots of arrows on the same ties ask for -/
def Fit (as bs : List (List Nat)) (f : Nat → Int) : Prop := ∀ (i a b : Nat) (o : List Nat), as[i]? = some [a, b] → bs[i]? = some o → f a - f b = if [a, b] = o then 0 else 1
/-- the same ties -/
def SameW (as bs : List (List Nat)) : Prop := as.map pr2 = bs.map pr2
theorem SameW.len {as bs : List (List Nat)} (h : SameW as bs) : as.length = bs.length := by
  have := congrArg List.length h
  simpa using this
theorem pr2_inv {a b c d : Nat} (h : pr2 [a, b] = pr2 [c, d]) : (a = c ∧ b = d) ∨ (a = d ∧ b = c) := by
  have h : (if b < a then [b, a] else [a, b]) = (if d < c then [d, c] else [c, d]) := h
  split at h <;> split at h <;> simp at h <;> omega
theorem SameW.at {as bs : List (List Nat)} (h : SameW as bs) (h2 : Two bs) {i a b : Nat} {o : List Nat} (h3 : as[i]? = some [a, b]) (h4 : bs[i]? = some o) : o = [a, b] ∨ o = [b, a] := by
  obtain ⟨c, d, rfl⟩ := h2 o (List.mem_of_getElem? h4)
  have e : (as.map pr2)[i]? = (bs.map pr2)[i]? := by rw [h]
  rw [List.getElem?_map, List.getElem?_map, h3, h4] at e
  have e : pr2 [a, b] = pr2 [c, d] := Option.some.inj e
  rcases pr2_inv e with ⟨rfl, rfl⟩ | ⟨rfl, rfl⟩
  · exact .inl rfl
  · exact .inr rfl
theorem exch_at {as : List (List Nat)} {p i : Nat} : (exch as p)[i]? = (as[i]?).map (exF p) := by
  unfold exch
  rw [List.getElem?_map]
/-- one turning less -/
theorem Fit.turn {as bs : List (List Nat)} {f : Nat → Int} {p : Nat} (h2 : Two as) (h2' : Two bs) (hs : SameW as bs) (hl : NoLoop as) (hg : Gives as p) (h : Fit as bs f) : Fit (exch as p) bs (fun x => if x = p then f x - 1 else f x) := fun i a b o h3 h4 => by
  rw [exch_at] at h3
  cases e : as[i]? with
  | none => rw [e] at h3; cases h3
  | some t =>
    obtain ⟨x, y, rfl⟩ := h2 t (List.mem_of_getElem? e)
    rw [e] at h3
    have h3 : exF p [x, y] = [a, b] := Option.some.inj h3
    have hne : x ≠ y := fun z => hl x (z ▸ List.mem_of_getElem? (z ▸ e))
    have hyp : p ≠ y := fun z => hg x (List.mem_of_getElem? (z ▸ e))
    have hf := h i x y o e h4
    have ho := hs.at h2' e h4
    rw [exF_two] at h3
    by_cases hx : p = x
    · subst hx
      rw [if_pos (.inl rfl)] at h3
      simp at h3
      obtain ⟨rfl, rfl⟩ := h3
      show (if y = p then f y - 1 else f y) - (if p = p then f p - 1 else f p) = _
      rw [if_neg (fun z => hyp z.symm), if_pos rfl]
      rcases ho with rfl | rfl
      · rw [if_pos rfl] at hf
        rw [if_neg (by simp; intro z; exact absurd z.symm hne)]
        omega
      · rw [if_neg (by simp; intro z; exact absurd z hne)] at hf
        rw [if_pos rfl]
        omega
    · rw [if_neg (by rintro (z | z); exact hx z; exact hyp z)] at h3
      simp at h3
      obtain ⟨rfl, rfl⟩ := h3
      show (if x = p then f x - 1 else f x) - (if y = p then f y - 1 else f y) = _
      rw [if_neg (fun z => hx z.symm), if_neg (fun z => hyp z.symm)]
      exact hf
/-- .. one more -/
theorem Fit.back {as bs : List (List Nat)} {f : Nat → Int} {p : Nat} (h2 : Two as) (h2' : Two bs) (hs : SameW as bs) (hl : NoLoop as) (hg : Gives as p) (h : Fit (exch as p) bs f) : Fit as bs (fun x => if x = p then f x + 1 else f x) := fun i x y o e h4 => by
  have hne : x ≠ y := fun z => hl x (z ▸ List.mem_of_getElem? (z ▸ e))
  have hyp : p ≠ y := fun z => hg x (List.mem_of_getElem? (z ▸ e))
  have ho := hs.at h2' e h4
  have e' : (exch as p)[i]? = some (exF p [x, y]) := by rw [exch_at, e]; rfl
  rw [exF_two] at e'
  show (if x = p then f x + 1 else f x) - (if y = p then f y + 1 else f y) = _
  rw [if_neg (c := y = p) (fun z => hyp z.symm)]
  by_cases hx : p = x
  · subst hx
    rw [if_pos (.inl rfl)] at e'
    have hf := h i y p o e' h4
    rw [if_pos rfl]
    rcases ho with rfl | rfl
    · rw [if_neg (by simp; intro z; exact absurd z.symm hne)] at hf
      rw [if_pos rfl]
      omega
    · rw [if_pos rfl] at hf
      rw [if_neg (by simp; intro z; exact absurd z hne)]
      omega
  · rw [if_neg (by rintro (z | z); exact hx z; exact hyp z)] at e'
    rw [if_neg (fun z => hx z.symm)]
    exact h i x y o e' h4
theorem Fit.refl {as : List (List Nat)} : Fit as as (fun _ => 0) := fun i a b o h1 h2 => by
  rw [h1] at h2
  cases h2
  simp
/-- a row: its counts fit -/
theorem Row.facts {as bs : List (List Nat)} {row : List Nat} (h : Row as row bs) : Two as → Ranked as → Two bs ∧ Ranked bs ∧ SameW as bs ∧ Fit as bs (fun x => (row.count x : Int)) := by
  induction h with
  | nil => exact fun h2 hr => ⟨h2, hr, rfl, Fit.refl⟩
  | @cons as p row bs hp hg h ih =>
    intro h2 hr
    obtain ⟨i1, i2, i3, i4⟩ := ih (exch_two h2) (exch_ranked h2 hr hg)
    have hs : SameW as bs := (exch_pr2 h2).symm.trans i3
    refine ⟨i1, i2, hs, ?_⟩
    have := Fit.back h2 i1 hs hr.noLoop hg i4
    intro i a b o e1 e2
    have := this i a b o e1 e2
    rw [← this]
    have hc : ∀ x, ((p :: row).count x : Int) = if x = p then (row.count x : Int) + 1 else (row.count x : Int) := fun x => by
      rw [List.count_cons]
      by_cases hx : x = p
      · subst hx
        simp
      · rw [if_neg hx, if_neg (by simpa using fun z => hx z.symm)]
        simp
    show ((p :: row).count a : Int) - ((p :: row).count b : Int) = _
    rw [hc, hc]
/-- the places of some arrows; a finite maximum -/
theorem max_on (f : Nat → Int) : ∀ (l : List Nat), l ≠ [] → ∃ x ∈ l, ∀ y ∈ l, f y ≤ f x
  | [], h => absurd rfl h
  | [x], _ => ⟨x, by simp, by simp⟩
  | x :: y :: l, _ => by
    obtain ⟨z, hz, hm⟩ := max_on f (y :: l) (by simp)
    by_cases h : f z ≤ f x
    · refine ⟨x, by simp, fun w hw => ?_⟩
      rcases List.mem_cons.mp hw with rfl | hw
      · exact Int.le_refl _
      · have := hm w hw
        omega
    · refine ⟨z, List.mem_cons_of_mem _ hz, fun w hw => ?_⟩
      rcases List.mem_cons.mp hw with rfl | hw
      · omega
      · exact hm w hw
/-- where numbers fit and some are above 0, a place above 0 gives -/
theorem Fit.giver {as bs : List (List Nat)} {f : Nat → Int} (h2 : Two as) (hr : Ranked as) (hs : SameW as bs) (h : Fit as bs f) {p : Nat} (hp : p ∈ as.flatten) (hf : 0 < f p) : ∃ q ∈ as.flatten, 0 < f q ∧ Gives as q := by
  obtain ⟨r, hr⟩ := hr
  obtain ⟨m, hm, hmax⟩ := max_on f as.flatten (fun e => by rw [e] at hp; cases hp)
  have hne : as.flatten.filter (fun x => f x == f m) ≠ [] := fun e => by
    have : m ∈ as.flatten.filter (fun x => f x == f m) := List.mem_filter.mpr ⟨hm, by simp⟩
    rw [e] at this
    cases this
  obtain ⟨q, hq, hmin⟩ := max_on (fun x => - (r x : Int)) _ hne
  obtain ⟨hq1, hq2⟩ := List.mem_filter.mp hq
  have hq2 : f q = f m := by simpa using hq2
  refine ⟨q, hq1, by have := hmax p hp; omega, fun a ha => ?_⟩
  obtain ⟨i, hi⟩ := List.getElem?_of_mem ha
  have hlt : i < bs.length := by rw [← hs.len]; exact (List.getElem?_eq_some_iff.mp hi).1
  have e1 := h i a q bs[i] hi (List.getElem?_eq_getElem hlt)
  have ha1 : a ∈ as.flatten := List.mem_flatten.mpr ⟨_, ha, by simp⟩
  have e2 := hmax a ha1
  have e3 : f a = f m := by split at e1 <;> omega
  have e4 := hmin a (List.mem_filter.mpr ⟨ha1, by simp [e3]⟩)
  have e5 := hr a q ha
  omega
theorem Fit.zero {as bs : List (List Nat)} {f : Nat → Int} (h2 : Two as) (hs : SameW as bs) (h : Fit as bs f) (h0 : ∀ x ∈ as.flatten, f x = 0) : as = bs := by
  refine List.ext_getElem? fun i => ?_
  cases e : as[i]? with
  | none =>
    have : as.length ≤ i := by simpa using e
    rw [List.getElem?_eq_none (by rw [← hs.len]; exact this)]
  | some l =>
    obtain ⟨a, b, rfl⟩ := h2 l (List.mem_of_getElem? e)
    have hlt : i < bs.length := by rw [← hs.len]; exact (List.getElem?_eq_some_iff.mp e).1
    have e1 := h i a b bs[i] e (List.getElem?_eq_getElem hlt)
    have ha := h0 a (List.mem_flatten.mpr ⟨_, List.mem_of_getElem? e, by simp⟩)
    have hb := h0 b (List.mem_flatten.mpr ⟨_, List.mem_of_getElem? e, by simp⟩)
    rw [List.getElem?_eq_getElem hlt]
    by_cases e2 : [a, b] = bs[i]
    · rw [e2]
    · rw [if_neg e2] at e1
      omega
/-- numbers that fit, from 0 on: a row turns each place so often -/
theorem Fit.row {bs : List (List Nat)} (h2' : Two bs) (pl : List Nat) (hn : pl.Nodup) : ∀ (n : Nat) {as : List (List Nat)} {f : Nat → Int}, Two as → Ranked as → SameW as bs → Fit as bs f → (∀ x, x ∈ pl ↔ x ∈ as.flatten) → (∀ x ∈ pl, 0 ≤ f x) → (pl.map f).sum = (n : Int) →
    ∃ row, Row as row bs ∧ ∀ x ∈ pl, (row.count x : Int) = f x
  | 0, as, f, h2, hr, hs, h, hpl, h0, hsum => by
    have hz : ∀ x ∈ pl, f x = 0 := by
      clear h hpl hn
      induction pl with
      | nil => intro x hx; cases hx
      | cons y ys ih =>
        have h1 := h0 y (by simp)
        have hp : ∀ (l : List Nat), (∀ x ∈ l, 0 ≤ f x) → 0 ≤ (l.map f).sum := fun l => by
          induction l with
          | nil => intro _; simp
          | cons z zs ihz =>
            intro hh
            have := ihz fun x hx => hh x (List.mem_cons_of_mem _ hx)
            have := hh z (by simp)
            simp
            omega
        have h3 := hp ys fun x hx => h0 x (List.mem_cons_of_mem _ hx)
        simp at hsum
        intro x hx
        rcases List.mem_cons.mp hx with rfl | hx
        · omega
        · exact ih (fun x hx => h0 x (List.mem_cons_of_mem _ hx)) (by omega) x hx
    have e := h.zero h2 hs fun x hx => hz x ((hpl x).mpr hx)
    subst e
    exact ⟨[], .nil, fun x hx => by rw [hz x hx]; simp⟩
  | n + 1, as, f, h2, hr, hs, h, hpl, h0, hsum => by
    obtain ⟨p, hp, hpos⟩ : ∃ p ∈ pl, 0 < f p := by
      refine Decidable.byContradiction fun hno => ?_
      have : ∀ (l : List Nat), (∀ x ∈ l, f x ≤ 0) → (l.map f).sum ≤ 0 := fun l => by
        induction l with
        | nil => intro _; simp
        | cons z zs ihz =>
          intro hh
          have := ihz fun x hx => hh x (List.mem_cons_of_mem _ hx)
          have := hh z (by simp)
          simp
          omega
      have := this pl fun x hx => by
        refine Int.not_lt.mp fun hlt => hno ⟨x, hx, hlt⟩
      omega
    obtain ⟨q, hq, hqp, hg⟩ := h.giver h2 hr hs ((hpl p).mp hp) hpos
    have hl := hr.noLoop
    have hq' := (hpl q).mpr hq
    obtain ⟨row, hrow, hc⟩ := Fit.row h2' pl hn n (exch_two h2) (exch_ranked h2 hr hg) ((exch_pr2 h2).trans hs) (h.turn h2 h2' hs hl hg) (fun x => (hpl x).trans mem_exch_flat.symm) (fun x hx => by
      show 0 ≤ if x = q then f x - 1 else f x
      have := h0 x hx
      split
      · rename_i e; subst e; omega
      · exact this) (by
      have : ∀ (l : List Nat), l.Nodup → q ∈ l → (l.map fun x => if x = q then f x - 1 else f x).sum = (l.map f).sum - 1 := fun l => by
        induction l with
        | nil => intro _ h; cases h
        | cons z zs ihz =>
          intro hn' hm
          obtain ⟨n1, n2⟩ := List.nodup_cons.mp hn'
          rw [List.map_cons, List.map_cons, List.sum_cons, List.sum_cons]
          rcases List.mem_cons.mp hm with rfl | hm
          · rw [if_pos rfl]
            have : (zs.map fun x => if x = q then f x - 1 else f x) = zs.map f := List.map_congr_left fun x hx => if_neg fun (e : x = q) => n1 (e ▸ hx)
            rw [this]
            omega
          · rw [if_neg (fun (e : z = q) => n1 (e ▸ hm)), ihz n2 hm]
            omega
      rw [this pl hn hq']
      omega)
    refine ⟨q :: row, .cons hq hg hrow, fun x hx => ?_⟩
    have : (row.count x : Int) = if x = q then f x - 1 else f x := hc x hx
    rw [List.count_cons]
    by_cases e : x = q
    · subst e
      rw [if_pos rfl] at this
      simp
      omega
    · rw [if_neg e] at this
      rw [if_neg (by simpa using fun z => e z.symm)]
      simpa using this
end Pdl
namespace Pdl
abbrev NL := List (Nat × Int)
def keys (fd : NL) : List Nat := fd.map (·.1)
/-- all hangs together, from the first arrow -/
def ConnA (as : List (List Nat)) : Prop := ∀ C : Nat → Prop, C (fst2 (as.head?.getD [])) → (∀ a b, [a, b] ∈ as → (C a ↔ C b)) → ∀ x ∈ as.flatten, C x
end Pdl
namespace Pdl
open PySem L2 PyProof.Rows
theorem mem_pr2 {l : List Nat} (h : ∃ a b, l = [a, b]) {x : Nat} : x ∈ pr2 l ↔ x ∈ l := by
  obtain ⟨a, b, rfl⟩ := h
  show x ∈ (if b < a then [b, a] else [a, b]) ↔ _
  split
  · simp [or_comm]
  · rfl
theorem mem_pr2_flat {as : List (List Nat)} (h : Two as) {x : Nat} : x ∈ (as.map pr2).flatten ↔ x ∈ as.flatten := by
  simp only [List.mem_flatten]
  constructor
  · rintro ⟨l, hl, hx⟩
    obtain ⟨t, ht, rfl⟩ := List.mem_map.mp hl
    exact ⟨t, ht, (mem_pr2 (h t ht)).mp hx⟩
  · rintro ⟨l, hl, hx⟩
    exact ⟨_, List.mem_map_of_mem hl, (mem_pr2 (h l hl)).mpr hx⟩
theorem us_pr2 {as : List (List Nat)} (h : Two as) : us (as.map pr2).flatten = us as.flatten :=
  us_eq (us_sorted _) fun x => (mem_us.trans (mem_pr2_flat h).symm)
theorem Arrs.few {as : List (List Nat)} (h : Arrs as) : (us as.flatten).length ≤ 7 := by rw [← us_pr2 h.two]; exact h.ties.few
theorem Arrs.connA {as : List (List Nat)} (h : Arrs as) : ConnA as := fun C hc hs x hx => by
  refine h.ties.conn C (fun l0 hl0 y hy => ?_) (fun a b hab hor => ?_) x ((mem_pr2_flat h.two).mpr hx)
  · cases as with
    | nil => cases hl0
    | cons l ls =>
      obtain ⟨a, b, rfl⟩ := h.two l List.mem_cons_self
      have e : pr2 [a, b] = l0 := Option.some.inj hl0
      subst e
      have hcb := (hs a b List.mem_cons_self).mp hc
      have z : y = a ∨ y = b := by simpa using (mem_pr2 ⟨a, b, rfl⟩).mp hy
      rcases z with rfl | rfl
      · exact hc
      · exact hcb
  · obtain ⟨t, ht, e⟩ := List.mem_map.mp hab
    obtain ⟨x, y, rfl⟩ := h.two t ht
    have e : (if y < x then [y, x] else [x, y]) = [a, b] := e
    have hh := hs x y ht
    split at e <;> (simp at e; obtain ⟨rfl, rfl⟩ := e; rcases hor with z | z <;> simp_all)
theorem Fit.shift {as bs : List (List Nat)} {f : Nat → Int} {m : Int} (h : Fit as bs f) : Fit as bs (fun p => f p - m) := fun i a b o h1 h2 => by
  have := h i a b o h1 h2
  simp only
  omega
end Pdl
namespace Pdl
open PySem L2 PyProof.Rows
section
variable {X : Cx}
theorem ud_neg {i : Int} : UnD X (unaryOp .USub) (.int i) (.int (-i)) := fun pins s σ H x v Q I rx ⟨m, hm, r, k⟩ => by
  cases r
  exact un_neg pins s σ H _ v Q I rx ⟨i, rfl, k _ H (Sub.refl H) (.int _)⟩
end
end Pdl
namespace Pdl
open PySem L2 PyProof.Rows
def givesB (as : List (List Nat)) (p : Nat) : Bool := !(as.any fun l => decide ([snd2 l] = [p]))
def takesB (as : List (List Nat)) (p : Nat) : Bool := !(as.any fun l => decide ([fst2 l] = [p]))
theorem givesB_iff {as : List (List Nat)} {p : Nat} (h2 : Two as) : givesB as p = true ↔ Gives as p := by
  unfold givesB Gives
  rw [Bool.not_eq_true', List.any_eq_false]
  constructor
  · intro h a ha
    exact h _ ha (by simp [snd2])
  · intro h l hl e
    obtain ⟨a, b, rfl⟩ := h2 l hl
    have : b = p := by simpa [snd2] using e
    subst this
    exact h a hl
theorem takesB_iff {as : List (List Nat)} {p : Nat} (h2 : Two as) : takesB as p = true ↔ Takes as p := by
  unfold takesB Takes
  rw [Bool.not_eq_true', List.any_eq_false]
  constructor
  · intro h a ha
    exact h _ ha (by simp [fst2])
  · intro h l hl e
    obtain ⟨a, b, rfl⟩ := h2 l hl
    have : a = p := by simpa [fst2] using e
    subst this
    exact h b hl
theorem exch_arrs {as : List (List Nat)} {p : Nat} (h : Arrs as) (hr : Ranked (exch as p)) : Arrs (exch as p) := ⟨exch_two h.two, by rw [exch_pr2 h.two]; exact h.ties, hr⟩
theorem turn_arrs {as : List (List Nat)} {p : Nat} (h : Arrs as) (hg : Gives as p) : Arrs (exch as p) := exch_arrs h (exch_ranked h.two h.rk hg)
theorem exch_len (as : List (List Nat)) (p : Nat) : (exch as p).length = as.length := by simp [exch]
def slipR (pl : List Nat) : List (List Nat) → List Nat → Nat → Int
  | _, [], _ => -1
  | as, p :: r, i => if p ∈ pl ∧ givesB as p = true then slipR pl (exch as p) r (i + 1) else (i : Int)
def behindR : List (List Nat) → List Nat → List (List Nat)
  | as, [] => as
  | as, p :: r => behindR (exch as p) r
theorem row_slip {as bs : List (List Nat)} {row : List Nat} (h : Row as row bs) : ∀ {pl : List Nat} {i : Nat}, Two as → (∀ x, x ∈ pl ↔ x ∈ as.flatten) → slipR pl as row i = -1 ∧ behindR as row = bs := by
  induction h with
  | nil => exact fun _ _ => ⟨rfl, rfl⟩
  | @cons as p row bs hp hg h ih =>
    intro pl i h2 hpl
    obtain ⟨i1, i2⟩ := ih (i := i + 1) (exch_two h2) fun x => (hpl x).trans mem_exch_flat.symm
    refine ⟨?_, i2⟩
    unfold slipR
    rw [if_pos ⟨(hpl p).mpr hp, (givesB_iff h2).mpr hg⟩]
    exact i1
theorem Row.arrs {as bs : List (List Nat)} {row : List Nat} (h : Row as row bs) : Arrs as → Arrs bs := by
  induction h with
  | nil => exact fun h => h
  | cons hp hg h ih => exact fun ha => ih (turn_arrs ha hg)
def sChkPlace (Cw : Addr) : PSp := fun ds Q => ∃ ls p, ds = [webD Cw ls, .str (S [p])] ∧ Ties ls ∧ p ∈ ls.flatten ∧ Q .non
def sGives : PSp := fun ds Q => ∃ as p, ds = [.tup (SL as), .str (S [p])] ∧ Two as ∧ as.length ≤ 500 ∧ Q (.bl (givesB as p))
def sTakes : PSp := fun ds Q => ∃ as p, ds = [.tup (SL as), .str (S [p])] ∧ Two as ∧ as.length ≤ 500 ∧ Q (.bl (takesB as p))
def sExch : PSp := fun ds Q => ∃ as p, ds = [.tup (SL as), .str (S [p])] ∧ Two as ∧ as.length ≤ 500 ∧ Q (.tup (SL (exch as p)))
def sSlip : PSp := fun ds Q => ∃ as row, ds = [.tup (SL as), .str (S row)] ∧ Two as ∧ as.length ≤ 500 ∧ row.length ≤ 1000 ∧ Q (.int (slipR (us as.flatten) as row 0))
def sChkRow (Cy : Addr) : PSp := fun ds Q => ∃ as bs row, ds = [wayD Cy as, .str (S row)] ∧ Arrs as ∧ Row as row bs ∧ row.length ≤ 1000 ∧ Q .non
def sBehindR : PSp := fun ds Q => ∃ as row, ds = [.tup (SL as), .str (S row)] ∧ Two as ∧ as.length ≤ 500 ∧ row.length ≤ 1000 ∧ Q (.tup (SL (behindR as row)))
def sBy (Cy : Addr) : PSp := fun ds Q => ∃ as bs row, ds = [wayD Cy as, .str (S row)] ∧ Arrs as ∧ Row as row bs ∧ row.length ≤ 1000 ∧ Q (wayD Cy bs)
end Pdl
namespace Pdl
open PySem L2 PyProof.Rows
theorem Row.snoc {as bs : List (List Nat)} {row : List Nat} {p : Nat} (h : Row as row bs) : p ∈ bs.flatten → Gives bs p → Row as (row ++ [p]) (exch bs p) := by
  induction h with
  | nil => exact fun hp hg => .cons hp hg .nil
  | cons hp hg h ih => exact fun hp' hg' => .cons hp hg (ih hp' hg')
def rot (row : List Nat) (k : Nat) : List Nat := row.drop k ++ row.take k
end Pdl
namespace Pdl
open PySem L2 PyProof.Rows
def valT (kvs : List (List Key × D)) (k : List Key) : Option D := (kvs.find? fun kv => decide (kv.1 = k)).map (·.2)
def putT (kvs : List (List Key × D)) (k : List Key) (v : D) : List (List Key × D) :=
  if (kvs.any fun kv => decide (kv.1 = k)) = true then kvs.map (fun kv => if kv.1 = k then (kv.1, v) else kv) else kvs ++ [(k, v)]
section
variable {K : PySem.W.Frag} {G : Hp}
theorem RpA.keys : ∀ (ks : List Key), RpA K G (ks.map kV) (ks.map kD)
  | [] => .nil
  | .inl i :: ks => .cons (.int i) (RpA.keys ks)
  | .inr z :: ks => .cons (.str z) (RpA.keys ks)
theorem RpT.length : ∀ {vs : List (List Key × V)} {ds : List (List Key × D)}, RpT K G vs ds → vs.length = ds.length
  | _, _, .nil => rfl
  | _, _, .cons _ r => by simp [RpT.length r]
theorem RpT.keys : ∀ {vs : List (List Key × V)} {ds : List (List Key × D)}, RpT K G vs ds → vs.map (·.1) = ds.map (·.1)
  | _, _, .nil => rfl
  | _, _, .cons _ r => by simp [RpT.keys r]
theorem RpT.app : ∀ {vs us : List (List Key × V)} {ds es : List (List Key × D)}, RpT K G vs ds → RpT K G us es → RpT K G (vs ++ us) (ds ++ es)
  | _, _, _, _, .nil, r => r
  | _, _, _, _, .cons h t, r => .cons h (RpT.app t r)
theorem RpT.put {vs : List (List Key × V)} {ds : List (List Key × D)} {kk : List Key} {v : V} {d : D} (r : RpT K G vs ds) (rv : Rp K G v d) : RpT K G (putK vs kk v) (putT ds kk d) := by
  have ea : (vs.any fun kv => decide (kv.1 = kk)) = (ds.any fun kv => decide (kv.1 = kk)) := by
    have h1 : (vs.any fun kv => decide (kv.1 = kk)) = (vs.map (·.1)).any fun z => decide (z = kk) := by rw [List.any_map]; rfl
    have h2 : (ds.any fun kv => decide (kv.1 = kk)) = (ds.map (·.1)).any fun z => decide (z = kk) := by rw [List.any_map]; rfl
    rw [h1, h2, r.keys]
  unfold putK putT
  rw [ea]
  split
  · clear ea
    have go : ∀ {vs : List (List Key × V)} {ds : List (List Key × D)}, RpT K G vs ds → RpT K G (vs.map (fun kv => if kv.1 = kk then (kv.1, v) else kv)) (ds.map (fun kv => if kv.1 = kk then (kv.1, d) else kv)) := by
      intro vs ds r
      induction vs generalizing ds with
      | nil => cases r; exact .nil
      | cons x vs ih =>
        cases r with
        | @cons k0 v0 d0 _ _ h t =>
          rw [List.map_cons, List.map_cons]
          by_cases hk : k0 = kk
          · simp only [hk, if_true]
            exact .cons rv (ih t)
          · simp only [hk, if_false]
            exact .cons h (ih t)
    exact go r
  · exact r.app (.cons rv .nil)
theorem RpT.val {k : List Key} : ∀ {vs : List (List Key × V)} {ds : List (List Key × D)}, RpT K G vs ds →
    (∀ d, valT ds k = some d → ∃ v, valV vs k = some v ∧ Rp K G v d) ∧ (valT ds k = none → valV vs k = none)
  | _, _, .nil => ⟨fun d h => (by cases h), fun _ => rfl⟩
  | _, _, .cons (k := k') h t => by
    obtain ⟨i1, i2⟩ := RpT.val (k := k) t
    by_cases hk : k' = k
    · subst hk
      refine ⟨fun d hd => ?_, fun hd => ?_⟩
      · simp [valT] at hd
        subst hd
        exact ⟨_, valV_pos rfl, h⟩
      · simp [valT] at hd
    · have e1 : ∀ (d0 : D) (ds : List (List Key × D)), valT ((k', d0) :: ds) k = valT ds k := fun d0 ds => by simp [valT, List.find?_cons, hk]
      rw [e1, valV_neg (p := (k', _)) hk]
      exact ⟨i1, i2⟩
end
section
variable {X : Cx} {μ : Md} {Γ : En} {Q : QE} {a b c e e2 o it tg elt : Expr} {es ifs : List Expr} {pos apos cpos tpos p : Pos} {x y d : D} {m : Addr → Bool} {H : Hp} {P : Po} {scope : Scope}
/-- the dict of a value -/
theorem dict_of {G : Hp} {v : V} {kvs : List (List Key × D)} (h : Rp X.K G v (.dcT kvs) ∨ Rp X.K G v (.dcL kvs)) : ∃ a us, v = .ref a ∧ Rd G a (.dT us) ∧ RpT X.K G us kvs := by
  rcases h with h | h
  · cases h with
    | dcT h1 h2 => exact ⟨_, _, rfl, .inl h1, h2⟩
  · cases h with
    | @dcL a o us _ h1 h2 => exact ⟨_, _, rfl, .inr ⟨o, h1⟩, h2⟩
def IsDT (d : D) (kvs : List (List Key × D)) : Prop := d = .dcT kvs ∨ d = .dcL kvs
theorem IsDT.of {G : Hp} {v : V} {d : D} {kvs : List (List Key × D)} (h : IsDT d kvs) (r : Rp X.K G v d) : ∃ a us, v = .ref a ∧ Rd G a (.dT us) ∧ RpT X.K G us kvs := by
  rcases h with rfl | rfl
  · exact dict_of (.inl r)
  · exact dict_of (.inr r)
end
end Pdl
namespace Pdl
open PySem L2 PyProof.Rows
def Reach (as bs : List (List Nat)) : Prop := ∃ row, Row as row bs
theorem Row.app {as bs cs : List (List Nat)} {r1 r2 : List Nat} (h : Row as r1 bs) (h2 : Row bs r2 cs) : Row as (r1 ++ r2) cs := by
  induction h with
  | nil => exact h2
  | cons a b _ ih => exact .cons a b (ih h2)
theorem Reach.trans {as bs cs : List (List Nat)} (h1 : Reach as bs) (h2 : Reach bs cs) : Reach as cs := let ⟨r1, a⟩ := h1; let ⟨r2, b⟩ := h2; ⟨_, a.app b⟩
theorem Reach.refl (as : List (List Nat)) : Reach as as := ⟨[], .nil⟩
theorem min_on (f : Nat → Int) (l : List Nat) (hl : l ≠ []) : ∃ x ∈ l, ∀ y ∈ l, f x ≤ f y := by
  obtain ⟨x, hx, h⟩ := max_on (fun y => - f y) l hl
  exact ⟨x, hx, fun y hy => by have := h y hy; omega⟩
theorem sum_nonneg {f : Nat → Int} : ∀ (l : List Nat), (∀ x ∈ l, 0 ≤ f x) → 0 ≤ (l.map f).sum
  | [], _ => by simp
  | x :: l, h => by
    have h1 := sum_nonneg l fun y hy => h y (List.mem_cons_of_mem _ hy)
    have h2 := h x List.mem_cons_self
    simp
    omega
/-- numbers that fit with the least one 0: a row turns each place so often -/
theorem Fit.least {as bs : List (List Nat)} {f : Nat → Int} (ha : Arrs as) (h : Fit as bs f) : ∃ g : Nat → Int, Fit as bs g ∧ (∀ p ∈ as.flatten, 0 ≤ g p) ∧ ∃ p ∈ as.flatten, g p = 0 := by
  have hne : as.flatten ≠ [] := fun e => by
    obtain ⟨l, hl⟩ := List.exists_mem_of_ne_nil _ ha.ne
    obtain ⟨a, b, rfl⟩ := ha.two l hl
    have : a ∈ as.flatten := List.mem_flatten.mpr ⟨_, hl, by simp⟩
    rw [e] at this
    cases this
  obtain ⟨x, hx, hm⟩ := min_on f _ hne
  exact ⟨fun p => f p - f x, h.shift, fun p hp => by have := hm p hp; show 0 ≤ f p - f x; omega, x, hx, by show f x - f x = 0; omega⟩
theorem fit_row {as bs : List (List Nat)} {f : Nat → Int} (ha : Arrs as) (hb : Two bs) (hs : SameW as bs) (h : Fit as bs f) (h0 : ∀ p ∈ as.flatten, 0 ≤ f p) : ∃ row, Row as row bs ∧ ∀ x ∈ as.flatten, (row.count x : Int) = f x := by
  have h0' : ∀ x ∈ us as.flatten, 0 ≤ f x := fun x hx => h0 x (mem_us.mp hx)
  obtain ⟨row, h1, h2⟩ := Fit.row hb (us as.flatten) ((us_sorted _).imp fun h => Nat.ne_of_lt h) ((us as.flatten).map f).sum.toNat ha.two ha.rk hs h (fun x => mem_us) h0' (by rw [Int.toNat_of_nonneg (sum_nonneg _ h0')])
  exact ⟨row, h1, fun x hx => h2 x (mem_us.mpr hx)⟩
theorem fit_iff {as bs : List (List Nat)} (ha : Arrs as) (hb : Two bs) (hs : SameW as bs) : (∃ f, Fit as bs f) ↔ Reach as bs := by
  constructor
  · rintro ⟨f, h⟩
    obtain ⟨g, h1, h2, _⟩ := h.least ha
    obtain ⟨row, h3, _⟩ := fit_row ha hb hs h1 h2
    exact ⟨row, h3⟩
  · rintro ⟨row, h⟩
    exact ⟨_, (h.facts ha.two ha.rk).2.2.2⟩
def allL : List (List Nat) → List (List (List Nat))
  | [] => [[]]
  | l :: ls => (allL ls).flatMap fun r => [l :: r, l.reverse :: r]
theorem allL_len : ∀ ls, (allL ls).length = 2 ^ ls.length
  | [] => rfl
  | l :: ls => by
    have e : ∀ (rs : List (List (List Nat))), (rs.flatMap fun r => [l :: r, l.reverse :: r]).length = 2 * rs.length := fun rs => by
      induction rs with
      | nil => rfl
      | cons r rs ih => rw [List.flatMap_cons, List.length_append, ih]; simp; omega
    rw [allL, e, allL_len ls, List.length_cons, Nat.pow_succ]
    omega
theorem same_allL : ∀ {as bs : List (List Nat)}, Two as → Two bs → SameW as bs → bs ∈ allL as
  | [], bs, _, _, h => by
    have h : [] = bs.map pr2 := h
    rw [List.map_eq_nil_iff.mp h.symm]
    exact List.mem_singleton.mpr rfl
  | l :: as, [], _, _, h => by
    have h : (l :: as).map pr2 = [] := h
    cases h
  | l :: as, b :: bs, ha, hb, h => by
    have h : (l :: as).map pr2 = (b :: bs).map pr2 := h
    rw [List.map_cons, List.map_cons] at h
    injection h with h1 h2
    have hr := same_allL (fun x hx => ha x (List.mem_cons_of_mem _ hx)) (fun x hx => hb x (List.mem_cons_of_mem _ hx)) h2
    obtain ⟨x, y, rfl⟩ := ha l List.mem_cons_self
    obtain ⟨u, v, rfl⟩ := hb b List.mem_cons_self
    refine List.mem_flatMap.mpr ⟨bs, hr, ?_⟩
    rcases pr2_inv h1 with ⟨rfl, rfl⟩ | ⟨rfl, rfl⟩
    · simp
    · simp
theorem Row.same {as bs : List (List Nat)} {row : List Nat} (ha : Arrs as) (h : Row as row bs) : bs ∈ allL as := by
  obtain ⟨h1, _, h2, _⟩ := h.facts ha.two ha.rk
  exact same_allL ha.two h1 h2
theorem reach_few {as : List (List Nat)} (ha : Arrs as) {l : List (List (List Nat))} (hn : l.Nodup) (h : ∀ b ∈ l, Reach as b) : l.length ≤ 1024 := by
  have h1 := nodup_len hn fun b hb => let ⟨row, hr⟩ := h b hb; hr.same ha
  rw [allL_len] at h1
  exact Nat.le_trans h1 (Nat.pow_le_pow_right (by decide) ha.len)
def heads (as : List (List Nat)) : List Nat := (us as.flatten).filter fun p => !(as.any fun l => decide ([snd2 l] = [p]))
theorem mem_heads {as : List (List Nat)} {p : Nat} (h2 : Two as) : p ∈ heads as ↔ p ∈ as.flatten ∧ Gives as p := by
  unfold heads
  rw [List.mem_filter, mem_us]
  refine and_congr_right fun _ => ?_
  rw [Bool.not_eq_true', List.any_eq_false]
  constructor
  · intro h a hl
    have := h _ hl
    simp [snd2] at this
  · intro h l hl
    obtain ⟨a, b, rfl⟩ := h2 l hl
    simp [snd2]
    rintro rfl
    exact h a hl
theorem heads_sorted (as : List (List Nat)) : (heads as).Pairwise (· < ·) := (us_sorted _).filter _
abbrev LvL := List (List (List Nat) × Nat)
def lvK (fd : LvL) : List (List (List Nat)) := fd.map (·.1)
structure LevOk (as : List (List Nat)) (fd : LvL) : Prop where
  nd : (lvK fd).Nodup
  mem : ∀ b, b ∈ lvK fd ↔ Reach as b
  row : ∀ e ∈ fd, ∃ row, Row as row e.1 ∧ row.length = e.2
  least : ∀ e ∈ fd, ∀ row, Row as row e.1 → e.2 ≤ row.length
structure LevJ (as : List (List Nat)) (fd : LvL) (don : List (List (List Nat))) (k : List (List Nat)) (n : Nat) (fr : List (List (List Nat))) (ps : List Nat) : Prop where
  ks : lvK fd = don ++ k :: fr
  nd : (lvK fd).Nodup
  sat : (as, 0) ∈ fd
  row : ∀ e ∈ fd, ∃ row, Row as row e.1 ∧ row.length = e.2
  mono : (fd.map (·.2)).Pairwise (· ≤ ·)
  kn : (k, n) ∈ fd
  top : ∀ e ∈ fd, e.2 ≤ n + 1
  cl : ∀ e ∈ fd, e.1 ∈ don → ∀ p ∈ e.1.flatten, Gives e.1 p → ∃ m, (exch e.1 p, m) ∈ fd ∧ m ≤ e.2 + 1
  clk : ∀ p ∈ ps, ∃ m, (exch k p, m) ∈ fd ∧ m ≤ n + 1
theorem LevJ.new {as : List (List Nat)} {fd : LvL} {don fr : List (List (List Nat))} {k : List (List Nat)} {n p : Nat} {ps : List Nat} (h : LevJ as fd don k n fr ps) (hp : exch k p ∉ lvK fd) (hk : p ∈ k.flatten) (hg : Gives k p) :
    LevJ as (fd ++ [(exch k p, n + 1)]) don k n (fr ++ [exch k p]) (ps ++ [p]) := by
  have up : ∀ e, e ∈ fd → e ∈ fd ++ [(exch k p, n + 1)] := fun e he => List.mem_append_left _ he
  refine ⟨?_, ?_, up _ h.sat, fun e he => ?_, ?_, up _ h.kn, fun e he => ?_, fun e he hd q hq hgq => ?_, fun q hq => ?_⟩
  · unfold lvK
    rw [List.map_append]
    show lvK fd ++ [exch k p] = _
    rw [h.ks]
    simp
  · unfold lvK
    rw [List.map_append]
    show (lvK fd ++ [exch k p]).Nodup
    rw [List.nodup_append]
    exact ⟨h.nd, by simp, fun a ha b hb => by
      obtain rfl := List.mem_singleton.mp hb
      exact fun e => hp (e ▸ ha)⟩
  · rcases List.mem_append.mp he with he | he
    · exact h.row e he
    · obtain rfl := List.mem_singleton.mp he
      obtain ⟨row, h1, h2⟩ := h.row _ h.kn
      have h2 : row.length = n := h2
      exact ⟨row ++ [p], h1.snoc hk hg, by simp [h2]⟩
  · rw [List.map_append, List.pairwise_append]
    refine ⟨h.mono, by simp, fun a ha b hb => ?_⟩
    obtain ⟨e, he, rfl⟩ := List.mem_map.mp ha
    simp at hb
    subst hb
    exact h.top e he
  · rcases List.mem_append.mp he with he | he
    · exact h.top e he
    · obtain rfl := List.mem_singleton.mp he
      exact Nat.le_refl _
  · rcases List.mem_append.mp he with he | he
    · obtain ⟨m, h1, h2⟩ := h.cl e he hd q hq hgq
      exact ⟨m, up _ h1, h2⟩
    · obtain rfl := List.mem_singleton.mp he
      refine absurd ?_ hp
      rw [h.ks]
      exact List.mem_append_left _ hd
  · rcases List.mem_append.mp hq with hq | hq
    · obtain ⟨m, h1, h2⟩ := h.clk q hq
      exact ⟨m, up _ h1, h2⟩
    · obtain rfl := List.mem_singleton.mp hq
      exact ⟨n + 1, List.mem_append_right _ (by simp), Nat.le_refl _⟩
theorem Fit.symm {as bs : List (List Nat)} {f : Nat → Int} (h2 : Two as) (h2' : Two bs) (hs : SameW as bs) (h : Fit as bs f) : Fit bs as (fun x => - f x) := fun i a b o h3 h4 => by
  obtain ⟨x, y, rfl⟩ := h2 o (List.mem_of_getElem? h4)
  have h5 := h i x y [a, b] h4 h3
  rcases hs.at h2' h4 h3 with e | e
  · injection e with e1 e2
    injection e2 with e2 _
    subst e1 e2
    rw [if_pos rfl] at h5 ⊢
    show - f a - - f b = 0
    omega
  · injection e with e1 e2
    injection e2 with e2 _
    subst e1 e2
    by_cases hab : a = b
    · subst hab
      rw [if_pos rfl] at h5 ⊢
      show - f a - - f a = 0
      omega
    · have e1 : ¬ [b, a] = [a, b] := fun e => by injection e with e1 _; exact hab e1.symm
      have e2 : ¬ [a, b] = [b, a] := fun e => by injection e with e1 _; exact hab e1
      rw [if_neg e1] at h5
      rw [if_neg e2]
      show - f a - - f b = 1
      omega
theorem Reach.symm {as bs : List (List Nat)} (ha : Arrs as) (h : Reach as bs) : Reach bs as := by
  obtain ⟨row, hr⟩ := h
  obtain ⟨h1, h2, h3, h4⟩ := hr.facts ha.two ha.rk
  exact (fit_iff (hr.arrs ha) ha.two h3.symm).mp ⟨_, h4.symm ha.two h1 h3⟩
end Pdl
namespace Pdl
open PySem L2 PyProof.Rows
theorem okL_all : ∀ (ds : List D), okL ds = ds.all okD
  | [] => rfl
  | d :: ds => by rw [okL, okL_all ds]; rfl
theorem shaped_ok {d : D} (h : okD d = true) (hd : dpD d ≤ 64) : SeqAt.shaped (toPy d) = true := by
  obtain ⟨h1, _, _, h2, _⟩ := ok_can d h
  unfold SeqAt.shaped
  rw [h1, h2]
  simpa using hd
end Pdl
namespace Pdl
open PySem L2 PyProof.Rows
def stepQ (F : List (List (List Nat))) (d : List Nat) : List (List (List Nat)) := F.map (fun l => l ++ [d]) ++ F.map (fun l => l ++ [d.reverse])
def lotsQ (ls : List (List Nat)) : List (List (List Nat)) := ls.foldl stepQ [[]]
theorem mem_fold : ∀ (ls : List (List Nat)) (F : List (List (List Nat))) (b : List (List Nat)), b ∈ ls.foldl stepQ F ↔ ∃ f ∈ F, ∃ c ∈ allL ls, b = f ++ c
  | [], F, b => by
    constructor
    · intro h
      exact ⟨b, h, [], List.mem_singleton.mpr rfl, by simp⟩
    · rintro ⟨f, hf, c, hc, rfl⟩
      obtain rfl := List.mem_singleton.mp hc
      simpa using hf
  | d :: ls, F, b => by
    rw [List.foldl_cons, mem_fold ls (stepQ F d) b]
    constructor
    · rintro ⟨f, hf, c, hc, rfl⟩
      rcases List.mem_append.mp hf with hf | hf
      · obtain ⟨g, hg, rfl⟩ := List.mem_map.mp hf
        exact ⟨g, hg, d :: c, List.mem_flatMap.mpr ⟨c, hc, by simp⟩, by simp⟩
      · obtain ⟨g, hg, rfl⟩ := List.mem_map.mp hf
        exact ⟨g, hg, d.reverse :: c, List.mem_flatMap.mpr ⟨c, hc, by simp⟩, by simp⟩
    · rintro ⟨f, hf, c, hc, rfl⟩
      obtain ⟨r, hr, hc⟩ := List.mem_flatMap.mp hc
      rcases List.mem_cons.mp hc with rfl | hc
      · exact ⟨f ++ [d], List.mem_append_left _ (List.mem_map_of_mem hf), r, hr, by simp⟩
      · obtain rfl := List.mem_singleton.mp hc
        exact ⟨f ++ [d.reverse], List.mem_append_right _ (List.mem_map_of_mem hf), r, hr, by simp⟩
theorem mem_lotsQ {ls b : List (List Nat)} : b ∈ lotsQ ls ↔ b ∈ allL ls := by
  unfold lotsQ
  rw [mem_fold]
  simp
theorem fold_len : ∀ (ls : List (List Nat)) (F : List (List (List Nat))), (ls.foldl stepQ F).length = F.length * 2 ^ ls.length
  | [], F => by simp
  | d :: ls, F => by
    rw [List.foldl_cons, fold_len ls]
    unfold stepQ
    simp only [List.length_append, List.length_map, List.length_cons, Nat.pow_succ]
    rw [← Nat.two_mul, Nat.mul_comm 2 F.length, Nat.mul_assoc, Nat.mul_comm 2]
theorem lotsQ_len (ls : List (List Nat)) : (lotsQ ls).length = 2 ^ ls.length := by
  unfold lotsQ
  rw [fold_len]
  simp
theorem allL_two : ∀ {ls b : List (List Nat)}, Two ls → b ∈ allL ls → Two b ∧ SameW ls b
  | [], b, _, h => by
    obtain rfl := List.mem_singleton.mp h
    exact ⟨fun l hl => (by cases hl), rfl⟩
  | d :: ls, b, h2, h => by
    obtain ⟨r, hr, hb⟩ := List.mem_flatMap.mp h
    obtain ⟨t1, t2⟩ := allL_two (fun x hx => h2 x (List.mem_cons_of_mem _ hx)) hr
    obtain ⟨x, y, rfl⟩ := h2 d List.mem_cons_self
    rcases List.mem_cons.mp hb with rfl | hb
    · refine ⟨fun l hl => ?_, ?_⟩
      · rcases List.mem_cons.mp hl with rfl | hl
        · exact ⟨x, y, rfl⟩
        · exact t1 l hl
      · show (_ :: ls.map pr2) = _ :: r.map pr2
        rw [show ls.map pr2 = r.map pr2 from t2]
    · obtain rfl := List.mem_singleton.mp hb
      refine ⟨fun l hl => ?_, ?_⟩
      · rcases List.mem_cons.mp hl with rfl | hl
        · exact ⟨y, x, rfl⟩
        · exact t1 l hl
      · show (pr2 [x, y] :: ls.map pr2) = pr2 [y, x] :: r.map pr2
        rw [show ls.map pr2 = r.map pr2 from t2, pr2_comm]
/-- all ways of ties, ascending -/
def flows (ls : List (List Nat)) : List (List (List Nat)) := srtE tS ((lotsQ ls).filter rkB)
theorem Ties.pr2s {ls : List (List Nat)} (h : Ties ls) : ls.map pr2 = ls := by
  have : ∀ l ∈ ls, pr2 l = l := fun l hl => by
    obtain ⟨a, b, rfl, hlt, _⟩ := h.pr l hl
    unfold pr2
    simp
    omega
  calc ls.map pr2 = ls.map id := List.map_congr_left this
    _ = ls := List.map_id _
theorem mem_flows {ls b : List (List Nat)} (h : Ties ls) : b ∈ flows ls ↔ Arrs b ∧ b.map pr2 = ls := by
  unfold flows
  rw [(srtE_perm _ _).mem_iff, List.mem_filter, mem_lotsQ]
  constructor
  · rintro ⟨h1, h2⟩
    obtain ⟨t1, t2⟩ := allL_two h.two h1
    have e : b.map pr2 = ls := by
      have t2 : ls.map pr2 = b.map pr2 := t2
      rw [← t2, h.pr2s]
    exact ⟨⟨t1, by rw [e]; exact h, (rkB_iff t1).mp h2⟩, e⟩
  · rintro ⟨h1, h2⟩
    refine ⟨same_allL h.two h1.two ?_, rkB_t h1.two h1.rk⟩
    show ls.map pr2 = b.map pr2
    rw [h.pr2s, h2]
theorem flows_ne {ls : List (List Nat)} (h : Ties ls) : flows ls ≠ [] := fun e => by
  have : ls.map (lay (us ls.flatten)) ∈ flows ls := (mem_flows h).mpr ⟨lay_arrs h fun x hx => mem_us.mpr hx, lay_pr2 h⟩
  rw [e] at this
  cases this
theorem flows_len {ls : List (List Nat)} (h : ls.length ≤ 10) : (flows ls).length ≤ 1024 := by
  unfold flows
  rw [(srtE_perm _ _).length_eq]
  refine Nat.le_trans (List.length_filter_le _ _) ?_
  rw [lotsQ_len]
  exact Nat.pow_le_pow_right (by decide) h
theorem alone_eq {as bs : List (List Nat)} {p : Nat} (ha : Arrs as) (h : Reach as bs) (h1 : heads as = [p]) (h2 : heads bs = [p]) : as = bs := by
  obtain ⟨row, hr⟩ := h
  obtain ⟨t1, t2, t3, t4⟩ := hr.facts ha.two ha.rk
  have hb := hr.arrs ha
  have key : ∀ {as bs : List (List Nat)} {f : Nat → Int}, Arrs as → heads as = [p] → SameW as bs → Fit as bs f → ∀ x ∈ as.flatten, f x ≤ f p := fun {as bs f} ha h1 hs hf x hx => by
    refine Int.not_lt.mp fun hlt => ?_
    obtain ⟨q, hq, hq0, hg⟩ := Fit.giver ha.two ha.rk hs (hf.shift (m := f p)) hx (by show 0 < f x - f p; omega)
    have : q ∈ heads as := (mem_heads ha.two).mpr ⟨hq, hg⟩
    rw [h1] at this
    obtain rfl := List.mem_singleton.mp this
    have hq0 : 0 < f q - f q := hq0
    omega
  have k1 := key ha h1 t3 t4
  have k2 := key hb h2 t3.symm (t4.symm ha.two t1 t3)
  have hfl : ∀ x, x ∈ as.flatten → x ∈ bs.flatten := fun x hx => (mem_pr2_flat t1).mp (by rw [← show as.map pr2 = bs.map pr2 from t3]; exact (mem_pr2_flat ha.two).mpr hx)
  refine Fit.zero ha.two t3 (t4.shift (m := (row.count p : Int))) fun x hx => ?_
  have e1 := k1 x hx
  have e2 := k2 x (hfl x hx)
  have e2 : -(row.count x : Int) ≤ -(row.count p : Int) := e2
  show (row.count x : Int) - (row.count p : Int) = 0
  omega
theorem row_in_flat {as bs : List (List Nat)} {row : List Nat} (h : Row as row bs) : ∀ x ∈ row, x ∈ as.flatten := by
  induction h with
  | nil => intro x hx; cases hx
  | cons hp hg h ih =>
    intro x hx
    rcases List.mem_cons.mp hx with rfl | hx
    · exact hp
    · exact mem_exch_flat.mp (ih x hx)
theorem len_of_counts : ∀ (V : List Nat) (row : List Nat), (∀ x ∈ row, x ∈ V) → (∀ x ∈ V, row.count x ≤ 6) → row.length ≤ 6 * V.length
  | [], row, h, _ => by
    cases row with
    | nil => exact Nat.zero_le _
    | cons x r => exact absurd (h x List.mem_cons_self) (by simp)
  | v :: V, row, h, hc => by
    have h1 : row.length = row.count v + (row.filter fun x => !(x == v)).length := by
      rw [List.count_eq_length_filter]
      clear h hc
      induction row with
      | nil => rfl
      | cons x r ih =>
        rw [List.filter_cons, List.filter_cons]
        by_cases hx : (x == v) = true
        · rw [if_pos hx, if_neg (by simp [hx])]
          simp only [List.length_cons]
          omega
        · rw [if_neg hx, if_pos (by simpa using hx)]
          simp only [List.length_cons]
          omega
    have h2 := len_of_counts V (row.filter fun x => !(x == v)) (fun x hx => by
      obtain ⟨hx, hn⟩ := List.mem_filter.mp hx
      rcases List.mem_cons.mp (h x hx) with rfl | hv
      · simp at hn
      · exact hv) (fun x hx => Nat.le_trans (List.Sublist.count_le _ List.filter_sublist) (hc x (List.mem_cons_of_mem _ hx)))
    have h3 := hc v List.mem_cons_self
    rw [List.length_cons]
    omega
theorem alone_bound {as bs : List (List Nat)} {row : List Nat} {p : Nat} (ha : Arrs as) (h : Row as row bs) (hp : p ∈ as.flatten) (hn : p ∉ row) : row.length ≤ 42 := by
  obtain ⟨t1, t2, t3, t4⟩ := h.facts ha.two ha.rk
  have near : ∀ a b, [a, b] ∈ as → row.count a ≤ row.count b + 1 ∧ row.count b ≤ row.count a := fun a b hl => by
    obtain ⟨i, hi⟩ := List.getElem?_of_mem hl
    have hlt : i < bs.length := by rw [← t3.len]; exact (List.getElem?_eq_some_iff.mp hi).1
    have this : (row.count a : Int) - (row.count b : Int) = if [a, b] = bs[i] then 0 else 1 := t4 i a b bs[i] hi (List.getElem?_eq_getElem hlt)
    split at this <;> omega
  have all : ∀ M, (∃ x ∈ as.flatten, row.count x = M) → ∀ v, v ≤ M → ∃ x ∈ as.flatten, row.count x = v := fun M ⟨x, hx, hM⟩ v hv => by
    by_cases h0 : v = 0
    · exact ⟨p, hp, by rw [h0]; exact List.count_eq_zero.mpr hn⟩
    refine Classical.byContradiction fun hno => ?_
    have hno : ∀ y ∈ as.flatten, row.count y ≠ v := fun y hy e => hno ⟨y, hy, e⟩
    have hinv : ∀ a b, [a, b] ∈ as → (row.count a < v ↔ row.count b < v) := fun a b hl => by
      have h1 := near a b hl
      have ha' := hno a (List.mem_flatten.mpr ⟨_, hl, by simp⟩)
      have hb' := hno b (List.mem_flatten.mpr ⟨_, hl, by simp⟩)
      omega
    have hroot := ha.connA (fun y => row.count y < v)
    by_cases hr : row.count (fst2 (as.head?.getD [])) < v
    · have := hroot hr hinv x hx
      have this : row.count x < v := this
      omega
    · have := ha.connA (fun y => ¬ row.count y < v) hr (fun a b hl => not_congr (hinv a b hl)) p hp
      have this : ¬ row.count p < v := this
      rw [List.count_eq_zero.mpr hn] at this
      omega
  have h6 : ∀ x ∈ us as.flatten, row.count x ≤ 6 := fun x hx => by
    have hx := mem_us.mp hx
    have hsub : ∀ v ∈ List.range (row.count x + 1), v ∈ (us as.flatten).map fun y => row.count y := fun v hv => by
      obtain ⟨y, hy, e⟩ := all _ ⟨x, hx, rfl⟩ v (by have := List.mem_range.mp hv; omega)
      exact List.mem_map.mpr ⟨y, mem_us.mpr hy, e⟩
    have := nodup_len List.nodup_range hsub
    rw [List.length_range, List.length_map] at this
    have := ha.few
    omega
  have := len_of_counts (us as.flatten) row (fun x hx => mem_us.mpr (row_in_flat h x hx)) h6
  have := ha.few
  omega
end Pdl
namespace Pdl
open PySem L2 PyProof.Rows
theorem heads_ne {bs : List (List Nat)} (hb : Arrs bs) : heads bs ≠ [] := fun e => by
  obtain ⟨l, hl⟩ := List.exists_mem_of_ne_nil _ hb.ne
  obtain ⟨a, b, rfl⟩ := hb.two l hl
  have ha : a ∈ bs.flatten := List.mem_flatten.mpr ⟨_, hl, by simp⟩
  obtain ⟨q, hq, _, hg⟩ := Fit.giver hb.two hb.rk rfl (Fit.refl.shift (m := -1)) ha (by show (0 : Int) < 0 - -1; omega)
  have : q ∈ heads bs := (mem_heads hb.two).mpr ⟨hq, hg⟩
  rw [e] at this
  cases this
theorem heads_one {bs : List (List Nat)} {p : Nat} (hb : Arrs bs) (h : ∀ x ∈ heads bs, x = p) : heads bs = [p] := by
  have hs := heads_sorted bs
  have hn := heads_ne hb
  generalize heads bs = L at *
  cases L with
  | nil => exact absurd rfl hn
  | cons x L =>
    cases L with
    | nil => rw [h x (by simp)]
    | cons y L =>
      have e1 := h x (by simp)
      have e2 := h y (by simp)
      have := (List.pairwise_cons.mp hs).1 y (by simp)
      omega
theorem SL_snoc (a : List (List Nat)) (d : List Nat) : SL a ++ [.str (S d)] = SL (a ++ [d]) := by simp [SL]
theorem alone_ex {as : List (List Nat)} {p : Nat} (ha : Arrs as) (hp : p ∈ as.flatten) : ∃ b, Reach as b ∧ heads b = [p] := by
  have go : ∀ (n : Nat) (bs : List (List Nat)) (row : List Nat), n + row.length = 43 → Row as row bs → p ∉ row → ∃ b, Reach as b ∧ heads b = [p] := by
    intro n
    induction n with
    | zero =>
      intro bs row hn hr hpn
      have := alone_bound ha hr hp hpn
      omega
    | succ n ih =>
      intro bs row hn hr hpn
      have hb := hr.arrs ha
      by_cases h : ∀ x ∈ heads bs, x = p
      · exact ⟨bs, ⟨row, hr⟩, heads_one hb h⟩
      · obtain ⟨q, hq⟩ := Classical.not_forall.mp h
        obtain ⟨hq1, hqp⟩ := Classical.not_imp.mp hq
        obtain ⟨hq3, hq4⟩ := (mem_heads hb.two).mp hq1
        refine ih (exch bs q) (row ++ [q]) (by simp; omega) (hr.snoc hq3 hq4) fun z => ?_
        rcases List.mem_append.mp z with z | z
        · exact hpn z
        · exact hqp (List.mem_singleton.mp z).symm
  exact go 43 as [] (by simp) .nil (by simp)
section
variable {X : Cx}
theorem eqv_self {d : D} (hok : okD d = true) : PyData.eqv (toPy d) (toPy d) = true := SeqAt.eqv_refl _ (ok_can d hok).1
theorem od_neRefl {d : D} (hu : X.A.units + 64 < cLine) (hok : okD d = true) (hdp : dpD d ≤ 64) : OpD X (compareOp .NotEq) d d (.bl false) := by
  have := od_neD (X := X) hu (ok_py _ hok) (ok_py _ hok) (shaped_ok hok hdp) (shaped_ok hok hdp)
  rw [eqv_self hok] at this
  exact this
theorem od_eqRefl {d : D} (hu : X.A.units + 64 < cLine) (hok : okD d = true) (hdp : dpD d ≤ 64) : OpD X (compareOp .Eq) d d (.bl true) := by
  have := od_eqD (X := X) hu (ok_py _ hok) (ok_py _ hok) (shaped_ok hok hdp) (shaped_ok hok hdp)
  rw [eqv_self hok] at this
  exact this
end
end Pdl
namespace Pdl
open PySem L2 PyProof.Rows
structure LvsOk (as : List (List Nat)) (Ls : List (List (List (List Nat)))) : Prop where
  nd : Ls.flatten.Nodup
  mem : ∀ b, b ∈ Ls.flatten ↔ Reach as b
  ne : ∀ L ∈ Ls, L ≠ []
  row : ∀ i L, Ls[i]? = some L → ∀ b ∈ L, (∃ row, Row as row b ∧ row.length = i) ∧ ∀ row, Row as row b → i ≤ row.length
/-- Ls: the levels so far; later: those of the next one; ps: what of the last level is done -/
structure LvsI (as : List (List Nat)) (Ls : List (List (List (List Nat)))) : Prop where
  nd : Ls.flatten.Nodup
  st : [as] ∈ Ls.head?
  nz : Ls ≠ []
  ne : ∀ i L, Ls[i]? = some L → i + 1 < Ls.length → L ≠ []
  row : ∀ i L, Ls[i]? = some L → ∀ b ∈ L, ∃ row, Row as row b ∧ row.length = i
  cl : ∀ i L, Ls[i]? = some L → i + 1 < Ls.length → ∀ b ∈ L, ∀ p ∈ b.flatten, Gives b p → ∃ j M, j ≤ i + 1 ∧ Ls[j]? = some M ∧ exch b p ∈ M
theorem flat_ge {α : Type} : ∀ (Ls : List (List α)), (∀ i L, Ls[i]? = some L → i + 1 < Ls.length → L ≠ []) → Ls.length ≤ Ls.flatten.length + 1
  | [], _ => Nat.zero_le _
  | [L], _ => by simp
  | L :: M :: Ls, h => by
    have h1 : L ≠ [] := h 0 L rfl (by simp)
    have h2 := flat_ge (M :: Ls) fun i N hi hl => h (i + 1) N (by simpa using hi) (by simpa using hl)
    have h3 := List.length_pos_iff.mpr h1
    rw [List.flatten_cons, List.length_append]
    simp only [List.length_cons] at h2 ⊢
    omega
theorem LvsI.reach {as : List (List Nat)} {Ls : List (List (List (List Nat)))} (h : LvsI as Ls) : ∀ b ∈ Ls.flatten, Reach as b := fun b hb => by
  obtain ⟨L, hL, hb⟩ := List.mem_flatten.mp hb
  obtain ⟨i, hi⟩ := List.getElem?_of_mem hL
  obtain ⟨row, hr, _⟩ := h.row i L hi b hb
  exact ⟨row, hr⟩
theorem LvsI.few {as : List (List Nat)} {Ls : List (List (List (List Nat)))} (ha : Arrs as) (h : LvsI as Ls) : Ls.flatten.length ≤ 1024 ∧ Ls.length ≤ 1025 := by
  have h1 := reach_few ha h.nd h.reach
  have h2 := flat_ge Ls h.ne
  exact ⟨h1, by omega⟩
/-- while a level is gone through -/
structure LvsJ (as : List (List Nat)) (Ls : List (List (List (List Nat)))) (later don : List (List (List Nat))) : Prop where
  nd : (Ls.flatten ++ later).Nodup
  row : ∀ b ∈ later, ∃ row, Row as row b ∧ row.length = Ls.length
  cl : ∀ b ∈ don, ∀ p ∈ b.flatten, Gives b p → exch b p ∈ Ls.flatten ++ later
theorem LvsJ.step {as : List (List Nat)} {Ls : List (List (List (List Nat)))} {later don : List (List (List Nat))} (h : LvsI as Ls) {L : List (List (List Nat))} (hl : Ls.getLast? = some L) {k : List (List Nat)} {p : Nat} (hk : k ∈ L) (hp : p ∈ k.flatten) (hg : Gives k p)
    (hJ : LvsJ as Ls later don) (hn : exch k p ∉ Ls.flatten ++ later) : LvsJ as Ls (later ++ [exch k p]) don := by
  refine ⟨?_, fun b hb => ?_, fun b hb q hq hgq => ?_⟩
  · rw [← List.append_assoc, List.nodup_append]
    exact ⟨hJ.nd, by simp, fun x hx y hy => by
      obtain rfl := List.mem_singleton.mp hy
      exact fun e => hn (e ▸ hx)⟩
  · rcases List.mem_append.mp hb with hb | hb
    · exact hJ.row b hb
    · obtain rfl := List.mem_singleton.mp hb
      have hz := h.nz
      have hlen := List.length_pos_iff.mpr hz
      obtain ⟨row, h1, h2⟩ := h.row (Ls.length - 1) L (by rw [← List.getLast?_eq_getElem?]; exact hl) k hk
      exact ⟨row ++ [p], h1.snoc hp hg, by simp; omega⟩
  · have := hJ.cl b hb q hq hgq
    rw [← List.append_assoc]
    exact List.mem_append_left _ this
/-- the greatest distance -/
structure FarOk (as : List (List Nat)) (n : Nat) : Prop where
  some : ∃ b, (∃ row, Row as row b ∧ row.length = n) ∧ ∀ row, Row as row b → n ≤ row.length
  all : ∀ b, Reach as b → ∃ row, Row as row b ∧ row.length ≤ n
end Pdl
namespace Pdl
open PySem L2 PyProof.Rows
structure LenOk (as bs : List (List Nat)) (n : Nat) : Prop where
  row : ∃ row, Row as row bs ∧ row.length = n
  least : ∀ row, Row as row bs → n ≤ row.length
end Pdl
namespace Pdl
open PySem L2 PyProof.Rows
theorem FarOk.eq {as : List (List Nat)} {fd : LvL} {e : List (List Nat) × Nat} {n : Nat} (h : LevOk as fd) (he : e ∈ fd) (hm : ∀ e' ∈ fd, e'.2 ≤ e.2) (hf : FarOk as n) : n = e.2 := by
  obtain ⟨b, ⟨row, h1, h2⟩, h3⟩ := hf.some
  have hb := (h.mem b).mpr ⟨row, h1⟩
  obtain ⟨e', he', rfl⟩ := List.mem_map.mp hb
  obtain ⟨row', h4, h5⟩ := h.row e' he'
  have h6 := h.least e' he' row h1
  have h7 := h3 row' h4
  have h8 := hm e' he'
  obtain ⟨r1, h9, h10⟩ := hf.all e.1 ((h.mem e.1).mp (List.mem_map_of_mem he))
  have h11 := h.least e he r1 h9
  omega
theorem LenOk.eq {as : List (List Nat)} {fd : LvL} {e : List (List Nat) × Nat} {n : Nat} (h : LevOk as fd) (he : e ∈ fd) (hf : LenOk as e.1 n) : n = e.2 := by
  obtain ⟨row, h1, h2⟩ := hf.row
  obtain ⟨row', h3, h4⟩ := h.row e he
  have := h.least e he row h1
  have := hf.least row' h3
  omega
end Pdl
namespace Pdl
open PySem L2 PyProof.Rows
theorem Row.nil_eq {as bs : List (List Nat)} (h : Row as [] bs) : as = bs := by
  generalize e : ([] : List Nat) = r at h
  cases h with
  | nil => rfl
  | cons => cases e
theorem turn_ne {as : List (List Nat)} {p : Nat} (ha : Arrs as) (hp : p ∈ as.flatten) (hg : Gives as p) : exch as p ≠ as := fun e => by
  obtain ⟨l, hl, hpl⟩ := List.mem_flatten.mp hp
  obtain ⟨a, b, rfl⟩ := ha.two l hl
  have ht := exch_takes ha.two hg
  rw [e] at ht
  rcases List.mem_cons.mp hpl with rfl | h
  · exact ht b hl
  · rw [List.mem_singleton.mp h] at hg
    exact hg a hl
theorem FarOk.pos {as : List (List Nat)} {n : Nat} (ha : Arrs as) (hf : FarOk as n) : 1 ≤ n := by
  obtain ⟨p, hp⟩ := List.exists_mem_of_ne_nil _ (heads_ne ha)
  obtain ⟨h1, h2⟩ := (mem_heads ha.two).mp hp
  obtain ⟨row, hr, hl⟩ := hf.all (exch as p) ⟨[p], .cons h1 h2 .nil⟩
  rcases Nat.eq_zero_or_pos n with rfl | h
  · obtain rfl := List.length_eq_zero_iff.mp (Nat.le_zero.mp hl)
    exact absurd hr.nil_eq.symm (turn_ne ha h1 h2)
  · exact h
theorem short_row {as bs : List (List Nat)} (ha : Arrs as) (h : Reach as bs) : ∃ row, Row as row bs ∧ row.length ≤ 42 := by
  obtain ⟨r0, hr0⟩ := h
  obtain ⟨hb, _, hs, hf⟩ := hr0.facts ha.two ha.rk
  obtain ⟨g, hg, h0, p, hp, hz⟩ := hf.least ha
  obtain ⟨row, hr, hc⟩ := fit_row ha hb hs hg h0
  refine ⟨row, hr, alone_bound ha hr hp fun hm => ?_⟩
  have := hc p hp
  rw [hz] at this
  have := List.count_pos_iff.mpr hm
  omega
theorem FarOk.few {as : List (List Nat)} {n : Nat} (ha : Arrs as) (hf : FarOk as n) : n ≤ 42 := by
  obtain ⟨b, ⟨row, h1, _⟩, h3⟩ := hf.some
  obtain ⟨r, hr, hl⟩ := short_row ha ⟨row, h1⟩
  have := h3 r hr
  omega
theorem LevOk.few {as : List (List Nat)} {fd : LvL} {e : List (List Nat) × Nat} (ha : Arrs as) (h : LevOk as fd) (he : e ∈ fd) : e.2 ≤ 42 := by
  obtain ⟨r, hr, hl⟩ := short_row ha ((h.mem e.1).mp (List.mem_map_of_mem he))
  have := h.least e he r hr
  omega
theorem Reach.step {as bs : List (List Nat)} {p : Nat} (h : Reach as bs) (hp : p ∈ bs.flatten) (hg : Gives bs p) : Reach as (exch bs p) := let ⟨r, hr⟩ := h; ⟨_, hr.snoc hp hg⟩
theorem Reach.arrs {as bs : List (List Nat)} (ha : Arrs as) (h : Reach as bs) : Arrs bs := let ⟨_, hr⟩ := h; hr.arrs ha
end Pdl
namespace Pdl
open PySem L2 PyProof.Rows
def CmD (T : Wd) (C : Addr) (f : Str) (k : Nat) (S : SpD) : Prop :=
  ∃ (mc : Value) (p g : Addr) (fd : FuncData) (ps : List Str), ClX.CRead T.K C mc ∧ ClX.CMet T.K C mc f p g ∧ FnOk T.P T.w T.K T.mg T.base CX0 k g fd ps (spD T.K S) ∧ Binds T.K fd ps []
/-- the class itself stands ahead -/
abbrev Cm (T : Wd) (C : Addr) (f : Str) (k : Nat) (S : PSp) : Prop := CmD T C f k (pS S)
section
variable {X : Cx} {μ : Md} {Γ Γ' : En} {Q : QE} {a b c e o : Expr} {es : List Expr} {pos apos cpos : Pos} {P P' : Po} {st : Stmt} {sts : List Stmt} {m : Addr → Bool} {H : Hp} {K : PySem.W.Frag} {x y d : D}
theorem xe_cmeth {pl : Sem Bool} {k : Nat} {C : Addr} {f : Str} {S : SpD} (M : CmD (wdX X) C f k S) (hr : Room k X.A) (h : XE X μ o Γ fun z Γ1 => z = .ref C ∧ XA X μ (e :: es) Γ1 fun ds Γ2 => Asks μ S Q (.ref C :: ds) Γ2)
    (hst : starEach (e :: es) X.env = (false, eval e X.env) :: starEach es X.env := by rfl) (hpl : (backTo pos (starEach es X.env)).any (·.1) = false := by rfl)
    (ht : eval (.Call (.Attribute o f apos) (e :: es) [] pos) X.env = (do
      let ov ← eval o X.env
      standAt apos.atName
      let (f, first) ← holding [ov] (getMethod ov f pl)
      callWith pos f first (backTo pos (starEach (e :: es) X.env)) (backToKw pos (keywordEach [] X.env))) := by rfl) : XE X μ (.Call (.Attribute o f apos) (e :: es) [] pos) Γ Q := by
  obtain ⟨mc, p, g, fd, ps, cr, cm, F, bd⟩ := M
  refine PE.imp pe_u fun σ H q ⟨R, k⟩ => ⟨_, ClX.pe_cmeth (E := wD X.K μ σ) h cr cm (F.raw bd .nil) hr pass0' pa_u hst hpl ht, R, fun v H1 z Γ1 s1 f1 R1 r1 ⟨hz, hs⟩ => ?_⟩
  subst hz
  cases r1
  refine ⟨rfl, _, hs, R1, fun vs H2 ds Γ2 s2 f2 R2 r2 ha => ?_⟩
  show spD X.K S ((.ref C :: vs) ++ []) H2 q (wD X.K μ σ)
  rw [List.append_nil]
  exact asks_sp R2 (.cons (.ref C) r2) ha fun v H3 d Γ3 s3 f3 R3 r3 hq => k v H3 d Γ3 ((s3.trans s2).trans s1) ((f1.trans f2).trans f3) R3 r3 hq
theorem xe_cm {pl : Sem Bool} {k n : Nat} {C : Addr} {f : Str} {S : PSp} (M : Cm (wdX X) C f k S) (hr : Room n X.A) (hkn : k ≤ n) (h : XE X μ o Γ fun z Γ1 => z = .ref C ∧ XA X μ (e :: es) Γ1 fun ds Γ2 => ∀ Qc : D → Prop, (∀ d, Q d Γ2 → Qc d) → S (.ref C :: ds) Qc)
    (hst : starEach (e :: es) X.env = (false, eval e X.env) :: starEach es X.env := by rfl) (hpl : (backTo pos (starEach es X.env)).any (·.1) = false := by rfl)
    (ht : eval (.Call (.Attribute o f apos) (e :: es) [] pos) X.env = (do
      let ov ← eval o X.env
      standAt apos.atName
      let (f, first) ← holding [ov] (getMethod ov f pl)
      callWith pos f first (backTo pos (starEach (e :: es) X.env)) (backToKw pos (keywordEach [] X.env))) := by rfl) : XE X μ (.Call (.Attribute o f apos) (e :: es) [] pos) Γ Q := by
  refine xe_cmeth M (hr.mono hkn) (h.imp ?_) hst hpl ht
  rintro z Γ1 ⟨h1, h2⟩
  exact ⟨h1, PA.imp h2 fun σ H q ⟨R, k⟩ => ⟨R, fun vs H' ds Γ' s f R' r z => k vs H' ds Γ' s f R' r (asks_p z)⟩⟩
end
end Pdl
namespace Pdl
open PySem L2 PyProof.Rows
def txt (l : List (List Nat)) : List Nat := TL.joinL [32] l
def texts (L : List (List (List Nat))) : List (List Nat) := srt (L.map txt)
theorem srt_same {l m : List (List Nat)} (h : l.Perm m) : srt l = srt m := srt_eq (srt_sorted m) ((srt_perm m).trans h.symm)
theorem texts_same {L M : List (List (List Nat))} (h1 : L.Nodup) (h2 : M.Nodup) (h : ∀ b, b ∈ L ↔ b ∈ M) : texts L = texts M := srt_same (((List.perm_ext_iff_of_nodup h1 h2).mpr h).map _)
theorem spl_txt {as : List (List Nat)} (ha : Arrs as) : TL.spl [32] 0 [] (txt as) = as := TL.spl_join ha.ne fun p hp h => by
  obtain ⟨a, b, rfl, h1, h2, _⟩ := ha.pr p hp
  simp at h
  omega
theorem txt_inj {as bs : List (List Nat)} (ha : Arrs as) (hb : Arrs bs) (h : txt as = txt bs) : as = bs := by rw [← spl_txt ha, h, spl_txt hb]
theorem two_flat : ∀ {ls : List (List Nat)}, Two ls → ls.flatten.length = 2 * ls.length
  | [], _ => rfl
  | l :: ls, h => by
    obtain ⟨a, b, rfl⟩ := h l List.mem_cons_self
    rw [List.flatten_cons, List.length_append, two_flat fun x hx => h x (List.mem_cons_of_mem _ hx)]
    simp
    omega
theorem Arrs.flat {as : List (List Nat)} (ha : Arrs as) : as.flatten.length ≤ 20 := by rw [two_flat ha.two]; have := ha.len; omega
theorem mem_texts {L : List (List (List Nat))} {t : List Nat} : t ∈ texts L ↔ ∃ l ∈ L, txt l = t := by
  unfold texts
  rw [mem_srt, List.mem_map]
/-- just the ways that are like one -/
structure IsCls (as : List (List Nat)) (L : List (List (List Nat))) : Prop where
  nd : L.Nodup
  mem : ∀ b, b ∈ L ↔ Reach as b
theorem IsCls.eq {as : List (List Nat)} {L M : List (List (List Nat))} (h1 : IsCls as L) (h2 : IsCls as M) : texts L = texts M := texts_same h1.nd h2.nd fun b => (h1.mem b).trans (h2.mem b).symm
theorem IsCls.arrs {as : List (List Nat)} {L : List (List (List Nat))} (ha : Arrs as) (h : IsCls as L) : ∀ l ∈ L, Arrs l := fun l hl => ((h.mem l).mp hl).arrs ha
theorem IsCls.few {as : List (List Nat)} {L : List (List (List Nat))} (ha : Arrs as) (h : IsCls as L) : L.length ≤ 1024 := reach_few ha h.nd fun b hb => (h.mem b).mp hb
theorem IsCls.of {as bs : List (List Nat)} {L : List (List (List Nat))} (ha : Arrs as) (h : IsCls as L) (hr : Reach as bs) : IsCls bs L := ⟨h.nd, fun b => (h.mem b).trans ⟨fun z => (hr.symm ha).trans z, fun z => hr.trans z⟩⟩
theorem LevOk.cls {as : List (List Nat)} {fd : LvL} (h : LevOk as fd) : IsCls as (lvK fd) := ⟨h.nd, h.mem⟩
theorem LvsOk.cls {as : List (List Nat)} {Ls : List (List (List (List Nat)))} (h : LvsOk as Ls) : IsCls as Ls.flatten := ⟨h.nd, h.mem⟩
end Pdl
namespace Pdl
open PySem L2 PyProof.Rows
theorem fm_filter {α : Type} (q : α → Bool) (l : List α) : (l.filterMap fun a => if q a = true then some a else none) = l.filter q := by
  rw [← List.filterMap_eq_filter]
  refine congrArg (fun f => List.filterMap f l) (funext fun l => ?_)
  simp only [Option.guard]
theorem fold_nodup : ∀ (ls : List (List Nat)) (F : List (List (List Nat))), (∀ d ∈ ls, d ≠ d.reverse) → F.Nodup → (ls.foldl stepQ F).Nodup
  | [], _, _, h => h
  | d :: ls, F, hd, h => by
    refine fold_nodup ls _ (fun x hx => hd x (List.mem_cons_of_mem _ hx)) ?_
    have inj : ∀ c : List Nat, (F.map fun l => l ++ [c]).Nodup := fun c => List.Pairwise.map _ (fun a b hne e => hne (List.append_cancel_right e)) h
    refine List.nodup_append.mpr ⟨inj d, inj d.reverse, fun a ha b hb e => ?_⟩
    obtain ⟨x, _, rfl⟩ := List.mem_map.mp ha
    obtain ⟨y, _, rfl⟩ := List.mem_map.mp hb
    have := (List.append_inj' e rfl).2
    simp at this
    exact hd d List.mem_cons_self this
theorem flows_nodup {ls : List (List Nat)} (h : Ties ls) : (flows ls).Nodup := by
  refine (srtE_perm tS _).nodup_iff.mpr ((fold_nodup ls [[]] (fun d hd e => ?_) (by simp)).filter _)
  obtain ⟨a, b, rfl, _, _, hab⟩ := h.pr d hd
  simp at e
  omega
def lone (ls : List (List Nat)) (p : Nat) : List (List (List Nat)) := (flows ls).filter fun l => decide (heads l = [p])
theorem mem_lone {ls b : List (List Nat)} {p : Nat} (h : Ties ls) : b ∈ lone ls p ↔ Arrs b ∧ b.map pr2 = ls ∧ heads b = [p] := by
  unfold lone
  rw [List.mem_filter, mem_flows h, decide_eq_true_iff, and_assoc]
theorem lone_nodup {ls : List (List Nat)} {p : Nat} (h : Ties ls) : (lone ls p).Nodup := (flows_nodup h).filter _
theorem lone_len (ls : List (List Nat)) (h : ls.length ≤ 10) (p : Nat) : (lone ls p).length ≤ 1024 := Nat.le_trans (List.length_filter_le _ _) (flows_len h)
theorem Reach.pr2 {as bs : List (List Nat)} (ha : Arrs as) (h : Reach as bs) : as.map Pdl.pr2 = bs.map Pdl.pr2 := let ⟨_, hr⟩ := h; (hr.facts ha.two ha.rk).2.2.1
theorem mem_flat_of {ls b : List (List Nat)} {p : Nat} (hb : Arrs b) (e : b.map pr2 = ls) : p ∈ b.flatten ↔ p ∈ ls.flatten := by rw [← e, mem_pr2_flat hb.two]
theorem lone_like {ls as bs : List (List Nat)} {p : Nat} (h : Ties ls) (ha : as ∈ lone ls p) (hb : bs ∈ lone ls p) : Reach as bs ↔ as = bs := by
  obtain ⟨h1, h2, h3⟩ := (mem_lone h).mp ha
  obtain ⟨g1, g2, g3⟩ := (mem_lone h).mp hb
  exact ⟨fun r => alone_eq h1 r h3 g3, fun e => e ▸ .refl as⟩
theorem lone_arrs {ls : List (List Nat)} {p : Nat} (h : Ties ls) : ∀ l ∈ lone ls p, Arrs l := fun l hl => ((mem_lone h).mp hl).1
theorem flows_arrs {ls : List (List Nat)} (h : Ties ls) : ∀ l ∈ flows ls, Arrs l := fun l hl => ((mem_flows h).mp hl).1
theorem us_ne {ls : List (List Nat)} (h : Ties ls) : ∃ p r, us ls.flatten = p :: r := by
  cases e : us ls.flatten with
  | cons p r => exact ⟨p, r, rfl⟩
  | nil =>
    obtain ⟨l, hl⟩ := List.exists_mem_of_ne_nil _ h.ne
    obtain ⟨a, b, rfl⟩ := h.two l hl
    have : a ∈ us ls.flatten := mem_us.mpr (List.mem_flatten.mpr ⟨_, hl, by simp⟩)
    rw [e] at this
    cases this
end Pdl
namespace Pdl
open PySem L2 PyProof.Rows
open Classical in
noncomputable def clsF (as : List (List Nat)) : List (List (List Nat)) := (flows (as.map pr2)).filter fun b => decide (Reach as b)
open Classical in
theorem clsF_ok {as : List (List Nat)} (ha : Arrs as) : IsCls as (clsF as) := by
  refine ⟨(flows_nodup ha.ties).filter _, fun b => ?_⟩
  unfold clsF
  rw [List.mem_filter, mem_flows ha.ties, decide_eq_true_iff]
  exact ⟨fun h => h.2, fun h => ⟨⟨h.arrs ha, (h.pr2 ha).symm⟩, h⟩⟩
noncomputable def ct (as : List (List Nat)) : List (List Nat) := texts (clsF as)
theorem IsCls.ct {as : List (List Nat)} {L : List (List (List Nat))} (ha : Arrs as) (h : IsCls as L) : texts L = ct as := h.eq (clsF_ok ha)
theorem mem_ct {as : List (List Nat)} {t : List Nat} (ha : Arrs as) : t ∈ ct as ↔ ∃ b, Reach as b ∧ txt b = t := by
  unfold ct
  rw [mem_texts]
  exact ⟨fun ⟨b, h, e⟩ => ⟨b, ((clsF_ok ha).mem b).mp h, e⟩, fun ⟨b, h, e⟩ => ⟨b, ((clsF_ok ha).mem b).mpr h, e⟩⟩
theorem ct_reach {as bs : List (List Nat)} (ha : Arrs as) (h : Reach as bs) : ct as = ct bs := ((clsF_ok ha).of ha h).ct (h.arrs ha)
theorem ct_eq {as bs : List (List Nat)} (ha : Arrs as) (hb : Arrs bs) : ct as = ct bs ↔ Reach as bs := by
  refine ⟨fun e => ?_, ct_reach ha⟩
  have h1 : txt as ∈ ct bs := e ▸ (mem_ct ha).mpr ⟨as, .refl as, rfl⟩
  obtain ⟨c, hc, e2⟩ := (mem_ct hb).mp h1
  obtain rfl := txt_inj (hc.arrs hb) ha e2
  exact hc.symm hb
theorem ct_nodup {as : List (List Nat)} (ha : Arrs as) : (ct as).Nodup := by
  refine (srt_perm _).nodup_iff.mpr (List.pairwise_map.mpr ((clsF_ok ha).nd.imp_of_mem fun {a b} h1 h2 hne e => hne ?_))
  exact txt_inj ((clsF_ok ha).arrs ha a h1) ((clsF_ok ha).arrs ha b h2) e
/-- all classes of ties, each once -/
structure IsClss (ls : List (List Nat)) (C : List (List (List Nat))) : Prop where
  nd : C.Nodup
  mem : ∀ t, t ∈ C ↔ ∃ as ∈ flows ls, t = ct as
theorem IsClss.perm {ls : List (List Nat)} {C D : List (List (List Nat))} (h1 : IsClss ls C) (h2 : IsClss ls D) : C.Perm D := (List.perm_ext_iff_of_nodup h1.nd h2.nd).mpr fun t => (h1.mem t).trans (h2.mem t).symm
theorem IsClss.eq {ls : List (List Nat)} {C D : List (List (List Nat))} (h1 : IsClss ls C) (h2 : IsClss ls D) : srtE tS C = srtE tS D := srtE_same (kinj_tS _) (h1.perm h2)
theorem lone_clss {ls : List (List Nat)} {p : Nat} (h : Ties ls) (hp : p ∈ ls.flatten) : IsClss ls ((lone ls p).map ct) := by
  refine ⟨List.pairwise_map.mpr ((lone_nodup h).imp_of_mem fun {a b} h1 h2 hne e => hne ((lone_like h h1 h2).mp ((ct_eq (lone_arrs h a h1) (lone_arrs h b h2)).mp e))), fun t => ?_⟩
  rw [List.mem_map]
  constructor
  · rintro ⟨a, ha, rfl⟩
    exact ⟨a, (List.mem_filter.mp ha).1, rfl⟩
  · rintro ⟨a, ha, rfl⟩
    obtain ⟨h1, h2⟩ := (mem_flows h).mp ha
    obtain ⟨b, hb, hh⟩ := alone_ex h1 ((mem_flat_of h1 h2).mpr hp)
    exact ⟨b, (mem_lone h).mpr ⟨hb.arrs h1, by rw [← hb.pr2 h1, h2], hh⟩, (ct_reach h1 hb).symm⟩
theorem IsClss.len {ls : List (List Nat)} {C : List (List (List Nat))} {p : Nat} (h : IsClss ls C) (ht : Ties ls) (hp : p ∈ ls.flatten) : C.length = (lone ls p).length := by
  rw [(h.perm (lone_clss ht hp)).length_eq, List.length_map]
theorem IsClss.few {ls : List (List Nat)} {C : List (List (List Nat))} (h : IsClss ls C) (ht : Ties ls) : C.length ≤ 1024 := by
  obtain ⟨p, r, hu⟩ := us_ne ht
  rw [h.len ht (mem_us.mp (by rw [hu]; simp) : p ∈ ls.flatten)]
  exact lone_len ls ht.len p
theorem IsClss.flat {ls : List (List Nat)} {C : List (List (List Nat))} (h : IsClss ls C) (ht : Ties ls) : C.flatten.Perm ((flows ls).map txt) := by
  have hfa := flows_arrs ht
  refine (List.perm_ext_iff_of_nodup ?_ ?_).mpr fun t => ?_
  · refine List.pairwise_flatten.mpr ⟨fun t htc => ?_, ?_⟩
    · obtain ⟨a, ha, rfl⟩ := (h.mem t).mp htc
      exact ct_nodup (hfa a ha)
    · refine h.nd.imp_of_mem fun {s t} hs ht' hne x hx y hy e => hne ?_
      subst e
      obtain ⟨a, ha, rfl⟩ := (h.mem s).mp hs
      obtain ⟨b, hb, rfl⟩ := (h.mem t).mp ht'
      obtain ⟨c, hc, e1⟩ := (mem_ct (hfa a ha)).mp hx
      obtain ⟨d, hd, e2⟩ := (mem_ct (hfa b hb)).mp hy
      obtain rfl := txt_inj (hc.arrs (hfa a ha)) (hd.arrs (hfa b hb)) (e1.trans e2.symm)
      exact (ct_eq (hfa a ha) (hfa b hb)).mpr (hc.trans (hd.symm (hfa b hb)))
  · exact List.pairwise_map.mpr ((flows_nodup ht).imp_of_mem fun {a b} h1 h2 hne e => hne (txt_inj (hfa a h1) (hfa b h2) e))
  · rw [List.mem_flatten, List.mem_map]
    constructor
    · rintro ⟨s, hs, hts⟩
      obtain ⟨a, ha, rfl⟩ := (h.mem s).mp hs
      obtain ⟨c, hc, e1⟩ := (mem_ct (hfa a ha)).mp hts
      obtain ⟨h1, h2⟩ := (mem_flows ht).mp ha
      exact ⟨c, (mem_flows ht).mpr ⟨hc.arrs h1, by rw [← hc.pr2 h1, h2]⟩, e1⟩
    · rintro ⟨a, ha, rfl⟩
      exact ⟨ct a, (h.mem _).mpr ⟨a, ha, rfl⟩, (mem_ct (hfa a ha)).mpr ⟨a, .refl a, rfl⟩⟩
structure ClsI (fl : List (List (List Nat))) (j : Nat) (K F : List (List (List Nat))) : Prop where
  knd : K.Nodup
  kmem : ∀ b, b ∈ K ↔ ∃ as ∈ fl.take j, Reach as b
  fnd : F.Nodup
  fmem : ∀ t, t ∈ F ↔ ∃ as ∈ fl.take j, t = ct as
theorem ClsI.off {fl : List (List (List Nat))} {j : Nat} {K F L : List (List (List Nat))} {a : List (List Nat)} (hfa : ∀ l ∈ fl, Arrs l) (h : ClsI fl j K F) (ha : Arrs a) (hk : a ∉ K) (hL : IsCls a L) : (K ++ L).Nodup := by
  refine List.nodup_append.mpr ⟨h.knd, hL.nd, fun x hx y hy e => ?_⟩
  subst e
  obtain ⟨c, hc, hr⟩ := (h.kmem x).mp hx
  have h2 := (hL.mem x).mp hy
  exact hk ((h.kmem a).mpr ⟨c, hc, hr.trans (h2.symm ha)⟩)
theorem ClsI.new {fl : List (List (List Nat))} {j : Nat} {K F L : List (List (List Nat))} {a : List (List Nat)} (hfa : ∀ l ∈ fl, Arrs l) (h : ClsI fl j K F) (ha : fl[j]? = some a) (hk : a ∉ K) (hL : IsCls a L) : ClsI fl (j + 1) (K ++ L) (F ++ [ct a]) := by
  have et : fl.take (j + 1) = fl.take j ++ [a] := by rw [List.take_add_one, ha]; rfl
  have haa := hfa a (List.mem_of_getElem? ha)
  refine ⟨h.off hfa haa hk hL, fun b => ?_, ?_, fun t => ?_⟩
  · rw [List.mem_append, h.kmem, et, hL.mem]
    constructor
    · rintro (⟨x, hx, z⟩ | z)
      · exact ⟨x, List.mem_append_left _ hx, z⟩
      · exact ⟨a, by simp, z⟩
    · rintro ⟨x, hx, z⟩
      rcases List.mem_append.mp hx with hx | hx
      · exact .inl ⟨x, hx, z⟩
      · obtain rfl := List.mem_singleton.mp hx
        exact .inr z
  · refine List.nodup_append.mpr ⟨h.fnd, by simp, fun x hx y hy e => ?_⟩
    subst e
    have hy := List.mem_singleton.mp hy
    obtain ⟨c, hc, e⟩ := (h.fmem x).mp hx
    refine hk ((h.kmem a).mpr ⟨c, hc, (ct_eq (hfa c (List.mem_of_mem_take hc)) haa).mp (e.symm.trans hy)⟩)
  · rw [List.mem_append, h.fmem, et, List.mem_singleton]
    constructor
    · rintro (⟨x, hx, z⟩ | z)
      · exact ⟨x, List.mem_append_left _ hx, z⟩
      · exact ⟨a, by simp, z⟩
    · rintro ⟨x, hx, z⟩
      rcases List.mem_append.mp hx with hx | hx
      · exact .inl ⟨x, hx, z⟩
      · obtain rfl := List.mem_singleton.mp hx
        exact .inr z
end Pdl
namespace PySem
end PySem
namespace Pdl
open PySem L2 PyProof.Rows
structure HintsOf (as hs : List (List Nat)) : Prop where
  len : hs.length = as.length
  each : ∀ (i : Nat) (a h : List Nat), as[i]? = some a → hs[i]? = some h → h = a ∨ h = a.reverse ∨ h = [63]
theorem pr2_or {l : List Nat} (h : ∃ a b, l = [a, b]) : pr2 l = l ∨ pr2 l = l.reverse := by
  obtain ⟨a, b, rfl⟩ := h
  by_cases h : b < a
  · exact .inr (show (if b < a then [b, a] else [a, b]) = [b, a] by rw [if_pos h])
  · exact .inl (show (if b < a then [b, a] else [a, b]) = [a, b] by rw [if_neg h])
theorem HintsOf.ties {ls as hs : List (List Nat)} (ha : Arrs as) (e : as.map pr2 = ls) (h : HintsOf as hs) : HintsOf ls hs := by
  subst e
  refine ⟨by rw [h.len, List.length_map], fun i t x h1 h2 => ?_⟩
  rw [List.getElem?_map] at h1
  obtain ⟨a, ha1, rfl⟩ := Option.map_eq_some_iff.mp h1
  have h3 := h.each i a x ha1 h2
  rcases pr2_or (ha.two a (List.mem_of_getElem? ha1)) with e | e
  · rw [e]; exact h3
  · rw [e]
    rcases h3 with h3 | h3 | h3
    · exact .inr (.inl (by rw [h3]; simp))
    · exact .inl h3
    · exact .inr (.inr h3)
theorem HintsOf.refl (as : List (List Nat)) : HintsOf as as := ⟨rfl, fun i a h h1 h2 => .inl (by rw [h1] at h2; exact (Option.some.inj h2).symm)⟩
theorem HintsOf.lw {ls hs : List (List Nat)} (ht : Lw ls) (h : HintsOf ls hs) : Lw hs := fun x hx c hc => by
  obtain ⟨i, hi⟩ := List.getElem?_of_mem hx
  have hlt : i < ls.length := by rw [← h.len]; exact (List.getElem?_eq_some_iff.mp hi).1
  rcases h.each i ls[i] x (List.getElem?_eq_getElem hlt) hi with e | e | e
  · exact ht ls[i] (List.getElem_mem hlt) c (e ▸ hc)
  · exact ht ls[i] (List.getElem_mem hlt) c (by rw [e] at hc; simpa using hc)
  · rw [e] at hc
    simp at hc
    omega
end Pdl
namespace Pdl
open PySem L2 PyProof.Rows
theorem Ties.arrs {ls : List (List Nat)} (h : Ties ls) : Arrs ls := ⟨h.two, by rw [h.pr2s]; exact h, fun x => x, fun a b hl => by
  obtain ⟨a', b', e, _, hab, _⟩ := h.pr _ hl
  cases e
  exact hab⟩
end Pdl
namespace Pdl
open PySem L2 PyProof.Rows
def sGives' : PSp := fun ds Q => ∃ as p, ds = [.tup (SL as), .str (S [p])] ∧ Two as ∧ as.length ≤ 500 ∧ Lw as ∧ Q (.bl (givesB as p))
def sJties : PSp := fun ds Q => ∃ n : Nat, ds = [.int (n : Int)] ∧ 2 ≤ n ∧ n ≤ 7 ∧ ∀ l ls, NetOk n l ls → Q (.tup [.tup (SL ls), .str (S l)])
def sJlaid : PSp := fun ds Q => ∃ ls l, ds = [.tup (SL ls), .str (S l)] ∧ Ties ls ∧ us ls.flatten = l ∧ ∀ o : List Nat, o.Perm l → Q (.tup (SL (ls.map (lay o))))
def sWalk : PSp := fun ds Q => ∃ as n, ds = [.tup (SL as), .int ((n : Nat) : Int)] ∧ Arrs as ∧ n ≤ 100 ∧ ∀ row bs, Row as row bs → row.length ≤ n → Q (.tup [.str (S row), .tup (SL bs)])
end Pdl
namespace Pdl
open PySem L2 PyProof.Rows
def Adj (ls : List (List Nat)) (a b : Nat) : Prop := pr2 [a, b] ∈ ls
instance (ls : List (List Nat)) (a b : Nat) : Decidable (Adj ls a b) := inferInstanceAs (Decidable (_ ∈ _))
theorem Adj.symm {ls : List (List Nat)} {a b : Nat} (h : Adj ls a b) : Adj ls b a := by
  unfold Adj at *
  rw [pr2_comm]
  exact h
def hd (r : List Nat) : Nat := r.head?.getD 0
def lst (r : List Nat) : Nat := r.getLast?.getD 0
theorem hd_cons {a : Nat} {t : List Nat} : hd (a :: t) = a := rfl
theorem lst_cons {a b : Nat} {t : List Nat} : lst (a :: b :: t) = lst (b :: t) := by
  unfold lst
  rw [List.getLast?_cons_cons]
theorem lst_snoc {a : Nat} {t : List Nat} : lst (t ++ [a]) = a := by
  unfold lst
  rw [List.getLast?_concat]
  rfl
theorem lst_app {t s : List Nat} (h : s ≠ []) : lst (t ++ s) = lst s := by
  unfold lst
  rw [List.getLast?_append, List.getLast?_eq_some_getLast h]
  rfl
theorem hd_app {t s : List Nat} (h : t ≠ []) : hd (t ++ s) = hd t := by
  cases t with
  | nil => exact absurd rfl h
  | cons a t => rfl
theorem lst_mem {r : List Nat} (h : r ≠ []) : lst r ∈ r := by
  unfold lst
  rw [List.getLast?_eq_some_getLast h]
  exact List.getLast_mem h
/-- neighbours stand side by side -/
def Chn (ls : List (List Nat)) : List Nat → Prop
  | a :: b :: t => Adj ls a b ∧ Chn ls (b :: t)
  | _ => True
theorem Chn.tail {ls : List (List Nat)} {a : Nat} {t : List Nat} (h : Chn ls (a :: t)) : Chn ls t := by
  cases t with
  | nil => trivial
  | cons b t => exact h.2
theorem chn_app {ls : List (List Nat)} : ∀ {s t : List Nat}, s ≠ [] → t ≠ [] → (Chn ls (s ++ t) ↔ Chn ls s ∧ Adj ls (lst s) (hd t) ∧ Chn ls t)
  | [], _, h, _ => absurd rfl h
  | [a], b :: t, _, _ => by
    show (Adj ls a b ∧ Chn ls (b :: t)) ↔ (True ∧ Adj ls a b ∧ Chn ls (b :: t))
    simp
  | a :: b :: s, t, _, ht => by
    have ih := chn_app (ls := ls) (s := b :: s) (t := t) (by simp) ht
    show (Adj ls a b ∧ Chn ls (b :: s ++ t)) ↔ ((Adj ls a b ∧ Chn ls (b :: s)) ∧ Adj ls (lst (a :: b :: s)) (hd t) ∧ Chn ls t)
    rw [lst_cons, ih]
    constructor
    · rintro ⟨h1, h2, h3, h4⟩
      exact ⟨⟨h1, h2⟩, h3, h4⟩
    · rintro ⟨⟨h1, h2⟩, h3, h4⟩
      exact ⟨h1, h2, h3, h4⟩
theorem Chn.mono {ls ms : List (List Nat)} (h : ∀ l ∈ ls, l ∈ ms) : ∀ {p : List Nat}, Chn ls p → Chn ms p
  | [], _ => trivial
  | [_], _ => trivial
  | a :: b :: t, c => ⟨h _ c.1, Chn.mono h (p := b :: t) c.2⟩
/-- a sum along a walk -/
def pth (g : Nat → Nat → Int) : List Nat → Int
  | a :: b :: t => g a b + pth g (b :: t)
  | _ => 0
theorem pth_app (g : Nat → Nat → Int) : ∀ {s t : List Nat}, s ≠ [] → t ≠ [] → pth g (s ++ t) = pth g s + g (lst s) (hd t) + pth g t
  | [], _, h, _ => absurd rfl h
  | [a], b :: t, _, _ => by
    show g a b + pth g (b :: t) = 0 + g a b + pth g (b :: t)
    omega
  | a :: b :: s, t, _, ht => by
    have ih := pth_app g (s := b :: s) (t := t) (by simp) ht
    show g a b + pth g (b :: s ++ t) = g a b + pth g (b :: s) + g (lst (a :: b :: s)) (hd t) + pth g t
    rw [lst_cons, ih]
    omega
/-- a sum round a ring -/
def rnd (g : Nat → Nat → Int) (r : List Nat) : Int := g (lst r) (hd r) + pth g r
theorem rnd_rot (g : Nat → Nat → Int) {s t : List Nat} (hs : s ≠ []) (ht : t ≠ []) : rnd g (s ++ t) = rnd g (t ++ s) := by
  unfold rnd
  rw [pth_app g hs ht, pth_app g ht hs, lst_app ht, lst_app hs, hd_app hs, hd_app ht]
  omega
theorem pth_rev {g : Nat → Nat → Int} {ls : List (List Nat)} (ha : ∀ a b, Adj ls a b → g b a = - g a b) : ∀ {p : List Nat}, Chn ls p → pth g p.reverse = - pth g p
  | [], _ => rfl
  | [_], _ => rfl
  | a :: b :: t, c => by
    have ih := pth_rev ha (p := b :: t) c.2
    have e : (a :: b :: t).reverse = (b :: t).reverse ++ [a] := by simp
    rw [e, pth_app g (by simp) (by simp), ih]
    have e2 : lst (b :: t).reverse = b := by
      rw [List.reverse_cons]
      exact lst_snoc
    rw [e2, hd_cons, ha a b c.1]
    show - pth g (b :: t) + - g a b + 0 = - (g a b + pth g (b :: t))
    omega
theorem lst_rev {p : List Nat} : lst p.reverse = hd p := by
  cases p with
  | nil => rfl
  | cons a t => rw [List.reverse_cons, lst_snoc]; rfl
theorem hd_rev {p : List Nat} : hd p.reverse = lst p := by
  have := lst_rev (p := p.reverse)
  rw [List.reverse_reverse] at this
  exact this.symm
theorem chn_rev {ls : List (List Nat)} : ∀ {p : List Nat}, Chn ls p → Chn ls p.reverse
  | [], _ => trivial
  | [_], _ => trivial
  | a :: b :: t, c => by
    have ih := chn_rev (p := b :: t) c.2
    have e : (a :: b :: t).reverse = (b :: t).reverse ++ [a] := by simp
    rw [e]
    refine (chn_app (by simp) (by simp)).mpr ⟨ih, ?_, trivial⟩
    rw [lst_rev]
    exact c.1.symm
structure Cyc (ls : List (List Nat)) (r : List Nat) : Prop where
  len : 3 ≤ r.length
  nd : r.Nodup
  chn : Chn ls r
  cl : Adj ls (lst r) (hd r)
structure Ring (ls : List (List Nat)) (r : List Nat) : Prop extends Cyc ls r where
  least : ∀ x ∈ r, hd r ≤ x
  turn : ∀ x, r[1]? = some x → x < lst r
theorem Cyc.rot {ls : List (List Nat)} {s t : List Nat} (hs : s ≠ []) (ht : t ≠ []) (h : Cyc ls (s ++ t)) : Cyc ls (t ++ s) where
  len := by have := h.len; simp at *; omega
  nd := (List.perm_append_comm (l₁ := s) (l₂ := t)).nodup_iff.mp h.nd
  chn := by
    obtain ⟨h1, h2, h3⟩ := (chn_app hs ht).mp h.chn
    have := h.cl
    rw [lst_app ht, hd_app hs] at this
    exact (chn_app ht hs).mpr ⟨h3, this, h1⟩
  cl := by
    obtain ⟨h1, h2, h3⟩ := (chn_app hs ht).mp h.chn
    rw [lst_app hs, hd_app ht]
    exact h2
theorem Cyc.rev {ls : List (List Nat)} {r : List Nat} (h : Cyc ls r) : Cyc ls r.reverse where
  len := by rw [List.length_reverse]; exact h.len
  nd := (List.reverse_perm r).nodup_iff.mpr h.nd
  chn := chn_rev h.chn
  cl := by rw [lst_rev, hd_rev]; exact h.cl.symm
theorem rnd_rev {g : Nat → Nat → Int} {ls : List (List Nat)} {r : List Nat} (ha : ∀ a b, Adj ls a b → g b a = - g a b) (h : Cyc ls r) : rnd g r.reverse = - rnd g r := by
  unfold rnd
  rw [pth_rev ha h.chn, lst_rev, hd_rev, ha _ _ h.cl]
  omega
theorem least_at : ∀ (r : List Nat), r ≠ [] → ∃ s m t, r = s ++ m :: t ∧ ∀ x ∈ r, m ≤ x
  | [], h => absurd rfl h
  | [a], _ => ⟨[], a, [], rfl, by simp⟩
  | a :: b :: r, _ => by
    obtain ⟨s, m, t, e, hm⟩ := least_at (b :: r) (by simp)
    by_cases h : a ≤ m
    · exact ⟨[], a, b :: r, rfl, fun x hx => by
        rcases List.mem_cons.mp hx with z | z
        · omega
        · exact Nat.le_trans h (hm x z)⟩
    · exact ⟨a :: s, m, t, by rw [e]; rfl, fun x hx => by
        rcases List.mem_cons.mp hx with z | z
        · omega
        · exact hm x z⟩
/-- each ring has its right form -/
theorem Cyc.form {ls : List (List Nat)} {r : List Nat} (h : Cyc ls r) : ∃ q, Ring ls q ∧ q.Perm r ∧ ∀ g : Nat → Nat → Int, (∀ a b, Adj ls a b → g b a = - g a b) → rnd g q = rnd g r ∨ rnd g q = - rnd g r := by
  have hne : r ≠ [] := fun z => by have := h.len; rw [z] at this; simp at this
  obtain ⟨s, m, t, e, hm⟩ := least_at r hne
  have h1 : Cyc ls (m :: t ++ s) ∧ (∀ g : Nat → Nat → Int, rnd g (m :: t ++ s) = rnd g r) ∧ (m :: t ++ s).Perm r := by
    cases s with
    | nil =>
      rw [List.append_nil]
      rw [List.nil_append] at e
      rw [← e]
      exact ⟨h, fun _ => rfl, .refl _⟩
    | cons a s =>
      rw [e] at h ⊢
      exact ⟨h.rot (by simp) (by simp), fun g => (rnd_rot g (by simp) (by simp)).symm, List.perm_append_comm⟩
  obtain ⟨c1, g1, p1⟩ := h1
  obtain ⟨u, hu⟩ : ∃ u, u = t ++ s := ⟨_, rfl⟩
  rw [List.cons_append, ← hu] at c1 g1 p1
  clear hu
  have hmin : ∀ x ∈ m :: u, m ≤ x := fun x hx => hm x (p1.mem_iff.mp hx)
  have hul : 2 ≤ u.length := by have := c1.len; simp at this; omega
  obtain ⟨b, u', rfl⟩ : ∃ b u', u = b :: u' := by
    cases u with
    | nil => simp at hul
    | cons b u' => exact ⟨b, u', rfl⟩
  have hbl : b ≠ lst (m :: b :: u') := fun z => by
    rw [lst_cons] at z
    have hu' : u' ≠ [] := fun y => by rw [y] at hul; simp at hul
    obtain ⟨c, u2, rfl⟩ : ∃ c u2, u' = c :: u2 := by
      cases u' with
      | nil => exact absurd rfl hu'
      | cons c u2 => exact ⟨c, u2, rfl⟩
    rw [lst_cons] at z
    have := c1.nd
    rw [List.nodup_cons, List.nodup_cons] at this
    exact this.2.1 (by rw [z]; exact lst_mem (by simp))
  by_cases hb : b < lst (m :: b :: u')
  · refine ⟨m :: b :: u', ⟨c1, hmin, fun x hx => ?_⟩, p1, fun g _ => .inl (g1 g)⟩
    have : b = x := by simpa using hx
    rw [← this]
    exact hb
  · -- turned round, behind its first place
    have c2 := c1.rev
    have e2 : (m :: b :: u').reverse = (b :: u').reverse ++ [m] := by rw [List.reverse_cons]
    rw [e2] at c2
    have c3 := c2.rot (by simp) (by simp)
    have p3 : ([m] ++ (b :: u').reverse).Perm (m :: b :: u') := (List.reverse_perm (b :: u')).cons m
    refine ⟨[m] ++ (b :: u').reverse, ⟨c3, fun x hx => hmin x (p3.mem_iff.mp hx), fun x hx => ?_⟩, p3.trans p1, fun g hg => .inr ?_⟩
    · have e3 : lst ([m] ++ (b :: u').reverse) = b := by
        rw [lst_app (by simp), lst_rev]
        rfl
      rw [e3]
      have e4 : ([m] ++ (b :: u').reverse)[1]? = (b :: u').reverse.head? := by
        rw [List.singleton_append, List.getElem?_cons_succ, List.head?_eq_getElem?]
      rw [e4, List.head?_reverse] at hx
      have : lst (m :: b :: u') = x := by
        rw [lst_cons]
        unfold lst
        rw [hx]
        rfl
      omega
    · rw [rnd_rot g (by simp) (by simp), ← e2, rnd_rev hg c1, g1]
inductive RU (E : List (List Nat)) (u : Nat) : Nat → Prop
  | refl : RU E u u
  | step {x y : Nat} : RU E u x → Adj E x y → RU E u y
theorem RU.path {E : List (List Nat)} {u x : Nat} (h : RU E u x) : ∃ p : List Nat, p ≠ [] ∧ p.Nodup ∧ Chn E p ∧ hd p = x ∧ lst p = u := by
  induction h with
  | refl => exact ⟨[u], by simp, by simp, trivial, rfl, rfl⟩
  | @step x y _ hxy ih =>
    obtain ⟨p, h1, h2, h3, h4, h5⟩ := ih
    by_cases hy : y ∈ p
    · obtain ⟨s, t, rfl⟩ := List.append_of_mem hy
      refine ⟨y :: t, by simp, ?_, ?_, rfl, ?_⟩
      · exact (List.nodup_append.mp h2).2.1
      · cases s with
        | nil => exact h3
        | cons a s => exact ((chn_app (by simp) (by simp)).mp h3).2.2
      · rw [lst_app (by simp)] at h5
        exact h5
    · obtain ⟨a, t, rfl⟩ : ∃ a t, p = a :: t := by
        cases p with
        | nil => exact absurd rfl h1
        | cons a t => exact ⟨a, t, rfl⟩
      have h4 : a = x := h4
      subst h4
      exact ⟨y :: a :: t, by simp, List.nodup_cons.mpr ⟨hy, h2⟩, ⟨hxy.symm, h3⟩, rfl, by rw [lst_cons]; exact h5⟩
def Pot (E : List (List Nat)) (g : Nat → Nat → Int) (f : Nat → Int) : Prop := ∀ a b, [a, b] ∈ E → f a - f b = g a b
theorem Pot.adj {E : List (List Nat)} {g : Nat → Nat → Int} {f : Nat → Int} (h : Pot E g f) (hg : ∀ a b, Adj E a b → g b a = - g a b) {a b : Nat} (hab : Adj E a b) : f a - f b = g a b := by
  have hab' := hab
  unfold Adj pr2 at hab
  dsimp only at hab
  split at hab
  · have := h _ _ hab
    rw [hg _ _ hab'] at this
    omega
  · exact h _ _ hab
theorem Pot.pth {E : List (List Nat)} {g : Nat → Nat → Int} {f : Nat → Int} (h : Pot E g f) (hg : ∀ a b, Adj E a b → g b a = - g a b) : ∀ {p : List Nat}, p ≠ [] → Chn E p → Pdl.pth g p = f (hd p) - f (lst p)
  | [], z, _ => absurd rfl z
  | [a], _, _ => by show (0 : Int) = f a - f a; omega
  | a :: b :: t, _, c => by
    have ih := Pot.pth h hg (p := b :: t) (by simp) c.2
    show g a b + Pdl.pth g (b :: t) = f a - f (lst (a :: b :: t))
    rw [ih, lst_cons, hd_cons, ← h.adj hg c.1]
    omega
theorem adj_asc {E : List (List Nat)} (hE : ∀ l ∈ E, ∃ a b, l = [a, b] ∧ a < b) {a b : Nat} (h : [a, b] ∈ E) : Adj E a b := by
  obtain ⟨x, y, e, hxy⟩ := hE _ h
  cases e
  unfold Adj pr2
  dsimp only
  rw [if_neg (by omega)]
  exact h
/-- sums that are 0 round all rings come from numbers of places -/
theorem pot_ex {g : Nat → Nat → Int} : ∀ (E : List (List Nat)), (∀ l ∈ E, ∃ a b, l = [a, b] ∧ a < b) → E.Nodup → (∀ a b, Adj E a b → g b a = - g a b) → (∀ r, Cyc E r → rnd g r = 0) → ∃ f, Pot E g f
  | [], _, _, _, _ => ⟨fun _ => 0, fun a b h => by cases h⟩
  | e :: E, hE, hn, hg, hr => by
    have hsub : ∀ l ∈ E, l ∈ e :: E := fun l hl => List.mem_cons_of_mem _ hl
    obtain ⟨f, hf⟩ := pot_ex E (fun l hl => hE l (hsub l hl)) (List.nodup_cons.mp hn).2 (fun a b h => hg a b (hsub _ h)) fun r c => hr r ⟨c.len, c.nd, c.chn.mono hsub, hsub _ c.cl⟩
    obtain ⟨u, v, rfl, huv⟩ := hE e List.mem_cons_self
    have hguv : g v u = - g u v := hg u v (adj_asc hE List.mem_cons_self)
    have hE' : ∀ l ∈ E, ∃ a b, l = [a, b] ∧ a < b := fun l hl => hE l (hsub l hl)
    by_cases hc : RU E u v
    · -- the new tie closes a ring
      obtain ⟨p, h1, h2, h3, h4, h5⟩ := hc.path
      have hlen : 3 ≤ p.length := by
        match p, h1, h3, h4, h5 with
        | [a], _, _, h4, h5 =>
          have h4 : a = v := h4
          have h5 : a = u := h5
          omega
        | [a, b], _, h3, h4, h5 =>
          have h4 : a = v := h4
          have h5 : b = u := h5
          subst h4 h5
          have h3 : pr2 [a, b] ∈ E := h3.1
          unfold pr2 at h3
          dsimp only at h3
          rw [if_pos huv] at h3
          exact absurd h3 (List.nodup_cons.mp hn).1
        | a :: b :: c :: t, _, _, _, _ => simp
      have cy : Cyc ([u, v] :: E) p := ⟨hlen, h2, h3.mono hsub, by rw [h4, h5]; exact adj_asc hE List.mem_cons_self⟩
      have hz := hr p cy
      unfold rnd at hz
      rw [hf.pth (fun a b h => hg a b (hsub _ h)) h1 h3, h4, h5] at hz
      refine ⟨f, fun a b h => ?_⟩
      rcases List.mem_cons.mp h with z | z
      · cases z
        omega
      · exact hf a b z
    · refine ⟨fun x => open Classical in if RU E u x then f x + (g u v - (f u - f v)) else f x, fun a b h => ?_⟩
      dsimp only
      rcases List.mem_cons.mp h with z | z
      · cases z
        rw [if_pos .refl, if_neg hc]
        omega
      · have hab := adj_asc hE' z
        have hf' := hf a b z
        by_cases ha : RU E u a
        · rw [if_pos ha, if_pos (ha.step hab)]
          omega
        · rw [if_neg ha, if_neg (fun z => ha (z.step hab.symm))]
          exact hf'
end Pdl
namespace Pdl
open PySem PySem.Spec L2 PyProof.Rows
def nearL (ls : List (List Nat)) (p : Nat) : List Nat := (us ls.flatten).filter fun q => decide (Adj ls p q)
def extW (ls : List (List Nat)) (w : List Nat) : List (List Nat) := ((nearL ls (lst w)).filter fun p => decide ([hd w] < [p]) && !decide (p ∈ w)).map fun p => w ++ [p]
def lvW (ls : List (List Nat)) : Nat → List (List Nat)
  | 0 => ch (us ls.flatten)
  | t + 1 => (lvW ls t).flatMap (extW ls)
noncomputable def ringB (ls : List (List Nat)) (r : List Nat) : Bool := @decide (Ring ls r) (Classical.propDecidable _)
theorem ringB_iff {ls : List (List Nat)} {r : List Nat} : ringB ls r = true ↔ Ring ls r := by unfold ringB; exact @decide_eq_true_iff _ (Classical.propDecidable _)
noncomputable def fdW (ls : List (List Nat)) : Nat → List (List Nat)
  | 0 => []
  | t + 1 => fdW ls t ++ (lvW ls t).filter (ringB ls)
noncomputable def rgs (ls : List (List Nat)) : List (List Nat) := srt (fdW ls 8)
theorem Ties.adj_mem {ls : List (List Nat)} (h : Ties ls) {a b : Nat} (hab : Adj ls a b) : a ∈ ls.flatten ∧ b ∈ ls.flatten ∧ a ≠ b := by
  unfold Adj at hab
  obtain ⟨x, y, e, h1, h2, h3⟩ := h.pr _ hab
  unfold pr2 at e
  dsimp only at e
  have hm : ∀ c, c ∈ pr2 [a, b] → c ∈ ls.flatten := fun c hc => List.mem_flatten.mpr ⟨_, hab, hc⟩
  have ha : a ∈ pr2 [a, b] := by unfold pr2; dsimp only; split <;> simp
  have hb : b ∈ pr2 [a, b] := by unfold pr2; dsimp only; split <;> simp
  refine ⟨hm a ha, hm b hb, ?_⟩
  split at e <;> (cases e; omega)
structure IsW (ls : List (List Nat)) (t : Nat) (w : List Nat) : Prop where
  len : w.length = t + 1
  nd : w.Nodup
  sub : ∀ x ∈ w, x ∈ ls.flatten
  chn : Chn ls w
  low : ∀ x ∈ w.tail, hd w < x
theorem mem_nearL {ls : List (List Nat)} (h : Ties ls) {p q : Nat} : q ∈ nearL ls p ↔ Adj ls p q := by
  unfold nearL
  rw [List.mem_filter, mem_us, decide_eq_true_iff]
  exact ⟨fun z => z.2, fun z => ⟨(h.adj_mem z).2.1, z⟩⟩
theorem mem_extW {ls : List (List Nat)} (h : Ties ls) {w v : List Nat} : v ∈ extW ls w ↔ ∃ p, v = w ++ [p] ∧ Adj ls (lst w) p ∧ hd w < p ∧ p ∉ w := by
  unfold extW
  rw [List.mem_map]
  constructor
  · rintro ⟨p, hp, rfl⟩
    obtain ⟨h1, h2⟩ := List.mem_filter.mp hp
    rw [Bool.and_eq_true, decide_eq_true_iff, lt1] at h2
    exact ⟨p, rfl, (mem_nearL h).mp h1, h2.1, by simpa using h2.2⟩
  · rintro ⟨p, rfl, h1, h2, h3⟩
    refine ⟨p, List.mem_filter.mpr ⟨(mem_nearL h).mpr h1, ?_⟩, rfl⟩
    rw [Bool.and_eq_true, decide_eq_true_iff, lt1]
    exact ⟨h2, by simp [h3]⟩
theorem tail_app {a : List Nat} {p : Nat} (h : a ≠ []) : (a ++ [p]).tail = a.tail ++ [p] := by
  cases a with
  | nil => exact absurd rfl h
  | cons x t => rfl
theorem mem_lvW {ls : List (List Nat)} (h : Ties ls) : ∀ (t : Nat) (w : List Nat), w ∈ lvW ls t ↔ IsW ls t w
  | 0, w => by
    show w ∈ ch (us ls.flatten) ↔ _
    unfold ch
    rw [List.mem_map]
    constructor
    · rintro ⟨c, hc, rfl⟩
      exact ⟨rfl, by simp, fun x hx => by rw [List.mem_singleton.mp hx]; exact mem_us.mp hc, trivial, fun x hx => by cases hx⟩
    · intro hw
      obtain ⟨c, rfl⟩ := List.length_eq_one_iff.mp hw.len
      exact ⟨c, mem_us.mpr (hw.sub c (by simp)), rfl⟩
  | t + 1, w => by
    show w ∈ (lvW ls t).flatMap (extW ls) ↔ _
    rw [List.mem_flatMap]
    constructor
    · rintro ⟨v, hv, hw⟩
      obtain ⟨p, rfl, h1, h2, h3⟩ := (mem_extW h).mp hw
      have iv := (mem_lvW h t v).mp hv
      have hne : v ≠ [] := fun z => by have := iv.len; rw [z] at this; simp at this
      refine ⟨by simp [iv.len], ?_, ?_, ?_, ?_⟩
      · rw [List.nodup_append]
        exact ⟨iv.nd, by simp, fun a ha b hb e => h3 (by rw [← List.mem_singleton.mp hb, ← e]; exact ha)⟩
      · intro x hx
        rcases List.mem_append.mp hx with z | z
        · exact iv.sub x z
        · rw [List.mem_singleton.mp z]
          exact (h.adj_mem h1).2.1
      · exact (chn_app hne (by simp)).mpr ⟨iv.chn, h1, trivial⟩
      · rw [tail_app hne, hd_app hne]
        intro x hx
        rcases List.mem_append.mp hx with z | z
        · exact iv.low x z
        · rw [List.mem_singleton.mp z]
          exact h2
    · intro hw
      have hwl := hw.len
      obtain ⟨v, p, rfl⟩ : ∃ v p, w = v ++ [p] := by
        have hne : w ≠ [] := fun z => by rw [z] at hwl; simp at hwl
        exact ⟨w.dropLast, w.getLast hne, (List.dropLast_concat_getLast hne).symm⟩
      have hvl : v.length = t + 1 := by simpa using hwl
      have hne : v ≠ [] := fun z => by rw [z] at hvl; simp at hvl
      obtain ⟨c1, c2, c3⟩ := (chn_app hne (by simp)).mp hw.chn
      have hnd := List.nodup_append.mp hw.nd
      have hlow := hw.low
      rw [tail_app hne, hd_app hne] at hlow
      refine ⟨v, (mem_lvW h t v).mpr ⟨hvl, hnd.1, fun x hx => hw.sub x (List.mem_append_left _ hx), c1, fun x hx => hlow x (List.mem_append_left _ hx)⟩, (mem_extW h).mpr ⟨p, rfl, c2, hlow p (by simp), fun z => hnd.2.2 p z p (by simp) rfl⟩⟩
theorem IsW.few {ls : List (List Nat)} {t : Nat} {w : List Nat} (h : Ties ls) (hw : IsW ls t w) : t + 1 ≤ 7 := by
  have := nodup_len hw.nd (m := us ls.flatten) fun x hx => mem_us.mpr (hw.sub x hx)
  have h2 := h.few
  have h3 := hw.len
  omega
theorem mem_fdW {ls : List (List Nat)} {r : List Nat} : ∀ {n : Nat}, r ∈ fdW ls n ↔ ∃ t, t < n ∧ r ∈ lvW ls t ∧ Ring ls r
  | 0 => by simp [fdW]
  | n + 1 => by
    show r ∈ fdW ls n ++ (lvW ls n).filter (ringB ls) ↔ _
    rw [List.mem_append, mem_fdW, List.mem_filter, ringB_iff]
    constructor
    · rintro (⟨t, h1, h2, h3⟩ | ⟨h1, h2⟩)
      · exact ⟨t, by omega, h2, h3⟩
      · exact ⟨n, by omega, h1, h2⟩
    · rintro ⟨t, h1, h2, h3⟩
      by_cases e : t = n
      · subst e
        exact .inr ⟨h2, h3⟩
      · exact .inl ⟨t, by omega, h2, h3⟩
theorem Ring.isW {ls : List (List Nat)} {r : List Nat} (h : Ties ls) (hr : Ring ls r) : IsW ls (r.length - 1) r where
  len := by have := hr.len; omega
  nd := hr.nd
  sub := fun x hx => by
    -- each place of a ring has one beside it
    obtain ⟨s, t, e⟩ := List.append_of_mem hx
    have hc := hr.chn
    have hl := hr.len
    cases t with
    | nil =>
      cases s with
      | nil => rw [e] at hl; simp at hl
      | cons a s =>
        rw [e] at hc
        exact (h.adj_mem ((chn_app (by simp) (by simp)).mp hc).2.1).2.1
    | cons b t =>
      cases s with
      | nil =>
        rw [e] at hc
        exact (h.adj_mem hc.1).1
      | cons a s =>
        rw [e] at hc
        exact (h.adj_mem ((chn_app (by simp) (by simp)).mp hc).2.1).2.1
  chn := hr.chn
  low := fun x hx => by
    cases r with
    | nil => cases hx
    | cons a t =>
      have h1 := hr.least x (List.mem_cons_of_mem _ hx)
      have h2 := (List.nodup_cons.mp hr.nd).1
      have h3 : x ≠ a := fun e => h2 (by rw [← e]; exact hx)
      rw [hd_cons] at h1 ⊢
      omega
theorem mem_rgs {ls : List (List Nat)} (h : Ties ls) {r : List Nat} : r ∈ rgs ls ↔ Ring ls r := by
  unfold rgs
  rw [mem_srt, mem_fdW]
  constructor
  · rintro ⟨_, _, _, h3⟩
    exact h3
  · intro hr
    have hw := hr.isW h
    have := hw.few h
    exact ⟨r.length - 1, by omega, (mem_lvW h _ _).mpr hw, hr⟩
def xof (as : List (List Nat)) (a b : Nat) : Int := if [a, b] ∈ as then 1 else -1
def tal (as : List (List Nat)) (r : List Nat) : Int := rnd (xof as) r
theorem chn_iff {ls : List (List Nat)} : ∀ (p : List Nat), Chn ls p ↔ ∀ k, k + 1 < p.length → Adj ls (p.getD k 0) (p.getD (k + 1) 0)
  | [] => ⟨fun _ k h => by simp at h, fun _ => trivial⟩
  | [a] => ⟨fun _ k h => by simp at h, fun _ => trivial⟩
  | a :: b :: t => by
    have ih := chn_iff (ls := ls) (b :: t)
    show (Adj ls a b ∧ Chn ls (b :: t)) ↔ _
    rw [ih]
    constructor
    · rintro ⟨h1, h2⟩ k hk
      cases k with
      | zero => exact h1
      | succ k => exact h2 k (by simpa using hk)
    · intro h
      exact ⟨h 0 (by simp), fun k hk => h (k + 1) (by simpa using hk)⟩
theorem IsW.lw {ls : List (List Nat)} {t : Nat} (h : Ties ls) : Lw (lvW ls t) := fun w hw c hc => by
  have := ((mem_lvW h t w).mp hw).sub c hc
  obtain ⟨l, hl, hcl⟩ := List.mem_flatten.mp this
  exact h.lw l hl c hcl
end Pdl
namespace Pdl
open PySem L2 PyProof.Rows
theorem Ring.few {ls : List (List Nat)} {r : List Nat} (h : Ties ls) (hr : Ring ls r) : r.length ≤ 7 := by
  have h1 := (hr.isW h).few h
  have h2 := hr.len
  omega
theorem adj_arrow {as : List (List Nat)} (h2 : Two as) {a b : Nat} (h : Adj (as.map pr2) a b) : [a, b] ∈ as ∨ [b, a] ∈ as := by
  obtain ⟨l, hl, e⟩ := List.mem_map.mp h
  obtain ⟨x, y, rfl⟩ := h2 l hl
  rcases pr2_inv e with ⟨rfl, rfl⟩ | ⟨rfl, rfl⟩
  · exact .inl hl
  · exact .inr hl
theorem pth_hi {as : List (List Nat)} {ρ : Nat → Nat} (hρ : ∀ a b, [a, b] ∈ as → ρ a < ρ b) : ∀ (p : List Nat), p ≠ [] → pth (xof as) p + 1 ≤ p.length ∧ (pth (xof as) p + 1 = p.length → ρ (hd p) ≤ ρ (lst p))
  | [], z => absurd rfl z
  | [a], _ => ⟨by show (0 : Int) + 1 ≤ 1; omega, fun _ => Nat.le_refl _⟩
  | a :: b :: t, _ => by
    obtain ⟨h1, h2⟩ := pth_hi hρ (b :: t) (by simp)
    have e : pth (xof as) (a :: b :: t) = xof as a b + pth (xof as) (b :: t) := rfl
    have hx : xof as a b ≤ 1 := by unfold xof; split <;> omega
    have hl : ((a :: b :: t).length : Int) = (b :: t).length + 1 := by simp
    refine ⟨by rw [e, hl]; omega, fun z => ?_⟩
    rw [e, hl] at z
    have hx1 : xof as a b = 1 := by omega
    have hab : [a, b] ∈ as := by
      unfold xof at hx1
      split at hx1
      · assumption
      · omega
    have h3 := h2 (by omega)
    have h4 := hρ a b hab
    rw [lst_cons, hd_cons]
    rw [hd_cons] at h3
    omega
theorem pth_lo {as : List (List Nat)} (h2 : Two as) {ρ : Nat → Nat} (hρ : ∀ a b, [a, b] ∈ as → ρ a < ρ b) : ∀ (p : List Nat), p ≠ [] → Chn (as.map pr2) p → -(p.length : Int) + 1 ≤ pth (xof as) p ∧ (pth (xof as) p = -(p.length : Int) + 1 → ρ (lst p) ≤ ρ (hd p))
  | [], z, _ => absurd rfl z
  | [a], _, _ => ⟨by show -(1 : Int) + 1 ≤ 0; omega, fun _ => Nat.le_refl _⟩
  | a :: b :: t, _, c => by
    obtain ⟨h1, h3⟩ := pth_lo h2 hρ (b :: t) (by simp) c.2
    have e : pth (xof as) (a :: b :: t) = xof as a b + pth (xof as) (b :: t) := rfl
    have hx : -1 ≤ xof as a b := by unfold xof; split <;> omega
    have hl : ((a :: b :: t).length : Int) = (b :: t).length + 1 := by simp
    refine ⟨by rw [e, hl]; omega, fun z => ?_⟩
    rw [e, hl] at z
    have hx1 : xof as a b = -1 := by omega
    have hab : [a, b] ∉ as := by
      unfold xof at hx1
      split at hx1
      · omega
      · assumption
    have h4 := (adj_arrow h2 c.1).resolve_left hab
    have h5 := hρ b a h4
    have h6 := h3 (by omega)
    rw [lst_cons, hd_cons]
    rw [hd_cons] at h6
    omega
theorem tal_lt {as : List (List Nat)} {r : List Nat} (h2 : Two as) (hr : Ranked as) (hc : Cyc (as.map pr2) r) : -(r.length : Int) < tal as r ∧ tal as r < r.length := by
  obtain ⟨ρ, hρ⟩ := hr
  have hne : r ≠ [] := fun z => by have := hc.len; rw [z] at this; simp at this
  obtain ⟨h1, h3⟩ := pth_hi hρ r hne
  obtain ⟨h4, h5⟩ := pth_lo h2 hρ r hne hc.chn
  unfold tal rnd
  by_cases hx : [lst r, hd r] ∈ as
  · have e : xof as (lst r) (hd r) = 1 := if_pos hx
    have h6 := hρ _ _ hx
    refine ⟨by omega, ?_⟩
    have : pth (xof as) r + 1 ≠ r.length := fun z => by have := h3 z; omega
    omega
  · have e : xof as (lst r) (hd r) = -1 := if_neg hx
    have h6 := hρ _ _ ((adj_arrow h2 hc.cl).resolve_left hx)
    refine ⟨?_, by omega⟩
    have : pth (xof as) r ≠ -(r.length : Int) + 1 := fun z => by have := h5 z; omega
    omega
theorem asc_pairs {ls : List (List Nat)} (h : Ties ls) : ∀ l ∈ ls, ∃ a b, l = [a, b] ∧ a < b := fun l hl => by
  obtain ⟨a, b, e, _, h2, _⟩ := h.pr l hl
  exact ⟨a, b, e, h2⟩
theorem ties_nodup {ls : List (List Nat)} (h : Ties ls) : ls.Nodup := h.asc.imp fun {x y} h e => by rw [e] at h; exact List.lt_irrefl y h
end Pdl
namespace Pdl
open PySem L2 PyProof.Rows
def kT (R : List (List Nat)) (as : List (List Nat)) : List Key := R.map fun r => Sum.inl (tal as r)
structure GrI (R : List (List Nat)) (L K : List (List (List Nat))) : Prop where
  nd : (K.map (kT R)).Nodup
  mem : ∀ x, x ∈ K.map (kT R) ↔ ∃ b ∈ L, kT R b = x
  sub : ∀ k ∈ K, k ∈ L
theorem GrI.len {R : List (List Nat)} {L K : List (List (List Nat))} (h : GrI R L K) : K.length ≤ L.length := by
  have hn : K.Nodup := List.Pairwise.of_map (kT R) (fun _ _ hne e => hne (congrArg _ e)) h.nd
  exact nodup_len hn h.sub
/-- a web without rings has one class -/
theorem GrI.one {ls : List (List Nat)} {K : List (List (List Nat))} (ht : Ties ls) (h : GrI (rgs ls) (flows ls) K) (hr : rgs ls = []) : K.length = 1 := by
  have hk : ∀ x y : List (List Nat), kT (rgs ls) x = kT (rgs ls) y := fun x y => by rw [hr]; rfl
  match K, h with
  | [], h =>
    obtain ⟨a, ha⟩ := List.exists_mem_of_ne_nil _ (flows_ne ht)
    have := (h.mem (kT (rgs ls) a)).mpr ⟨a, ha, rfl⟩
    cases this
  | [k], _ => rfl
  | k :: k2 :: K, h =>
    have := h.nd
    rw [List.map_cons, List.map_cons, List.nodup_cons] at this
    exact absurd (List.mem_cons.mpr (.inl (hk k k2))) this.1
end Pdl
namespace Pdl
open PySem L2 PyProof.Rows
def DCh (L : List (List Nat)) : List Nat → Prop
  | a :: b :: t => [a, b] ∈ L ∧ DCh L (b :: t)
  | _ => True
theorem DCh.mono {L M : List (List Nat)} (h : ∀ l ∈ L, l ∈ M) : ∀ {p : List Nat}, DCh L p → DCh M p
  | [], _ => trivial
  | [_], _ => trivial
  | _ :: b :: t, c => ⟨h _ c.1, DCh.mono h (p := b :: t) c.2⟩
theorem DCh.sub {L : List (List Nat)} : ∀ {p : List Nat}, 2 ≤ p.length → DCh L p → ∀ x ∈ p, x ∈ L.flatten
  | [a, b], _, c, x, hx => List.mem_flatten.mpr ⟨_, c.1, hx⟩
  | a :: b :: d :: t, _, c, x, hx => by
    rcases List.mem_cons.mp hx with z | z
    · rw [z]; exact List.mem_flatten.mpr ⟨_, c.1, by simp⟩
    · exact DCh.sub (p := b :: d :: t) (by simp) c.2 x z
theorem Row.split : ∀ {r1 r2 : List Nat} {as b : List (List Nat)}, Row as (r1 ++ r2) b → ∃ c, Row as r1 c ∧ Row c r2 b
  | [], _, as, _, h => ⟨as, .nil, h⟩
  | p :: r1, r2, as, b, h => by
    cases h with
    | cons hp hg h =>
      obtain ⟨c, h1, h2⟩ := Row.split (r1 := r1) h
      exact ⟨c, .cons hp hg h1, h2⟩
end Pdl
namespace Pdl
open PySem L2 PyProof.Rows
/-- places that stand for their lot: the least ones -/
def IsRep (E : List (List Nat)) (V : List Nat) (v : Nat) : Prop := ∀ w ∈ V, RU E v w → v ≤ w
theorem RU.trans {E : List (List Nat)} {a b c : Nat} (h1 : RU E a b) (h2 : RU E b c) : RU E a c := by
  induction h2 with
  | refl => exact h1
  | step _ hxy ih => exact ih.step hxy
theorem RU.symm {E : List (List Nat)} {a b : Nat} (h : RU E a b) : RU E b a := by
  induction h with
  | refl => exact .refl
  | step _ hxy ih => exact (RU.refl.step hxy.symm).trans ih
theorem RU.mono {E F : List (List Nat)} (h : ∀ l ∈ E, l ∈ F) {a b : Nat} (r : RU E a b) : RU F a b := by
  induction r with
  | refl => exact .refl
  | step _ hxy ih => exact ih.step (h _ hxy)
noncomputable def repB (E : List (List Nat)) (V : List Nat) (v : Nat) : Bool := @decide (IsRep E V v) (Classical.propDecidable _)
theorem repB_iff {E : List (List Nat)} {V : List Nat} {v : Nat} : repB E V v = true ↔ IsRep E V v := by unfold repB; exact @decide_eq_true_iff _ (Classical.propDecidable _)
noncomputable def repsL (E : List (List Nat)) (V : List Nat) : List Nat := V.filter (repB E V)
theorem mem_reps {E : List (List Nat)} {V : List Nat} {v : Nat} : v ∈ repsL E V ↔ v ∈ V ∧ IsRep E V v := by
  unfold repsL
  rw [List.mem_filter, repB_iff]
theorem rep_ex {E : List (List Nat)} {V : List Nat} {a : Nat} (ha : a ∈ V) : ∃ r ∈ V, IsRep E V r ∧ RU E r a := by
  classical
  have hne : V.filter (fun w => decide (RU E a w)) ≠ [] := fun z => by
    have := List.mem_filter (p := fun w => decide (RU E a w)) |>.mpr ⟨ha, decide_eq_true (RU.refl (E := E) (u := a))⟩
    rw [z] at this
    cases this
  obtain ⟨s, m, t, e, hm⟩ := least_at _ hne
  have hmm : m ∈ V.filter fun w => decide (RU E a w) := by rw [e]; simp
  obtain ⟨h1, h2⟩ := List.mem_filter.mp hmm
  have h2 := of_decide_eq_true h2
  refine ⟨m, h1, fun w hw hr => hm w (List.mem_filter.mpr ⟨hw, decide_eq_true (h2.trans hr)⟩), h2.symm⟩
/-- a tie more: who is joined -/
theorem ru_cons {E : List (List Nat)} {u v a b : Nat} (huv : u < v) (h : RU ([u, v] :: E) a b) : RU E a b ∨ (RU E a u ∧ RU E v b) ∨ (RU E a v ∧ RU E u b) := by
  induction h with
  | refl => exact .inl .refl
  | @step x y _ hxy ih =>
    have hadj : Adj E x y ∨ (x = u ∧ y = v) ∨ (x = v ∧ y = u) := by
      unfold Adj at hxy
      rcases List.mem_cons.mp hxy with z | z
      · unfold pr2 at z
        dsimp only at z
        split at z
        · cases z; exact .inr (.inr ⟨rfl, rfl⟩)
        · cases z; exact .inr (.inl ⟨rfl, rfl⟩)
      · exact .inl z
    rcases hadj with z | ⟨rfl, rfl⟩ | ⟨rfl, rfl⟩
    · rcases ih with i | ⟨i, j⟩ | ⟨i, j⟩
      · exact .inl (i.step z)
      · exact .inr (.inl ⟨i, j.step z⟩)
      · exact .inr (.inr ⟨i, j.step z⟩)
    · rcases ih with i | ⟨i, j⟩ | ⟨i, j⟩
      · exact .inr (.inl ⟨i, .refl⟩)
      · exact .inr (.inl ⟨i, .refl⟩)
      · exact .inl i
    · rcases ih with i | ⟨i, j⟩ | ⟨i, j⟩
      · exact .inr (.inr ⟨i, .refl⟩)
      · exact .inl i
      · exact .inr (.inr ⟨i, .refl⟩)
theorem rep_same {E : List (List Nat)} {V : List Nat} {a b : Nat} (ha : a ∈ V) (hb : b ∈ V) (h1 : IsRep E V a) (h2 : IsRep E V b) (h : RU E a b) : a = b := Nat.le_antisymm (h1 b hb h) (h2 a ha h.symm)
/-- a tie that joins makes one lot fewer, another one none -/
theorem reps_cons {E : List (List Nat)} {V : List Nat} {u v : Nat} (hV : V.Nodup) (huv : u < v) (hu : u ∈ V) (hv : v ∈ V) : (RU E u v → (repsL ([u, v] :: E) V).length = (repsL E V).length) ∧ (¬ RU E u v → (repsL ([u, v] :: E) V).length + 1 = (repsL E V).length) := by
  have hsub : ∀ l ∈ E, l ∈ [u, v] :: E := fun l hl => List.mem_cons_of_mem _ hl
  have hadj : Adj ([u, v] :: E) u v := by
    unfold Adj pr2
    dsimp only
    rw [if_neg (by omega)]
    exact List.mem_cons_self
  have hn1 : (repsL ([u, v] :: E) V).Nodup := hV.filter _
  have hn2 : (repsL E V).Nodup := hV.filter _
  constructor
  · intro huv'
    have hsame : ∀ a b, RU ([u, v] :: E) a b ↔ RU E a b := fun a b => ⟨fun h => by
      rcases ru_cons huv h with z | ⟨z1, z2⟩ | ⟨z1, z2⟩
      · exact z
      · exact z1.trans (huv'.trans z2)
      · exact z1.trans (huv'.symm.trans z2), fun h => h.mono hsub⟩
    refine ((List.perm_ext_iff_of_nodup hn1 hn2).mpr fun x => ?_).length_eq
    rw [mem_reps, mem_reps]
    unfold IsRep
    constructor
    · rintro ⟨h1, h2⟩
      exact ⟨h1, fun w hw hr => h2 w hw ((hsame x w).mpr hr)⟩
    · rintro ⟨h1, h2⟩
      exact ⟨h1, fun w hw hr => h2 w hw ((hsame x w).mp hr)⟩
  · intro hno
    obtain ⟨ru, hru, hrr, hra⟩ := rep_ex (E := E) hu
    obtain ⟨rv, hrv, hvr, hva⟩ := rep_ex (E := E) hv
    have hne : ru ≠ rv := fun e => hno (hra.symm.trans (by rw [e]; exact hva))
    -- the greater one of both stands for itself no more
    obtain ⟨lo, hi, hlo, hhi, hlh, hloV, hhiV, hloR, hhiR, hj⟩ : ∃ lo hi, (lo = ru ∨ lo = rv) ∧ (hi = ru ∨ hi = rv) ∧ lo < hi ∧ lo ∈ V ∧ hi ∈ V ∧ IsRep E V lo ∧ IsRep E V hi ∧ RU ([u, v] :: E) hi lo := by
      have hj : RU ([u, v] :: E) ru rv := ((hra.mono hsub).step hadj).trans (hva.symm.mono hsub)
      rcases Nat.lt_or_gt_of_ne hne with z | z
      · exact ⟨ru, rv, .inl rfl, .inr rfl, z, hru, hrv, hrr, hvr, hj.symm⟩
      · exact ⟨rv, ru, .inr rfl, .inl rfl, z, hrv, hru, hvr, hrr, hj⟩
    have key : ∀ x, x ∈ repsL E V ↔ x ∈ hi :: repsL ([u, v] :: E) V := fun x => by
      rw [List.mem_cons, mem_reps, mem_reps]
      constructor
      · rintro ⟨h1, h2⟩
        by_cases hx : x = hi
        · exact .inl hx
        · refine .inr ⟨h1, fun w hw hr => ?_⟩
          -- whoever is joined to x now was so, or x is the lower one
          have hxw : RU E x w ∨ x = lo := by
            rcases ru_cons huv hr with z | ⟨z1, z2⟩ | ⟨z1, z2⟩
            · exact .inl z
            · have : x = ru := rep_same h1 hru h2 hrr (z1.trans hra.symm)
              rcases hlo with e | e
              · exact .inr (this.trans e.symm)
              · rcases hhi with e' | e'
                · exact absurd (this.trans e'.symm) hx
                · rw [e, e'] at hlh; omega
            · have : x = rv := rep_same h1 hrv h2 hvr (z1.trans hva.symm)
              rcases hlo with e | e
              · rcases hhi with e' | e'
                · rw [e, e'] at hlh; omega
                · exact absurd (this.trans e'.symm) hx
              · exact .inr (this.trans e.symm)
          rcases hxw with z | rfl
          · exact h2 w hw z
          · -- w is joined to the lower one or to the higher one
            rcases ru_cons huv hr with z | ⟨z1, z2⟩ | ⟨z1, z2⟩
            · exact h2 w hw z
            · have h3 : rv ≤ w := hvr w hw (hva.trans z2)
              rcases hhi with e' | e'
              · rcases hlo with e | e
                · rw [e, e'] at hlh; omega
                · omega
              · omega
            · have h3 : ru ≤ w := hrr w hw (hra.trans z2)
              rcases hhi with e' | e'
              · omega
              · rcases hlo with e | e
                · omega
                · rw [e, e'] at hlh; omega
      · rintro (rfl | ⟨h1, h2⟩)
        · exact ⟨hhiV, hhiR⟩
        · exact ⟨h1, fun w hw hr => h2 w hw (hr.mono hsub)⟩
    have hhn : hi ∉ repsL ([u, v] :: E) V := fun z => by
      have := (mem_reps.mp z).2 lo hloV hj
      omega
    have := ((List.perm_ext_iff_of_nodup hn2 (List.nodup_cons.mpr ⟨hhn, hn1⟩)).mpr key).length_eq
    rw [List.length_cons] at this
    omega
/-- ties, lots and rings -/
theorem reps_count {V : List Nat} (hV : V.Nodup) : ∀ (E : List (List Nat)), (∀ l ∈ E, ∃ a b, l = [a, b] ∧ a < b ∧ a ∈ V ∧ b ∈ V) → E.Nodup → V.length ≤ E.length + (repsL E V).length ∧ ((∀ r, ¬ Cyc E r) ↔ E.length + (repsL E V).length = V.length)
  | [], _, _ => by
    have : repsL [] V = V := by
      unfold repsL
      refine List.filter_eq_self.mpr fun v hv => repB_iff.mpr fun w hw hr => ?_
      cases hr with
      | refl => exact Nat.le_refl _
      | step _ h => cases h
    rw [this]
    refine ⟨by simp, fun _ => by simp, fun _ r hc => ?_⟩
    have := hc.cl
    cases this
  | e :: E, hE, hn => by
    obtain ⟨ih1, ih2⟩ := reps_count hV E (fun l hl => hE l (List.mem_cons_of_mem _ hl)) (List.nodup_cons.mp hn).2
    obtain ⟨u, v, rfl, huv, hu, hv⟩ := hE e List.mem_cons_self
    have hsub : ∀ l ∈ E, l ∈ [u, v] :: E := fun l hl => List.mem_cons_of_mem _ hl
    have hasc : ∀ l ∈ [u, v] :: E, ∃ a b, l = [a, b] ∧ a < b := fun l hl => let ⟨a, b, e, h, _⟩ := hE l hl; ⟨a, b, e, h⟩
    obtain ⟨k1, k2⟩ := reps_cons (E := E) hV huv hu hv
    by_cases hc : RU E u v
    · have hk := k1 hc
      rw [hk, List.length_cons]
      refine ⟨by omega, fun z => ?_, fun z => by omega⟩
      exfalso
      obtain ⟨p, h1, h2, h3, h4, h5⟩ := hc.path
      refine z p ⟨?_, h2, h3.mono hsub, by rw [h4, h5]; exact adj_asc hasc List.mem_cons_self⟩
      match p, h1, h3, h4, h5 with
      | [a], _, _, h4, h5 =>
        have h4 : a = v := h4
        have h5 : a = u := h5
        omega
      | [a, b], _, h3, h4, h5 =>
        have h4 : a = v := h4
        have h5 : b = u := h5
        subst h4 h5
        have h3 : pr2 [a, b] ∈ E := h3.1
        unfold pr2 at h3
        dsimp only at h3
        rw [if_pos huv] at h3
        exact absurd h3 (List.nodup_cons.mp hn).1
      | a :: b :: c :: t, _, _, _, _ => simp
    · have hk := k2 hc
      rw [List.length_cons]
      refine ⟨by omega, ?_⟩
      rw [show E.length + 1 + (repsL ([u, v] :: E) V).length = V.length ↔ E.length + (repsL E V).length = V.length by omega, ← ih2]
      constructor
      · intro z r hr
        exact z r ⟨hr.len, hr.nd, hr.chn.mono hsub, hsub _ hr.cl⟩
      · intro z r hr
        -- a ring over the new tie would join its ends without it: by the sum of what it goes over it
        have hpot : ∃ f, Pot E (fun a b => if (a = u ∧ b = v) ∨ (a = v ∧ b = u) then 0 else 0) f := ⟨fun _ => 0, fun a b _ => by simp⟩
        classical
        let f : Nat → Int := fun x => if RU E u x then 1 else 0
        have hf : Pot E (fun _ _ => 0) f := fun a b hab => by
          have hadj := adj_asc (fun l hl => hasc l (hsub l hl)) hab
          show (if RU E u a then (1 : Int) else 0) - (if RU E u b then 1 else 0) = 0
          by_cases ha : RU E u a
          · rw [if_pos ha, if_pos (ha.step hadj)]; omega
          · rw [if_neg ha, if_neg (fun y => ha (y.step hadj.symm))]; omega
        -- no ring leaves the lot of u and comes back but over the new tie twice
        have hno : ∀ a b, Adj ([u, v] :: E) a b → (Adj E a b ∨ (a = u ∧ b = v) ∨ (a = v ∧ b = u)) := fun a b hab => by
          unfold Adj at hab
          rcases List.mem_cons.mp hab with y | y
          · unfold pr2 at y
            dsimp only at y
            split at y
            · cases y; exact .inr (.inr ⟨rfl, rfl⟩)
            · cases y; exact .inr (.inl ⟨rfl, rfl⟩)
          · exact .inl y
        obtain ⟨r', hr', hedge⟩ : ∃ r', Cyc ([u, v] :: E) r' ∧ ¬ Adj E (lst r') (hd r') := by
          -- some step of the ring is the new tie: turn the ring so that it closes there
          refine Classical.byContradiction fun hall => ?_
          have hcl : ∀ r', Cyc ([u, v] :: E) r' → Adj E (lst r') (hd r') := fun r' h' => Classical.byContradiction fun y => hall ⟨r', h', y⟩
          have hchn : ∀ s t : List Nat, r = s ++ t → s ≠ [] → t ≠ [] → Adj E (lst s) (hd t) := fun s t e hs htt => by
            have := hcl _ ((show Cyc ([u, v] :: E) (s ++ t) from e ▸ hr).rot hs htt)
            rw [lst_app hs, hd_app htt] at this
            exact this
          refine z r ⟨hr.len, hr.nd, (chn_iff r).mpr fun k hk => ?_, hcl r hr⟩
          have e : r = r.take (k + 1) ++ r.drop (k + 1) := (List.take_append_drop ..).symm
          have h1 : r.take (k + 1) ≠ [] := fun y => by
            have := congrArg List.length y
            rw [List.length_take, List.length_nil] at this
            omega
          have h2 : r.drop (k + 1) ≠ [] := fun y => by
            have := congrArg List.length y
            rw [List.length_drop, List.length_nil] at this
            omega
          have h3 := hchn _ _ e h1 h2
          have e1 : lst (r.take (k + 1)) = r.getD k 0 := by
            unfold lst
            rw [List.getLast?_eq_getElem?, List.length_take, List.getElem?_take, List.getD_eq_getElem?_getD]
            rw [if_pos (by omega), show min (k + 1) r.length - 1 = k by omega]
          have e2 : hd (r.drop (k + 1)) = r.getD (k + 1) 0 := by
            unfold hd
            rw [List.head?_drop, List.getD_eq_getElem?_getD]
          rw [e1, e2] at h3
          exact h3
        -- the rest of it is a walk without the new tie
        have hends := (hno _ _ hr'.cl).resolve_left hedge
        have hwalk : Chn E r' := (chn_iff r').mpr fun k hk => by
          refine (hno _ _ ((chn_iff r').mp hr'.chn k hk)).resolve_right fun y => ?_
          -- the same two places stand at the ends
          have hl := hr'.len
          have i1 : r'[0]? = some (hd r') := by
            unfold hd
            rw [← List.head?_eq_getElem?]
            cases r' with
            | nil => simp at hl
            | cons a t => rfl
          have i2 : r'[r'.length - 1]? = some (lst r') := by
            unfold lst
            rw [List.getLast?_eq_getElem?, List.getElem?_eq_getElem (by omega)]
            rfl
          have j1 : r'[k]? = some (r'.getD k 0) := by rw [List.getD_eq_getElem?_getD, List.getElem?_eq_getElem (by omega)]; rfl
          have j2 : r'[k + 1]? = some (r'.getD (k + 1) 0) := by rw [List.getD_eq_getElem?_getD, List.getElem?_eq_getElem hk]; rfl
          have inj : ∀ i j : Nat, i < r'.length → r'[i]? = r'[j]? → i = j := fun i j hi e => (List.getElem?_inj hi hr'.nd).mp e
          rcases hends with ⟨a1, a2⟩ | ⟨a1, a2⟩ <;> rcases y with ⟨b1, b2⟩ | ⟨b1, b2⟩
          · have q1 := inj k (r'.length - 1) (by omega) (by rw [j1, i2, b1, a1])
            omega
          · have q1 := inj k 0 (by omega) (by rw [j1, i1, b1, a2])
            have q2 := inj (k + 1) (r'.length - 1) hk (by rw [j2, i2, b2, a1])
            omega
          · have q1 := inj k 0 (by omega) (by rw [j1, i1, b1, a2])
            have q2 := inj (k + 1) (r'.length - 1) hk (by rw [j2, i2, b2, a1])
            omega
          · have q1 := inj k (r'.length - 1) (by omega) (by rw [j1, i2, b1, a1])
            omega
        have hne : r' ≠ [] := fun y => by have := hr'.len; rw [y] at this; simp at this
        have hp := hf.pth (fun _ _ _ => by omega) hne hwalk
        have h0 : ∀ p : List Nat, pth (fun _ _ => 0) p = 0 := fun p => by
          induction p with
          | nil => rfl
          | cons a t ih =>
            cases t with
            | nil => rfl
            | cons b t =>
              show 0 + pth (fun _ _ => 0) (b :: t) = 0
              rw [ih]
              rfl
        rw [h0] at hp
        have hu1 : f u = 1 := if_pos .refl
        have hv1 : f v = 0 := if_neg hc
        rcases hends with ⟨a1, a2⟩ | ⟨a1, a2⟩
        · rw [a1, a2, hu1, hv1] at hp; omega
        · rw [a1, a2, hu1, hv1] at hp; omega
theorem Ties.one {ls : List (List Nat)} (h : Ties ls) : (repsL ls (us ls.flatten)).length = 1 := by
  -- all places hang together
  have hall : ∀ a ∈ ls.flatten, ∀ b ∈ ls.flatten, RU ls a b := by
    obtain ⟨l0, L, e⟩ : ∃ l0 L, ls = l0 :: L := by
      cases ls with
      | nil => exact absurd rfl h.ne
      | cons l0 L => exact ⟨l0, L, rfl⟩
    have hh : ls.head? = some l0 := by rw [e]; rfl
    obtain ⟨u, v, e0, _, huv, _⟩ := h.pr l0 (by rw [e]; simp)
    have hreach : ∀ x ∈ ls.flatten, RU ls u x := by
      refine h.conn (fun x => RU ls u x) (fun l1 hl1 x hx => ?_) (fun a b hab => ?_)
      · rw [hh] at hl1
        cases hl1
        rw [e0] at hx
        have hadj : Adj ls u v := adj_asc (asc_pairs h) (by rw [e, e0]; simp)
        rcases List.mem_cons.mp hx with z | z
        · rw [z]; exact .refl
        · rw [List.mem_singleton.mp z]; exact RU.refl.step hadj
      · have hadj := adj_asc (asc_pairs h) hab
        rintro (z | z)
        · exact ⟨z, z.step hadj⟩
        · exact ⟨z.step hadj.symm, z⟩
    exact fun a ha b hb => (hreach a ha).symm.trans (hreach b hb)
  obtain ⟨p, r, e⟩ := us_ne h
  have hpm : p ∈ us ls.flatten := by rw [e]; simp
  obtain ⟨m, hm, hr, _⟩ := rep_ex (E := ls) hpm
  have hkey : ∀ x, x ∈ repsL ls (us ls.flatten) ↔ x ∈ [m] := fun x => by
    rw [mem_reps, List.mem_singleton]
    constructor
    · rintro ⟨h1, h2⟩
      exact rep_same h1 hm h2 hr (hall x (mem_us.mp h1) m (mem_us.mp hm))
    · rintro rfl
      exact ⟨hm, hr⟩
  exact ((List.perm_ext_iff_of_nodup ((us_nodup _).filter _) (by simp)).mpr hkey).length_eq
/-- a web has no rings just if it has one place more than ties -/
theorem tree_iff {ls : List (List Nat)} (h : Ties ls) : rgs ls = [] ↔ ls.length + 1 = (us ls.flatten).length := by
  have hE : ∀ l ∈ ls, ∃ a b, l = [a, b] ∧ a < b ∧ a ∈ us ls.flatten ∧ b ∈ us ls.flatten := fun l hl => by
    obtain ⟨a, b, e, _, h2, _⟩ := h.pr l hl
    exact ⟨a, b, e, h2, mem_us.mpr (List.mem_flatten.mpr ⟨l, hl, by rw [e]; simp⟩), mem_us.mpr (List.mem_flatten.mpr ⟨l, hl, by rw [e]; simp⟩)⟩
  obtain ⟨_, h2⟩ := reps_count (us_nodup ls.flatten) ls hE (ties_nodup h)
  rw [h.one] at h2
  rw [← h2]
  constructor
  · intro z r hr
    obtain ⟨q, hq, _⟩ := hr.form
    have := (mem_rgs h).mpr hq
    rw [z] at this
    cases this
  · intro z
    refine List.eq_nil_iff_forall_not_mem.mpr fun r hr => ?_
    exact z r ((mem_rgs h).mp hr).toCyc
end Pdl
namespace Pdl
open PySem L2 PyProof.Rows
/-- the pairs that stand side by side, the last and the first one ahead -/
def zp (r : List Nat) : List (Nat × Nat) := r.zip r.tail
def cp (r : List Nat) : List (Nat × Nat) := (lst r, hd r) :: zp r
def p2 (p : Nat × Nat) : List Nat := pr2 [p.1, p.2]
theorem zp_cons {a b : Nat} {t : List Nat} : zp (a :: b :: t) = (a, b) :: zp (b :: t) := rfl
theorem zp_mem : ∀ {r : List Nat} {p : Nat × Nat}, p ∈ zp r → p.1 ∈ r ∧ p.2 ∈ r
  | [], p, h => by cases h
  | [a], p, h => by cases h
  | a :: b :: t, p, h => by
    rw [zp_cons] at h
    rcases List.mem_cons.mp h with rfl | h
    · simp
    · have := zp_mem h
      exact ⟨List.mem_cons_of_mem _ this.1, List.mem_cons_of_mem _ this.2⟩
theorem zp_pot (g : Nat → Nat → Int) : ∀ r : List Nat, r.Nodup → ∃ f : Nat → Int, ∀ p ∈ zp r, f p.1 - f p.2 = g p.1 p.2
  | [], _ => ⟨fun _ => 0, fun p h => by cases h⟩
  | [a], _ => ⟨fun _ => 0, fun p h => by cases h⟩
  | a :: b :: t, h => by
    obtain ⟨h1, h2⟩ := List.nodup_cons.mp h
    obtain ⟨f, hf⟩ := zp_pot g (b :: t) h2
    refine ⟨fun x => if x = a then f b + g a b else f x, fun p hp => ?_⟩
    rw [zp_cons] at hp
    have hb : b ≠ a := fun z => h1 (by rw [z]; simp)
    rcases List.mem_cons.mp hp with rfl | hp
    · dsimp only
      rw [if_pos rfl, if_neg hb]
      omega
    · have hm := zp_mem hp
      dsimp only
      rw [if_neg (fun z => h1 (by rw [← z]; exact hm.1)), if_neg (fun z => h1 (by rw [← z]; exact hm.2))]
      exact hf p hp
theorem zp_tele {g : Nat → Nat → Int} {f : Nat → Int} : ∀ {r : List Nat}, r ≠ [] → (∀ p ∈ zp r, f p.1 - f p.2 = g p.1 p.2) → pth g r = f (hd r) - f (lst r)
  | [], z, _ => absurd rfl z
  | [a], _, _ => by show (0 : Int) = f a - f a; omega
  | a :: b :: t, _, h => by
    have ih := zp_tele (r := b :: t) (by simp) fun p hp => h p (by rw [zp_cons]; exact List.mem_cons_of_mem _ hp)
    have h1 := h (a, b) (by rw [zp_cons]; simp)
    show g a b + pth g (b :: t) = f a - f (lst (a :: b :: t))
    rw [ih, lst_cons, hd_cons]
    dsimp only at h1
    omega
theorem pth_sum (g : Nat → Nat → Int) : ∀ r : List Nat, pth g r = ((zp r).map fun p => g p.1 p.2).sum
  | [] => rfl
  | [_] => rfl
  | a :: b :: t => by
    rw [zp_cons, List.map_cons, List.sum_cons, ← pth_sum g (b :: t)]
    rfl
theorem rnd_sum (g : Nat → Nat → Int) (r : List Nat) : rnd g r = ((cp r).map fun p => g p.1 p.2).sum := by
  unfold rnd cp
  rw [pth_sum, List.map_cons, List.sum_cons]
theorem chn_zp {ls : List (List Nat)} : ∀ {r : List Nat}, (∀ p ∈ zp r, Adj ls p.1 p.2) → Chn ls r
  | [], _ => trivial
  | [_], _ => trivial
  | a :: b :: t, h => ⟨h (a, b) (by rw [zp_cons]; simp), chn_zp (r := b :: t) fun p hp => h p (by rw [zp_cons]; exact List.mem_cons_of_mem _ hp)⟩
theorem zp_len : ∀ {r : List Nat}, r ≠ [] → (zp r).length + 1 = r.length
  | [], z => absurd rfl z
  | [_], _ => rfl
  | a :: b :: t, _ => by
    have := zp_len (r := b :: t) (by simp)
    rw [zp_cons]
    simp only [List.length_cons] at *
    omega
theorem cp_len {r : List Nat} (h : r ≠ []) : (cp r).length = r.length := by
  have := zp_len h
  unfold cp
  rw [List.length_cons]
  exact this
/-- ties that are one ring -/
structure RingT (ls : List (List Nat)) (r : List Nat) : Prop where
  ties : Ties ls
  nd : r.Nodup
  len : 3 ≤ r.length
  perm : ls.Perm ((cp r).map p2)
theorem RingT.ne {ls : List (List Nat)} {r : List Nat} (h : RingT ls r) : r ≠ [] := fun z => by
  have := h.len
  rw [z] at this
  simp at this
theorem RingT.adj {ls : List (List Nat)} {r : List Nat} (h : RingT ls r) {p : Nat × Nat} (hp : p ∈ cp r) : Adj ls p.1 p.2 := h.perm.mem_iff.mpr (List.mem_map_of_mem hp)
theorem RingT.cyc {ls : List (List Nat)} {r : List Nat} (h : RingT ls r) : Cyc ls r :=
  ⟨h.len, h.nd, chn_zp fun p hp => h.adj (List.mem_cons_of_mem _ hp), h.adj (p := (lst r, hd r)) List.mem_cons_self⟩
theorem RingT.llen {ls : List (List Nat)} {r : List Nat} (h : RingT ls r) : ls.length = r.length := by
  rw [h.perm.length_eq, List.length_map, cp_len h.ne]
theorem RingT.of {ls : List (List Nat)} {r : List Nat} (h : RingT ls r) {a b : Nat} (hab : Adj ls a b) : (a, b) ∈ cp r ∨ (b, a) ∈ cp r := by
  obtain ⟨⟨x, y⟩, hp, e⟩ := List.mem_map.mp (h.perm.mem_iff.mp hab)
  unfold p2 pr2 at e
  dsimp only at e
  split at e <;> split at e <;> cases e
  · exact .inl hp
  · exact .inr hp
  · exact .inr hp
  · exact .inl hp
theorem Ties.adj_ne {ls : List (List Nat)} (h : Ties ls) {a : Nat} : ¬ Adj ls a a := fun hab => by
  obtain ⟨x, y, e, _, h2, _⟩ := h.pr _ hab
  unfold pr2 at e
  dsimp only at e
  split at e <;> cases e <;> omega
theorem RingT.anti {ls : List (List Nat)} {r : List Nat} (h : RingT ls r) {a b : Nat} (hab : (a, b) ∈ cp r) : (b, a) ∉ cp r := fun hba => by
  have hn : ((cp r).map p2).Nodup := h.perm.nodup_iff.mp (ties_nodup h.ties)
  have hne : (a, b) ≠ (b, a) := fun z => by
    cases z
    exact h.ties.adj_ne (h.adj hab)
  have h1 := (List.pairwise_map.mp hn)
  obtain ⟨i, hi⟩ := List.mem_iff_getElem?.mp hab
  obtain ⟨j, hj⟩ := List.mem_iff_getElem?.mp hba
  have e1 : ((cp r).map p2)[i]? = some (p2 (a, b)) := by rw [List.getElem?_map, hi]; rfl
  have e2 : ((cp r).map p2)[j]? = some (p2 (a, b)) := by rw [List.getElem?_map, hj]; exact congrArg some pr2_comm
  have hij := (List.getElem?_inj (List.getElem?_eq_some_iff.mp e1).1 hn).mp (e1.trans e2.symm)
  subst hij
  exact hne (Option.some.inj (hi.symm.trans hj))
theorem RingT.pot {ls : List (List Nat)} {r : List Nat} (h : RingT ls r) {g : Nat → Nat → Int} (hg : ∀ a b, Adj ls a b → g b a = - g a b) (h0 : rnd g r = 0) : ∃ f, Pot ls g f := by
  obtain ⟨f, hf⟩ := zp_pot g r h.nd
  have ht := zp_tele h.ne hf
  have hc : ∀ p ∈ cp r, f p.1 - f p.2 = g p.1 p.2 := fun p hp => by
    rcases List.mem_cons.mp hp with rfl | hp
    · unfold rnd at h0
      dsimp only
      omega
    · exact hf p hp
  refine ⟨f, fun a b hab => ?_⟩
  have hA := adj_asc (asc_pairs h.ties) hab
  rcases h.of hA with z | z
  · exact hc _ z
  · have h1 := hc _ z
    have h2 := hg a b hA
    dsimp only at h1
    omega
def sgB (r : List Nat) (l : List Nat) : Bool := decide ((fst2 l, snd2 l) ∈ cp r)
def fth (r : List Nat) (as : List (List Nat)) : Nat := as.countP (sgB r)
theorem sgB_rev {ls : List (List Nat)} {r : List Nat} (h : RingT ls r) {l : List Nat} (hl : l ∈ ls) : sgB r l.reverse = !sgB r l := by
  obtain ⟨a, b, rfl, _⟩ := h.ties.pr l hl
  have hA := adj_asc (asc_pairs h.ties) hl
  show decide ((b, a) ∈ cp r) = !decide ((a, b) ∈ cp r)
  rcases h.of hA with z | z
  · simp [z, h.anti z]
  · simp [z, h.anti z]
/-- of a way to lay arrows on ties: which of the two -/
theorem one_way {ls as : List (List Nat)} (ht : Ties ls) (h2 : Two as) (hs : as.map pr2 = ls) {a b : Nat} (hab : Adj ls a b) : [b, a] ∈ as ↔ [a, b] ∉ as := by
  have hne : a ≠ b := fun z => by
    subst z
    exact ht.adj_ne hab
  have hn : (as.map pr2).Nodup := by rw [hs]; exact ties_nodup ht
  constructor
  · intro h1 h3
    obtain ⟨i, hi⟩ := List.mem_iff_getElem?.mp h1
    obtain ⟨j, hj⟩ := List.mem_iff_getElem?.mp h3
    have e1 : (as.map pr2)[i]? = some (pr2 [a, b]) := by rw [List.getElem?_map, hi]; exact congrArg some pr2_comm
    have e2 : (as.map pr2)[j]? = some (pr2 [a, b]) := by rw [List.getElem?_map, hj]; rfl
    have hij := (List.getElem?_inj (List.getElem?_eq_some_iff.mp e1).1 hn).mp (e1.trans e2.symm)
    subst hij
    have := Option.some.inj (hi.symm.trans hj)
    cases this
    exact hne rfl
  · intro h1
    have hab' : pr2 [a, b] ∈ as.map pr2 := by rw [hs]; exact hab
    obtain ⟨l, hl, e⟩ := List.mem_map.mp hab'
    obtain ⟨x, y, rfl⟩ := h2 l hl
    unfold pr2 at e
    dsimp only at e
    split at e <;> split at e <;> cases e
    · exact absurd hl h1
    · exact hl
    · exact hl
    · exact absurd hl h1
theorem xof_ant {ls as : List (List Nat)} (ht : Ties ls) (h2 : Two as) (hs : as.map pr2 = ls) {a b : Nat} (hab : Adj ls a b) : xof as b a = - xof as a b := by
  have := one_way ht h2 hs hab
  unfold xof
  by_cases h : [a, b] ∈ as
  · rw [if_pos h, if_neg (fun z => this.mp z h)]
  · rw [if_neg h, if_pos (this.mpr h)]
    rfl
def sgI (r : List Nat) (l : List Nat) : Int := if sgB r l then 1 else -1
theorem sum_sg (r : List Nat) : ∀ as : List (List Nat), (as.map (sgI r)).sum = 2 * (fth r as : Int) - as.length
  | [] => rfl
  | l :: as => by
    have ih := sum_sg r as
    unfold fth at *
    rw [List.map_cons, List.sum_cons, ih, List.countP_cons]
    unfold sgI
    by_cases h : sgB r l
    · rw [if_pos h, if_pos h]
      simp only [List.length_cons]
      omega
    · rw [if_neg h, if_neg h]
      simp only [List.length_cons]
      omega
theorem perm_sum {L M : List Int} (h : L.Perm M) : L.sum = M.sum := by
  induction h with
  | nil => rfl
  | cons x _ ih => rw [List.sum_cons, List.sum_cons, ih]
  | swap x y l => rw [List.sum_cons, List.sum_cons, List.sum_cons, List.sum_cons]; omega
  | trans _ _ h1 h2 => exact h1.trans h2
theorem tal_fth {ls as : List (List Nat)} {r : List Nat} (h : RingT ls r) (h2 : Two as) (hs : as.map pr2 = ls) : tal as r = 2 * (fth r as : Int) - r.length := by
  have hl : as.length = r.length := by rw [← h.llen, ← hs, List.length_map]
  rw [← hl, ← sum_sg]
  -- the sign at a tie
  let F : List Nat → Int := fun t => if t ∈ as then sgI r t else sgI r t.reverse
  have e1 : as.map (sgI r) = ls.map F := by
    rw [← hs, List.map_map]
    refine List.map_congr_left fun l hm => ?_
    obtain ⟨a, b, rfl⟩ := h2 l hm
    have hA : Adj ls a b := by rw [← hs]; exact List.mem_map_of_mem hm
    show sgI r [a, b] = F (pr2 [a, b])
    unfold pr2
    dsimp only
    split
    · show _ = if [b, a] ∈ as then sgI r [b, a] else sgI r [a, b]
      rw [if_neg (fun z => (one_way h.ties h2 hs hA).mp z hm)]
    · show _ = if [a, b] ∈ as then sgI r [a, b] else sgI r [b, a]
      rw [if_pos hm]
  have e2 : (ls.map F).sum = (((cp r).map p2).map F).sum := perm_sum (h.perm.map F)
  unfold tal
  rw [e1, e2, rnd_sum, List.map_map]
  congr 1
  refine List.map_congr_left fun p hp => ?_
  obtain ⟨a, b⟩ := p
  have hA : Adj ls a b := h.adj hp
  have ho := one_way h.ties h2 hs hA
  have hq : sgI r [a, b] = 1 := if_pos (decide_eq_true hp)
  have hq' : sgI r [b, a] = -1 := if_neg (by show ¬ (decide ((b, a) ∈ cp r) = true); rw [decide_eq_true_iff]; exact h.anti hp)
  show xof as a b = F (pr2 [a, b])
  unfold xof
  show _ = F (if b < a then [b, a] else [a, b])
  by_cases hba : b < a
  · rw [if_pos hba]
    show _ = if [b, a] ∈ as then sgI r [b, a] else sgI r [a, b]
    by_cases z : [a, b] ∈ as
    · rw [if_pos z, if_neg (fun y => ho.mp y z), hq]
    · rw [if_neg z, if_pos (ho.mpr z), hq']
  · rw [if_neg hba]
    show _ = if [a, b] ∈ as then sgI r [a, b] else sgI r [b, a]
    by_cases z : [a, b] ∈ as
    · rw [if_pos z, if_pos z, hq]
    · rw [if_neg z, if_neg z, hq']
theorem RingT.rk {ls as : List (List Nat)} {r : List Nat} (h : RingT ls r) (h2 : Two as) (hs : as.map pr2 = ls) : Ranked as ↔ 0 < fth r as ∧ fth r as < r.length := by
  have ht := tal_fth h h2 hs
  constructor
  · intro hr
    have := tal_lt h2 hr (r := r) (by rw [hs]; exact h.cyc)
    omega
  · intro hk
    let g : Nat → Nat → Int := fun a b => (if (a, b) ∈ cp r then tal as r else - tal as r) - r.length * xof as a b
    have hg : ∀ a b, Adj ls a b → g b a = - g a b := fun a b hab => by
      have hx := xof_ant h.ties h2 hs hab
      show (if (b, a) ∈ cp r then tal as r else - tal as r) - r.length * xof as b a = - ((if (a, b) ∈ cp r then tal as r else - tal as r) - r.length * xof as a b)
      rw [hx, Int.mul_neg]
      rcases h.of hab with z | z
      · rw [if_pos z, if_neg (h.anti z)]
        omega
      · rw [if_pos z, if_neg (h.anti z)]
        omega
    have h0 : rnd g r = 0 := by
      have e : ∀ (L : List (Nat × Nat)), (∀ p ∈ L, p ∈ cp r) → (L.map fun p => g p.1 p.2).sum = L.length * tal as r - r.length * (L.map fun p => xof as p.1 p.2).sum := by
        intro L
        induction L with
        | nil => intro _; simp
        | cons p L ih =>
          intro hL
          have ih := ih fun q hq => hL q (List.mem_cons_of_mem _ hq)
          have hp : g p.1 p.2 = tal as r - r.length * xof as p.1 p.2 := by
            show (if (p.1, p.2) ∈ cp r then tal as r else - tal as r) - _ = _
            rw [if_pos (hL p List.mem_cons_self)]
          rw [List.map_cons, List.sum_cons, List.map_cons, List.sum_cons, ih, hp, List.length_cons, Int.mul_add, Int.natCast_add, Int.add_mul]
          omega
      rw [rnd_sum, e _ fun p hp => hp, ← rnd_sum, cp_len h.ne]
      show _ - _ * tal as r = 0
      omega
    obtain ⟨f, hf⟩ := h.pot hg h0
    -- along each arrow the number grows
    have hup : ∀ a b, [a, b] ∈ as → f a < f b := fun a b hab => by
      have hA : Adj ls a b := by rw [← hs]; exact List.mem_map_of_mem hab
      have h1 := hf.adj hg hA
      have h3 : g a b = (if (a, b) ∈ cp r then tal as r else - tal as r) - r.length * xof as a b := rfl
      have hx : xof as a b = 1 := if_pos hab
      rw [hx] at h3
      split at h3 <;> omega
    obtain ⟨m, hm⟩ : ∃ m : Int, ∀ a ∈ as.flatten, m ≤ f a := by
      generalize as.flatten = L
      induction L with
      | nil => exact ⟨0, fun a ha => by cases ha⟩
      | cons x L ih =>
        obtain ⟨m, hm⟩ := ih
        refine ⟨min m (f x), fun a ha => ?_⟩
        rcases List.mem_cons.mp ha with rfl | ha
        · omega
        · have := hm a ha
          omega
    refine ⟨fun a => (f a - m).toNat, fun a b hab => ?_⟩
    have h1 := hup a b hab
    have h3 := hm a (List.mem_flatten.mpr ⟨_, hab, by simp⟩)
    show (f a - m).toNat < (f b - m).toNat
    omega
def chs : Nat → Nat → Nat
  | _, 0 => 1
  | 0, _ + 1 => 0
  | n + 1, k + 1 => chs n k + chs n (k + 1)
theorem lotsQ_snoc (ls : List (List Nat)) (d : List Nat) : lotsQ (ls ++ [d]) = stepQ (lotsQ ls) d := by
  unfold lotsQ
  rw [List.foldl_append]
  rfl
theorem lots_cnt (φ : List Nat → Bool) : ∀ (m : List (List Nat)), (∀ l ∈ m, φ l.reverse = !φ l) → ∀ k, ((lotsQ m.reverse).countP fun w => w.countP φ == k) = chs m.length k
  | [], _, k => by
    cases k <;> rfl
  | d :: m, h, k => by
    have ih := lots_cnt φ m fun l hl => h l (List.mem_cons_of_mem _ hl)
    have hd := h d List.mem_cons_self
    rw [List.reverse_cons, lotsQ_snoc]
    unfold stepQ
    rw [List.countP_append, List.countP_map, List.countP_map]
    have e : ∀ (x : List Nat), ((fun w => List.countP φ w == k) ∘ fun l : List (List Nat) => l ++ [x]) = fun w => (w.countP φ + if φ x then 1 else 0) == k := fun x => by
      funext w
      show (List.countP φ (w ++ [x]) == k) = _
      rw [List.countP_append, List.countP_cons, List.countP_nil, Nat.zero_add]
    rw [e, e, hd]
    have e0 : (fun w : List (List Nat) => (w.countP φ + 0) == k) = fun w => w.countP φ == k := rfl
    have e1 : ∀ j, k = j + 1 → (fun w : List (List Nat) => (w.countP φ + 1) == k) = fun w => w.countP φ == j := fun j hj => by
      subst hj
      funext w
      show decide _ = decide _
      congr 1
      simp
    have e2 : k = 0 → (lotsQ m.reverse).countP (fun w : List (List Nat) => (w.countP φ + 1) == k) = 0 := fun hk => by
      subst hk
      rw [List.countP_eq_zero]
      intro w _ z
      have := of_decide_eq_true z
      omega
    cases k with
    | zero =>
      cases hφ : φ d
      · show List.countP (fun w : List (List Nat) => (w.countP φ + 0) == 0) _ + List.countP (fun w : List (List Nat) => (w.countP φ + 1) == 0) _ = _
        rw [e2 rfl, e0, ih 0, List.length_cons]
        unfold chs
        rfl
      · show List.countP (fun w : List (List Nat) => (w.countP φ + 1) == 0) _ + List.countP (fun w : List (List Nat) => (w.countP φ + 0) == 0) _ = _
        rw [e2 rfl, e0, ih 0, List.length_cons]
        unfold chs
        rfl
    | succ k =>
      cases hφ : φ d
      · show List.countP (fun w : List (List Nat) => (w.countP φ + 0) == k + 1) _ + List.countP (fun w : List (List Nat) => (w.countP φ + 1) == k + 1) _ = _
        rw [e1 k rfl, e0, ih k, ih (k + 1), List.length_cons]
        rw [show chs (m.length + 1) (k + 1) = chs m.length k + chs m.length (k + 1) by rw [chs]]
        omega
      · show List.countP (fun w : List (List Nat) => (w.countP φ + 1) == k + 1) _ + List.countP (fun w : List (List Nat) => (w.countP φ + 0) == k + 1) _ = _
        rw [e1 k rfl, e0, ih k, ih (k + 1), List.length_cons]
        rw [show chs (m.length + 1) (k + 1) = chs m.length k + chs m.length (k + 1) by rw [chs]]
end Pdl
namespace Pdl
open PySem L2 PyProof.Rows
theorem flows_cnt (ls : List (List Nat)) (P : List (List Nat) → Bool) : (flows ls).countP P = (lotsQ ls).countP fun w => P w && rkB w := by
  unfold flows
  rw [(srtE_perm _ _).countP_eq, List.countP_filter]
theorem lots_facts {ls w : List (List Nat)} (h : Ties ls) (hw : w ∈ lotsQ ls) : Two w ∧ w.map pr2 = ls := by
  obtain ⟨t1, t2⟩ := allL_two h.two (mem_lotsQ.mp hw)
  have t2 : ls.map pr2 = w.map pr2 := t2
  exact ⟨t1, by rw [← t2, h.pr2s]⟩
theorem RingT.cnt {ls : List (List Nat)} {r : List Nat} (h : RingT ls r) {k : Nat} (h0 : 0 < k) (hk : k < r.length) : (flows ls).countP (fun w => fth r w == k) = chs r.length k := by
  rw [flows_cnt]
  have e : (lotsQ ls).countP (fun w => (fth r w == k) && rkB w) = (lotsQ ls).countP fun w => w.countP (sgB r) == k := by
    refine List.countP_congr fun w hw => ?_
    obtain ⟨h2, hs⟩ := lots_facts h.ties hw
    rw [Bool.and_eq_true]
    constructor
    · exact fun z => z.1
    · intro z
      refine ⟨z, rkB_t h2 ((h.rk h2 hs).mpr ?_)⟩
      have : fth r w = k := eq_of_beq z
      omega
  rw [e]
  have := lots_cnt (sgB r) ls.reverse (fun l hl => sgB_rev h (List.mem_reverse.mp hl)) k
  rw [List.reverse_reverse, List.length_reverse, h.llen] at this
  exact this
theorem RingT.mem {ls w : List (List Nat)} {r : List Nat} (h : RingT ls r) (hw : w ∈ flows ls) : 0 < fth r w ∧ fth r w < r.length := by
  obtain ⟨a1, a2⟩ := (mem_flows h.ties).mp hw
  exact (h.rk a1.two a2).mp a1.rk
theorem Ties.some {ls : List (List Nat)} (h : Ties ls) : ∃ p, p ∈ ls.flatten := by
  obtain ⟨p, r, e⟩ := us_ne h
  exact ⟨p, mem_us.mp (by rw [e]; simp)⟩
structure TreeT (ls : List (List Nat)) : Prop where
  ties : Ties ls
  cnt : ls.length + 1 = (us ls.flatten).length
theorem TreeT.no {ls : List (List Nat)} (h : TreeT ls) {r : List Nat} : ¬ Cyc ls r := fun hc => by
  obtain ⟨q, hq, _⟩ := hc.form
  have := (mem_rgs h.ties).mpr hq
  rw [(tree_iff h.ties).mpr h.cnt] at this
  cases this
theorem pot_rank {as : List (List Nat)} {f : Nat → Int} (hup : ∀ a b, [a, b] ∈ as → f a < f b) : Ranked as := by
  obtain ⟨m, hm⟩ : ∃ m : Int, ∀ a ∈ as.flatten, m ≤ f a := by
    generalize as.flatten = L
    induction L with
    | nil => exact ⟨0, fun a ha => by cases ha⟩
    | cons x L ih =>
      obtain ⟨m, hm⟩ := ih
      refine ⟨min m (f x), fun a ha => ?_⟩
      rcases List.mem_cons.mp ha with rfl | ha
      · omega
      · have := hm a ha
        omega
  refine ⟨fun a => (f a - m).toNat, fun a b hab => ?_⟩
  have h1 := hup a b hab
  have h3 := hm a (List.mem_flatten.mpr ⟨_, hab, by simp⟩)
  show (f a - m).toNat < (f b - m).toNat
  omega
theorem TreeT.rk {ls as : List (List Nat)} (h : TreeT ls) (h2 : Two as) (hs : as.map pr2 = ls) : Ranked as := by
  have hg : ∀ a b, Adj ls a b → (fun a b => - xof as a b) b a = - (fun a b => - xof as a b) a b := fun a b hab => by
    have := xof_ant h.ties h2 hs hab
    dsimp only
    omega
  obtain ⟨f, hf⟩ := pot_ex ls (asc_pairs h.ties) (ties_nodup h.ties) hg fun r hc => absurd hc h.no
  refine pot_rank (f := f) fun a b hab => ?_
  have hA : Adj ls a b := by rw [← hs]; exact List.mem_map_of_mem hab
  have h1 := hf.adj hg hA
  have hx : xof as a b = 1 := if_pos hab
  rw [hx] at h1
  omega
end Pdl
namespace Pdl
open PySem L2 PyProof.Rows PySem.W
theorem FarOk.le {as : List (List Nat)} {n m : Nat} (h : FarOk as n) (k : FarOk as m) : n ≤ m := by
  obtain ⟨b, ⟨row, h1, h2⟩, h3⟩ := h.some
  obtain ⟨r, h4, h5⟩ := k.all b ⟨row, h1⟩
  have := h3 r h4
  omega
end Pdl
namespace Pdl
open PySem L2 PyProof.Rows
/-- the exceptions that the mode wants are taken here -/
def TkD (X : Cx) (μ : Md) : Prop := L2.Takes X fun cls d σ H => wD X.K μ σ cls d H
/-- the context of a body that may raise -/
abbrev bXx (P : Program) (w : World) (K : PySem.W.Frag) (mg : Str → Option Value) (base : Heap) (N : List Str) (qual : Str) (st : Stmt) (f : Addr) (cdv : Value) (A : Around) (outer : List Env) (s : Shared) (H : Hp) (E : XK) : Cx :=
  cxOf (L2.CX P w) P w K mg base N qual (defScope st) f cdv A outer s H E
section
variable {P : Program} {w : World} {K : PySem.W.Frag} {mg : Str → Option Value} {base : Heap}
/-- THE RULE for a def that may raise -/
theorem fn_DX {x qual : Str} {st : Stmt} {f : Addr} {fd : FuncData} {N ps : List Str} {k : Nat} {S : SpD} (F : Fun K x qual st f fd) (sc : FnScope N ps (defScope st)) (len : ∀ ds c Q E, S ds c Q E → ds.length = ps.length)
    (hbody : ∀ (cdv : Value) (A : Around) (outer : List Env) (s : Shared) (H : Hp) (E0 : XK), Room k (bXx P w K mg base N qual st f cdv A outer s H E0).A →
      ∀ m ds c Q E, TkD (bXx P w K mg base N qual st f cdv A outer s H E0) (mdOf m c H E) → S ds c Q E → XB (bXx P w K mg base N qual st f cdv A outer s H E0) (mdOf m c H E) (defBody st) ⟨startD N ds, c⟩ (poOf Q)) : FnOk P w K mg base (L2.CX P w) (k + 1) f fd ps (spD K S) := by
  refine F.okX sc (fun vs H Q E h => ?_) (fun cdv A outer s H vs Q E hr h => ?_)
  · obtain ⟨m, ds, c, _, r, hs⟩ := h
    rw [r.length]
    exact len _ _ _ _ hs
  · obtain ⟨m, ds, c, co, r, hs⟩ := h
    have tk : TkD (bXx P w K mg base N qual st f cdv A outer s H E) (mdOf m c H fun x c' => ∀ cls dx H', Fw c c' H H' → COk K m H' c' → ExRp K (hid (tot m c') H') cls dx x → E cls dx H') :=
      (L2.takes_of (E := E) rfl rfl rfl rfl).imp fun cls d σ H' ⟨x, Γ, R, rx, hE⟩ => hE cls d H' R.fw R.co rx
    exact ⟨_, hbody cdv A outer s H E hr m ds c _ _ tk hs, ⟨co, slots_start r, Fw.refl _ _⟩, fun σ' H' Γ' f R q => q _ H' f R.co .non, fun v σ' H' d Γ' f R rd q => q v H' f R.co rd, fun _ _ _ _ _ q => q.elim, fun _ _ _ _ _ q => q.elim⟩
/-- the module's name x may be called, and may raise -/
def CalX (P : Program) (w : World) (K : PySem.W.Frag) (mg : Str → Option Value) (base : Heap) (x : Str) (k : Nat) (ps : List Str) (S : SpD) : Prop :=
  ∃ (f : Addr) (fd : FuncData), mg x = some (.ref f) ∧ PySem.W.keepIn K (.ref f) = true ∧ FnOk P w K mg base (L2.CX P w) k f fd ps (spD K S) ∧ Binds K fd ps []
theorem calx_of {x : Str} {st : Stmt} {N ps : List Str} {k : Nat} {S : SpD} (D : Def K mg x ps st) (sc : FnScope N ps (defScope st)) (len : ∀ ds c Q E, S ds c Q E → ds.length = ps.length)
    (hbody : ∀ (f : Addr) (cdv : Value) (A : Around) (outer : List Env) (s : Shared) (H : Hp) (E0 : XK), Room k (bXx P w K mg base N x st f cdv A outer s H E0).A →
      ∀ m ds c Q E, TkD (bXx P w K mg base N x st f cdv A outer s H E0) (mdOf m c H E) → S ds c Q E → XB (bXx P w K mg base N x st f cdv A outer s H E0) (mdOf m c H E) (defBody st) ⟨startD N ds, c⟩ (poOf Q)) : CalX P w K mg base x (k + 1) ps S := by
  obtain ⟨f, fd, h1, h2, F, b⟩ := D
  exact ⟨f, fd, h1, h2, fn_DX F sc len (hbody f), b⟩
end
section
variable {X : Cx} {μ : Md} {Γ : En} {S : SpD} {Q : QE} {k : Nat} {x : Str} {ps : List Str} {p pos pos2 apos : Pos} {e o : Expr} {es : List Expr} {Po' : Po}
/-- f(e, ..), which may raise -/
theorem xe_callX (C : CalX X.prog X.w X.K X.mg X.base x k ps S) (tk : TkD X μ) (hr : Room k X.A) (hg : Gl X x) (h : XA X μ (e :: es) Γ (Asks μ S Q)) (hdb : (x == ("__debug__" : Str)) = false := by decide)
    (he : starEach (e :: es) X.env = (false, eval e X.env) :: starEach es X.env := by rfl) (hpl : (backTo pos (starEach es X.env)).any (·.1) = false := by rfl) : XE X μ (.Call (.Name x p) (e :: es) [] pos) Γ Q := by
  obtain ⟨f, fd, h1, h2, F, b⟩ := C
  refine PE.imp pe_u fun σ H q ⟨R, k⟩ => ⟨_, pe_callS (E := fun σ => wD X.K μ σ) F hr hg h1 h2 b (fun σ => passAt tk σ) h hdb he hpl, R, fun vs H1 ds Γ1 s1 f1 R1 r1 hs => ?_⟩
  exact asks_sp R1 r1 hs fun v H2 d Γ2 s2 f2 R2 r2 hq => k v H2 d Γ2 (s2.trans s1) (f1.trans f2) R2 r2 hq
/-- what an own error's __init__(self, f) keeps: self.f = f -/
def spGv (K : PySem.W.Frag) (f : Str) : Sp := fun vs H Q _ => ∃ (a C : Addr) (y : V), vs = [.ref a, y] ∧ OexC K C ∧ PySem.W.findIn K (.ref C) f = some none ∧ H a = some (exo a C none) ∧
  ∀ dx, H dx = none → dx ≠ a → Q .non (upd (upd H dx (exd dx [(f, y)])) a (exo a C (some dx)))
/-- an own error with one field -/
structure ErrC (T : Wd) (x : Str) (C : Addr) (f : Str) : Prop where
  oex : OexC T.K C
  mg : T.mg x = some (.ref C)
  no : PySem.W.findIn T.K (.ref C) f = some none
  ini : ∃ (fI : Addr) (fd : FuncData) (ps : List Str), PySem.W.findIn T.K (.ref C) "__init__" = some (some (.ref fI)) ∧ PySem.W.typeIn T.K (.ref fI) = some (.type "function") ∧ FnOk T.P T.w T.K T.mg T.base CX0 1 fI fd ps (spGv T.K f) ∧ Binds T.K fd ps []
/-- raise C(e) -/
theorem xs_raise1 {C : Addr} {f : Str} (T : ErrC (wdX X) x C f) (hc : X.calm = true) (tk : TkD X μ) (hr : Room 2 X.A) (hg : Gl X x) (h : XA X μ [e] Γ fun ds Γ1 => ∃ d, ds = [d] ∧ μ.E ⟨.ref C, some [(f, d)]⟩ Γ1) (hdb : (x == ("__debug__" : Str)) = false := by decide)
    (he : starEach [e] X.env = (false, eval e X.env) :: starEach [] X.env := by rfl) (hpl : (backTo pos (starEach [] X.env)).any (·.1) = false := by rfl) :
    XS X μ (.Raise (some (.Call (.Name x p) [e] [] pos)) none pos2) Γ Po' := by
  obtain ⟨fI, fd, ps, i1, i2, F, b⟩ := T.ini
  refine PS.imp ps_u fun D σ H ⟨R, _⟩ => ⟨_, ps_raise hc tk (pmk_oex (dvs := []) T.oex i1 i2 F hr b .nil (fun _ _ _ _ _ _ _ z => z.elim) hg T.mg h hdb he hpl), R, fun vs H1 ds Γ1 s1 f1 R1 r1 ⟨d, ed, hE⟩ => ?_⟩
  subst ed
  obtain ⟨v, rfl, rv⟩ : ∃ v, vs = [v] ∧ Rp X.K (Vw μ Γ1 H1) v d := by
    cases r1 with
    | cons rv rn => cases rn; exact ⟨_, rfl, rv⟩
  refine ⟨by simp, fun a ha => ⟨a, C, v, rfl, T.oex, T.no, upd_same, fun dx hdx hda => ⟨rfl, dx, [(f, v)], upd_same, ?_, ?_, ?_⟩⟩⟩
  · rw [upd_ne hda]
    exact upd_same
  · rw [upd_ne hda] at hdx
    exact hdx
  · rw [upd_ne hda] at hdx
    -- the heap behind it: the dict alone is new
    have hsub : Sub H1 (upd (del (upd (upd (upd H1 a (exo a C none)) dx (exd dx [(f, v)])) a (exo a C (some dx))) a) dx (.xd [(f, v)])) := fun b o hb => by
      have nb : b ≠ dx := fun z => by rw [z, hdx] at hb; cases hb
      have na : b ≠ a := fun z => by rw [z, ha] at hb; cases hb
      rw [upd_ne nb, del_ne na, upd_ne na, upd_ne nb, upd_ne na]
      exact hb
    have R2 := R1.more hsub
    refine ⟨⟨.ref C, some [(f, d)]⟩, Γ1, ?_, ⟨rfl, [(f, v)], ?_, .cons (rv.mono (Fw.of_sub (c := Γ1.c) hsub).sub) .nil⟩, hE⟩
    · exact R2
    · exact hid_some.mpr ⟨R1.fresh hdx, upd_same⟩
end
end Pdl
namespace Pdl
open PySem L2 PyProof.Rows
section
variable {P : Program} {w : World} {K : PySem.W.Frag} {mg : Str → Option Value} {base : Heap}
theorem ini_ok {qual f sf : Str} {st : Stmt} {fI : Addr} {fd : FuncData} {N ps : List Str} {p1 p2 p3 p4 : Pos} (F : Fun K "__init__" qual st fI fd) (sc : FnScope N ps (defScope st)) (hN : N = [sf, f]) (hps : ps.length = 2)
    (hb : defBody st = [.Assign [.Attribute (.Name sf p1) f p2] (.Name f p3) p4]) (hl1 : Vis (defScope st) sf) (hl2 : Vis (defScope st) f)
    (d1 : (sf == ("__debug__" : Str)) = false) (d2 : (sf == ("__classdict__" : Str)) = false) (d3 : (f == ("__debug__" : Str)) = false) (d4 : (f == ("__classdict__" : Str)) = false)
    (sw : ∀ X : Cx, swapsWith (.Name f p3) (some (.Attribute (.Name sf p1) f p2)) p4.line X.env = pure false) : FnOk P w K mg base CX0 1 fI fd ps (spGv K f) := by
  refine F.ok sc (fun vs H Q E h => ?_) (fun cdv A outer s H vs Q E hr h => ?_)
  · obtain ⟨a, C, y, rfl, _⟩ := h
    rw [hps]
    rfl
  · obtain ⟨a, C, y, rfl, T, hno, ha, k⟩ := h
    rw [hb, hN]
    refine ⟨_, pss_one (ps_ost (pe_var (i := 0) (x := sf) rfl hl1 d1 d2) (pe_var (i := 1) (x := f) rfl hl2 d3 d4) (sw _)), ?_⟩
    exact ⟨y, rfl, .ref a, rfl, a, C, rfl, T, hno, .inl ⟨ha, fun dx h1 h2 => k dx h1 h2⟩⟩
end
end Pdl
namespace Pdl
open PySem L2 PyProof.Rows PySem.HandSPX
theorem exV_ok {P : Program} {w : World} {H : Hp} {h : Heap} {a C : Addr} {d : Option Addr} {oe : Obj} (he : h.get? a = some oe) (hz : Zc (.ref C) d oe) (hf : ∃ vs, oe.data = .fields vs) : ObjOk P w H h a (exV a C d) :=
  ⟨⟨oe, he, hz, hf⟩, ⟨oe, he⟩, fun _ _ ⟨o, q, r⟩ k => ⟨o, k o q, r⟩⟩
section
variable {X : Cx} {pins : List (Addr × Obj)} {σ : L2.St} {H : Hp} {s : Shared}
/-- a pinned object, new since the entry, is tracked -/
theorem inv_track {a : Addr} {o : HO} (I : Inv X pins σ H s) (h0 : X.s_0.heap.get? a = none) (hn : H a = none) (hp : ∀ p ∈ X.pn ++ pins, p.1 ≠ a) (hl : a ≠ X.env.locals) (hc : ∀ x c, X.env.cells.lookup x = some c → c ≠ a) (new : ObjOk X.prog X.w (upd H a o) s.heap a o) : Inv X pins σ (upd H a o) s where
  ok := I.ok
  os := I.os
  bare := I.bare
  base := {
    keep := I.base.keep
    slot := I.base.slot
    free := fun b u q n x => by
      rw [upd_ne (fun z => by rw [z, h0] at q; cases q)]
      exact I.base.free b u q n x
    there := I.base.there
    tups := fun b xs q => by
      have := I.base.tups b xs q
      rw [upd_ne (ne_of_none this hn)]
      exact this
    frzs := fun b u xs q => by
      have := I.base.frzs b u xs q
      rw [upd_ne (ne_of_none this hn)]
      exact this
    tbls := fun b ps q => by
      obtain ⟨qs, hq⟩ := I.base.tbls b ps q
      exact ⟨qs, by rw [upd_ne (ne_of_none hq hn)]; exact hq⟩ }
  loc := I.loc
  cell := I.cell
  free := by rw [upd_ne (Ne.symm hl)]; exact I.free
  freeC := fun x c h => by rw [upd_ne (hc x c h)]; exact I.freeC x c h
  pin := fun p h => by
    obtain ⟨h1, h2, h3⟩ := I.pin p h
    exact ⟨h1, by rw [upd_ne (hp p h)]; exact h2, h3⟩
  hok := fun b u e => by
    by_cases hb : b = a
    · subst hb
      rw [upd_same] at e
      cases e
      exact new
    · rw [upd_ne hb] at e
      exact (I.hok b u e).stay (fun c v _ q => q) (fun c q => by rw [upd_ne (ne_of_none q hn)]; exact q) fun c xs q => by rw [upd_ne (ne_of_none q hn)]; exact q
  len := I.len
end
/-- a suite that holds its exception as a value -/
def tsV (ts : Addr → TS) : Addr → Value → Option Addr → TS := fun a cls d D σ H => ∃ C, cls = .ref C ∧ ts a D σ (upd H a (exV a C d))
theorem flying_grow {base : Heap} {l : List Env} {e : Addr} {Z : Obj → Prop} {h h' : Heap} (x : FlyingZ base l e Z h) (k : ∀ b o, h.get? b = some o → h'.get? b = some o) : FlyingZ base l e Z h' := by
  obtain ⟨f1, f2, f3, oe, vs, T, oT, ts, g1, g2, g3, g4, g5, g6, g7, g8, g9⟩ := x
  exact ⟨fun b o q => k b o (f1 b o q), f2, Heap.FunFrames.of_keeps (fun b o q _ => ⟨o, k b o q, rfl⟩) f3, oe, vs, T, oT, ts, k _ _ g1, g2, g3, g4, g5, g6, k _ _ g7, g8, g9⟩
/-- a clause's test: its answer by the exception's class; the heap only grows -/
def Tst (X : Cx) (te : Expr) (φ : Value → Option Bool) : Prop :=
  ∀ (a : Addr) (oe : Obj) (pn pins : List (Addr × Obj)) (σ : L2.St) (H : Hp) (s : Shared) (cls : Value) (b : Bool) (Q : Bool → Shared → Prop) (E : Value → Shared → Prop),
    Inv (X.suite a ((a, oe) :: pn)) pins σ H s → s.heap.get? a = some oe → oe.cls = cls → φ cls = some b → (∀ h', (∀ x o, s.heap.get? x = some o → h'.get? x = some o) → Q b { s with heap := h' }) →
    wpAny (model X.prog X.w) (X.A.mark (some (.ref a))) (eval te X.env) (fun c s1 => wpAny (model X.prog X.w) (X.A.mark (some (.ref a))) (excMatches (.ref a) c) Q E s1) E s
section
variable {X : Cx}
theorem names_ld {x : Str} {c : Value} {p : Pos} {a : Addr} {oe : Obj} {pn pins : List (Addr × Obj)} {σ : L2.St} {H : Hp} {s : Shared} {Q : Value → Shared → Prop} {E : Value → Shared → Prop} (hc : Names X x c) (I : Inv (X.suite a ((a, oe) :: pn)) pins σ H s) (q : Q c s) :
    wpAny (model X.prog X.w) (X.A.mark (some (.ref a))) (eval (.Name x p) X.env) Q E s := by
  obtain ⟨hg, hdbg, hm | ⟨hm, hv, hnn⟩⟩ := hc
  · exact ld_glob (X := X.suite a ((a, oe) :: pn)) I hg hm q hdbg
  · exact ld_blt (X := X.suite a ((a, oe) :: pn)) I hg hm hv q hnn hdbg
theorem tst_tup3 {x1 x2 x3 : Str} {c1 c2 c3 : Value} {p1 p2 p3 pos : Pos} {k : Nat} (h1 : Names X x1 c1) (h2 : Names X x2 c2) (h3 : Names X x3 c3)
    (e1 : starEach [.Name x1 p1, .Name x2 p2, .Name x3 p3] X.env = (false, eval (.Name x1 p1) X.env) :: starEach [.Name x2 p2, .Name x3 p3] X.env := by rfl)
    (e2 : starEach [.Name x2 p2, .Name x3 p3] X.env = (false, eval (.Name x2 p2) X.env) :: starEach [.Name x3 p3] X.env := by rfl) (e3 : starEach [.Name x3 p3] X.env = (false, eval (.Name x3 p3) X.env) :: starEach [] X.env := by rfl) :
    Tst X (.Tuple [.Name x1 p1, .Name x2 p2, .Name x3 p3] k pos) fun cls => PySem.W.exmAny X.K cls [c1, c2, c3] := by
  intro a oe pn pins σ H s cls b Q E I he hcls hb hq
  refine Tuple_ (spliced_more (names_ld h1 I (spliced_more (names_ld h2 I (spliced_more (names_ld h3 I (spliced_none ?_)) e3)) e2)) e1)
  have hk : ∀ x o, s.heap.get? x = some o → (s.heap.push { cls := .type "tuple", dict := none, data := .seq [c1, c2, c3].toArray }).get? x = some o := fun x o e => Heap.get?_push_of_some _ e
  refine wpAny_newObj_type ?_
  have LT : PySem.W.Looks (model X.prog X.w) (s.heap.push { cls := .type "tuple", dict := none, data := .seq [c1, c2, c3].toArray }) (typeOf (.ref a)) cls := fun A Q E s k q => wpAny_typeOf_ref (k _ _ (hk _ _ he)) (by rw [hcls]; exact q)
  exact (PySem.W.exm_tup3 (M := model X.prog X.w) (I.kIn.keeps hk) LT (Heap.get?_push_size _ rfl) hb).here (hq _ hk)
/-- a clause: its test, the slot of its name, its suite's reading -/
structure Cl where
  φ : Value → Option Bool
  i : Option Nat
  ts : Addr → Value → Option Addr → TS
def endsOf (D : Ends) : Option Nat → Ends
  | none => D
  | some i => { nx := fun σ' H' => D.nx (σ'.set i none) H', rt := D.rt, bk := fun σ' H' => D.bk (σ'.set i none) H', ct := fun σ' H' => D.ct (σ'.set i none) H' }
def bindOf (σ : L2.St) (a : Addr) : Option Nat → L2.St
  | none => σ
  | some i => σ.set i (some (.ref a))
/-- what the clauses wish, one after the other -/
def wCl (Wout : WX) (D : Ends) : List Cl → WX
  | [] => Wout
  | c :: r => fun cls d σ H => ∃ b, c.φ cls = some b ∧ (b = true → ∀ a, H a = none → c.ts a cls d (endsOf D c.i) (bindOf σ a c.i) H) ∧ (b = false → wCl Wout D r cls d σ H)
inductive ClsOk (X : Cx) : List ExceptHandler → List Cl → Prop
  | nil : ClsOk X [] []
  | cons {te : Expr} {φ : Value → Option Bool} {ts : Addr → Value → Option Addr → TS} {b₀ : Stmt} {suite : List Stmt} {pos' : Pos} {hds : List ExceptHandler} {l : List Cl} (ht : Tst X te φ)
      (hsu : ∀ (a : Addr) (oe : Obj) (cls : Value) (d : Option Addr) (pn : List (Addr × Obj)), Zc cls d oe → (∃ vs, oe.data = .fields vs) → PSs (X.suite a ((a, oe) :: pn)) (b₀ :: suite) (ts a cls d)) (r : ClsOk X hds l) :
      ClsOk X (.ExceptHandler (some te) none (b₀ :: suite) pos' :: hds) (⟨φ, none, ts⟩ :: l)
  | consAs {te : Expr} {φ : Value → Option Bool} {ts : Addr → Value → Option Addr → TS} {b₀ : Stmt} {suite : List Stmt} {pos' : Pos} {hds : List ExceptHandler} {l : List Cl} {n : Str} {i : Nat} (ht : Tst X te φ) (hi : X.N[i]? = some n) (hln : X.env.kindOf n = some .local)
      (hsu : ∀ (a : Addr) (oe : Obj) (cls : Value) (d : Option Addr) (pn : List (Addr × Obj)), Zc cls d oe → (∃ vs, oe.data = .fields vs) → PSs (X.suite a ((a, oe) :: pn)) (b₀ :: suite) (ts a cls d)) (r : ClsOk X hds l) :
      ClsOk X (.ExceptHandler (some te) (some n) (b₀ :: suite) pos' :: hds) (⟨φ, some i, ts⟩ :: l)
  | consV {te : Expr} {φ : Value → Option Bool} {ts : Addr → TS} {b₀ : Stmt} {suite : List Stmt} {pos' : Pos} {hds : List ExceptHandler} {l : List Cl} {n : Str} {i : Nat} (ht : Tst X te φ) (hi : X.N[i]? = some n) (hln : X.env.kindOf n = some .local) (hex : X.ex = [])
      (hsu : ∀ (a : Addr) (pn : List (Addr × Obj)), PSs (X.suite a pn) (b₀ :: suite) (ts a)) (r : ClsOk X hds l) :
      ClsOk X (.ExceptHandler (some te) (some n) (b₀ :: suite) pos' :: hds) (⟨φ, some i, tsV ts⟩ :: l)
variable {body : List Stmt} {tb : WX → TS} {Wout : WX} {pos : Pos}
/-- where the clauses are gone through -/
theorem go_cl (hs : X.stack = X.env :: X.outer) (hf : X.env.frame = some X.env.locals) (hN : X.N.Nodup) (ok : X.Ok) (tk : L2.Takes X Wout) {a : Addr} {B : Heap} {sI s' : Shared} {pins : List (Addr × Obj)} {σ' : L2.St} {H' : Hp} {cls : Value} {d : Option Addr} {D : Ends}
    (J : Inv X pins σ' H' sI) (nb : ∀ b o, sI.heap.get? b = some o → b ∉ frs X.stack → B.get? b = some o) (na : H' a = none) (os : s'.os = sI.os) (ag : AllBare s'.gens) {hds : List ExceptHandler} {l : List Cl} (hk : ClsOk X hds l) :
    ∀ h3 : Heap, FlyingZ B (X.env :: X.outer) a (Zc cls d) h3 → sI.heap.UpToSlots h3 → wCl Wout D l cls d σ' H' → wpAny (model X.prog X.w) X.A (handleBy (.ref a) X.env hds) (SP X pins D) X.xe { s' with heap := h3 } := by
  -- the suite's state at a heap in flight
  have suit : ∀ h4, FlyingZ B (X.env :: X.outer) a (Zc cls d) h4 → sI.heap.UpToSlots h4 → ∃ oe, h4.get? a = some oe ∧ Zc cls d oe ∧ (∃ vs, oe.data = .fields vs) ∧ Inv (X.suite a ((a, oe) :: (X.pn ++ pins))) [] σ' H' { s' with heap := h4 } := fun h4 fl up => by
    have J4 : Inv X pins σ' H' { s' with heap := h4 } := J.landed nb fl.1 up os ag
    obtain ⟨oe, vs, he, hz, hd⟩ := fl.there
    have nfr : a ∉ frs (X.env :: X.outer) := fun hm => by
      obtain ⟨_, o', e', hnf⟩ := fl.2.2.1.mem hm
      rw [he] at e'; cases e'
      exact hnf _ hd
    have nL : a ≠ X.env.locals := fun z => nfr (List.mem_filterMap.mpr ⟨X.env, List.mem_cons_self, by rw [hf, z]⟩)
    have nF : a ∉ X.fs := fun hm => by
      obtain ⟨e, he, q⟩ := List.mem_filterMap.mp hm
      exact nfr (List.mem_filterMap.mpr ⟨e, List.mem_cons_of_mem _ he, q⟩)
    exact ⟨oe, he, hz, ⟨vs, hd⟩, J4.suite he hd na nL nF⟩
  induction hk with
  | nil =>
    intro h3 fl3 up w
    refine wpAny_handleBy_nil ?_
    obtain ⟨k1, k2, k3, oe, vs, T, oT, ts', he, hz, hd, h1, hr⟩ := id fl3
    unfold PySem.passOn
    refine wpAny_bind (wpAny_field he hd h1 ?_)
    rw [if_neg (show ¬ ((Value.ref T == Value.none) = true) from by simp)]
    have fin : wpAny (model X.prog X.w) X.A (setFlight (.ref a) X.env.frame) (fun _ s4 => wpAny (model X.prog X.w) X.A (throw (.ref a) : Sem Flow) (SP X pins D) X.xe s4) X.xe { s' with heap := h3 } := by
      rw [hf]
      refine setFlight_upZ fl3 fun h4 hh4 up4 => wpAny_throw (tk _ _ ?_)
      exact ⟨a, B, sI, pins, σ', H', cls, d, rfl, J, nb, up.trans up4, .inr (.inr (by rw [hs]; exact hh4)), na, os, ag, w⟩
    first
      | exact wpAny_bind (wpAny_pure (wpAny_bind fin))
      | exact wpAny_bind fin
  | @cons te φ ts b₀ suite pos' hds2 l2 ht hsu r ih =>
    intro h3 fl3 up w
    obtain ⟨b, hb1, hyes, hno⟩ := w
    obtain ⟨oe3, he3, hz3, _, S3⟩ := suit h3 fl3 up
    refine wpAny_handleBy_cons (codeAny_handlers_test (ht a oe3 (X.pn ++ pins) [] σ' H' _ cls b _ _ S3 he3 hz3.1 hb1 fun h3' k => ?_)) (by intro q; cases q)
    have fl3' := flying_grow fl3 k
    have up' : sI.heap.UpToSlots h3' := up.trans (Heap.UpToSlots.of_keeps k)
    cases b with
    | true =>
      refine codeAny_handlers_suite ?_
      refine lands_againZ fl3' fun h4 fl4 up4 => ?_
      obtain ⟨oe4, he4, hz4, hd4, S4⟩ := suit h4 fl4 (up'.trans up4)
      refine wpAny_mono ((hsu a oe4 cls d (X.pn ++ pins) hz4 hd4).run [] _ _ H' _ S4 (hyes rfl a na)) (fun f s6 hsp => ?_) (fun _ _ z => False.elim z)
      cases f with
      | next => obtain ⟨σ6, H6, S6, q6⟩ := hsp; exact ⟨_, _, S6.unsuite ok, q6⟩
      | brk => obtain ⟨σ6, H6, S6, q6⟩ := hsp; exact ⟨_, _, S6.unsuite ok, q6⟩
      | cont => obtain ⟨σ6, H6, S6, q6⟩ := hsp; exact ⟨_, _, S6.unsuite ok, q6⟩
      | ret u => obtain ⟨v6, σ6, H6, S6, r6, q6⟩ := hsp; exact ⟨_, _, _, S6.unsuite ok, r6, q6⟩
    | false => exact ih h3' fl3' up' (hno rfl)
  | @consAs te φ ts b₀ suite pos' hds2 l2 n i ht hi hln hsu r ih =>
    intro h3 fl3 up w
    obtain ⟨b, hb1, hyes, hno⟩ := w
    obtain ⟨oe3, he3, hz3, _, S3⟩ := suit h3 fl3 up
    refine wpAny_handleBy_cons (codeAny_handlers_test (ht a oe3 (X.pn ++ pins) [] σ' H' _ cls b _ _ S3 he3 hz3.1 hb1 fun h3' k => ?_)) (by intro q; cases q)
    have fl3' := flying_grow fl3 k
    have up' : sI.heap.UpToSlots h3' := up.trans (Heap.UpToSlots.of_keeps k)
    cases b with
    | true =>
      refine codeAny_handlers_suite_as ?_
      refine lands_againZ fl3' fun h4 fl4 up4 => ?_
      obtain ⟨oe4, he4, hz4, hd4, S4⟩ := suit h4 fl4 (up'.trans up4)
      refine store_ok (X := X.suite a ((a, oe4) :: (X.pn ++ pins))) (v := .ref a) S4 hN hi (.inl hln) rfl (fun s5 S5 => ?_) (.inr hln)
      refine wpAny_mono ((hsu a oe4 cls d (X.pn ++ pins) hz4 hd4).run [] s5 _ H' _ S5 (hyes rfl a na)) (fun f s6 hsp => ?_) (fun _ _ z => False.elim z)
      have end_ : ∀ {σ6 : L2.St} {H6 : Hp} {Q : Shared → Prop}, Inv (X.suite a ((a, oe4) :: (X.pn ++ pins))) [] σ6 H6 s6 → (∀ s7, Inv X pins (σ6.set i none) H6 s7 → Q s7) →
          wpAny (model X.prog X.w) X.A (do bindName X.env n .none; unbindBehindTheSuite X.env n pos') (fun _ s7 => Q s7) X.xe s6 := fun {σ6 H6 Q} S6 hq => gone_ok (S6.unsuite ok) hN hi hln hq
      cases f with
      | next => obtain ⟨σ6, H6, S6, q6⟩ := hsp; exact end_ S6 fun s7 J7 => ⟨_, _, J7, q6⟩
      | brk => obtain ⟨σ6, H6, S6, q6⟩ := hsp; exact end_ S6 fun s7 J7 => ⟨_, _, J7, q6⟩
      | cont => obtain ⟨σ6, H6, S6, q6⟩ := hsp; exact end_ S6 fun s7 J7 => ⟨_, _, J7, q6⟩
      | ret u => obtain ⟨v6, σ6, H6, S6, r6, q6⟩ := hsp; exact end_ S6 fun s7 J7 => ⟨_, _, _, J7, r6, q6⟩
    | false => exact ih h3' fl3' up' (hno rfl)
  | @consV te φ ts b₀ suite pos' hds2 l2 n i ht hi hln hex hsu r ih =>
    intro h3 fl3 up w
    obtain ⟨b, hb1, hyes, hno⟩ := w
    obtain ⟨oe3, he3, hz3, hd3, S3⟩ := suit h3 fl3 up
    have nfr : a ∉ frs (X.env :: X.outer) := fun hm => by
      obtain ⟨_, o', e', hnf⟩ := fl3.2.2.1.mem hm
      rw [he3] at e'; cases e'
      obtain ⟨vs, hd⟩ := hd3
      exact hnf _ hd
    have sIa : sI.heap.get? a = none := by
      cases e : sI.heap.get? a with
      | none => rfl
      | some o =>
        have := nb a o e (by rw [hs]; exact nfr)
        rw [fl3.2.1] at this
        cases this
    have h0a : X.s_0.heap.get? a = none := by
      cases e : X.s_0.heap.get? a with
      | none => rfl
      | some o =>
        obtain ⟨o', ho'⟩ := J.base.there a o e (by rw [hex]; simp)
        rw [sIa] at ho'
        cases ho'
    have hpn : ∀ p ∈ X.pn ++ pins, p.1 ≠ a := fun p hp e => by
      have := (J.pin p hp).1
      rw [e, sIa] at this
      cases this
    have nL : a ≠ X.env.locals := fun e => by
      obtain ⟨m, ⟨o, es, ep, ho, _⟩, _⟩ := J.loc
      rw [← e, sIa] at ho
      cases ho
    have ncl : ∀ x c, X.env.cells.lookup x = some c → c ≠ a := fun x c h e => by
      obtain ⟨v, o, ho, _⟩ := J.cell x c h
      rw [e, sIa] at ho
      cases ho
    refine wpAny_handleBy_cons (codeAny_handlers_test (ht a oe3 (X.pn ++ pins) [] σ' H' _ cls b _ _ S3 he3 hz3.1 hb1 fun h3' k => ?_)) (by intro q; cases q)
    have fl3' := flying_grow fl3 k
    have up' : sI.heap.UpToSlots h3' := up.trans (Heap.UpToSlots.of_keeps k)
    cases b with
    | true =>
      obtain ⟨C, hC, hq⟩ := hyes rfl a na
      subst hC
      refine codeAny_handlers_suite_as ?_
      refine lands_againZ fl3' fun h4 fl4 up4 => ?_
      obtain ⟨oe4, he4, hz4, hd4, S4⟩ := suit h4 fl4 (up'.trans up4)
      refine store_ok (X := X.suite a ((a, oe4) :: (X.pn ++ pins))) (v := .ref a) S4 hN hi (.inl hln) rfl (fun s5 S5 => ?_) (.inr hln)
      have ga := (S5.pin (a, oe4) (List.mem_append_left _ List.mem_cons_self)).1
      have S6 : Inv (X.suite a (X.pn ++ pins)) [] (σ'.set i (some (.ref a))) H' s5 := ⟨ok.suite _ _, S5.os, S5.bare, S5.base, S5.loc, S5.cell, S5.free, S5.freeC, fun p hp => S5.pin p (by
        rw [List.append_nil] at hp
        exact List.mem_append_left _ (List.mem_cons_of_mem _ hp)), S5.hok, S5.len⟩
      have S7 : Inv (X.suite a (X.pn ++ pins)) [] (σ'.set i (some (.ref a))) (upd H' a (exV a C d)) s5 := inv_track S6 h0a na (fun p hp => hpn p (by rw [List.append_nil] at hp; exact hp)) nL ncl (exV_ok ga hz4 hd4)
      refine wpAny_mono ((hsu a (X.pn ++ pins)).run [] s5 _ _ _ S7 hq) (fun f s6 hsp => ?_) (fun _ _ z => False.elim z)
      have end_ : ∀ {σ6 : L2.St} {H6 : Hp} {Q : Shared → Prop}, Inv (X.suite a (X.pn ++ pins)) [] σ6 H6 s6 → (∀ s7, Inv X pins (σ6.set i none) H6 s7 → Q s7) →
          wpAny (model X.prog X.w) X.A (do bindName X.env n .none; unbindBehindTheSuite X.env n pos') (fun _ s7 => Q s7) X.xe s6 := fun {σ6 H6 Q} S hq => gone_ok (X := X) (pins := pins) ⟨ok, S.os, S.bare, S.base, S.loc, S.cell, S.free, S.freeC, fun p hp => S.pin p (List.mem_append_left _ hp), S.hok, S.len⟩ hN hi hln hq
      cases f with
      | next => obtain ⟨σ6, H6, S8, q6⟩ := hsp; exact end_ S8 fun s7 J7 => ⟨_, _, J7, q6⟩
      | brk => obtain ⟨σ6, H6, S8, q6⟩ := hsp; exact end_ S8 fun s7 J7 => ⟨_, _, J7, q6⟩
      | cont => obtain ⟨σ6, H6, S8, q6⟩ := hsp; exact end_ S8 fun s7 J7 => ⟨_, _, J7, q6⟩
      | ret u => obtain ⟨v6, σ6, H6, S8, r6, q6⟩ := hsp; exact end_ S8 fun s7 J7 => ⟨_, _, _, J7, r6, q6⟩
    | false => exact ih h3' fl3' up' (hno rfl)
/-- try with clauses -/
theorem ps_tryL {h₀ : ExceptHandler} {hds : List ExceptHandler} {l : List Cl} (hs : X.stack = X.env :: X.outer) (hf : X.env.frame = some X.env.locals) (hN : X.N.Nodup) (tk : L2.Takes X Wout)
    (hb : ∀ (W : WX) (pn : List (Addr × Obj)) (xe : Value → Shared → Prop), L2.Takes (X.tr pn xe) W → PassesOwn (model X.prog X.w) X.A X.env xe → PSs (X.tr pn xe) body (tb W)) (hh : ClsOk X (h₀ :: hds) l) :
    PS X (.Try body (h₀ :: hds) [] [] pos) (fun D σ H => tb (wCl Wout D l) D σ H) := by
  refine ⟨fun pins s σ H D I h => ?_⟩
  have ok := I.ok
  have hfr : X.A.frames = some (X.env :: X.outer) := by rw [ok.frames, hs]
  refine wpAny_Try_except (wpAny_mono ((hb (wCl Wout D l) (X.pn ++ pins) _ (fun u s' xx => ?_) PassesOwn.looking).run [] s σ H D (I.toTry _) h) (fun f s1 hsp => ?_) (fun e s1 he => he))
  · obtain ⟨a, B, sI, pins', σ', H', cls, d, rfl, J', nb, up, sky, na, os, ag, w⟩ := xx
    have J : Inv X pins σ' H' sI := J'.ofTry ok
    have sky' : Sky B (X.env :: X.outer) a (Zc cls d) X.env.locals s'.heap := by rw [← hs]; exact sky
    refine Sky.land Zc.steady hfr hf sky' fun h3 fl3 up3 => ?_
    exact go_cl hs hf hN ok tk J nb na os ag hh h3 fl3 (up.trans up3) w
  · cases f with
    | next => obtain ⟨σ', H', J', q⟩ := hsp; exact wpAny_execs_nil ⟨σ', H', J'.ofTry ok, q⟩
    | brk => obtain ⟨σ', H', J', q⟩ := hsp; exact ⟨σ', H', J'.ofTry ok, q⟩
    | cont => obtain ⟨σ', H', J', q⟩ := hsp; exact ⟨σ', H', J'.ofTry ok, q⟩
    | ret u => obtain ⟨v, σ', H', J', r, q⟩ := hsp; exact ⟨v, σ', H', J'.ofTry ok, r, q⟩
end
end Pdl
namespace Pdl
open PySem L2 PyProof.Rows
/-- a clause: its test, its name's slot, what it is entered with -/
structure DCl where
  φ : Value → Option Bool
  i : Option Nat
  R : Xn → En → Prop
  val : Bool := false
/-- what is wished of an exception ahead of the clauses -/
def wishD (Eo : Xn → En → Prop) : List DCl → Xn → En → Prop
  | [] => Eo
  | c :: r => fun x Γ => ∃ b, c.φ x.cls = some b ∧ (b = true → c.R x Γ) ∧ (b = false → wishD Eo r x Γ)
def bindΓ (Γ : En) (a : Addr) : Option Nat → En
  | none => Γ
  | some i => { Γ with s := Γ.s.set i (some (.ref a)) }
def unP (P : Po) : Option Nat → Po
  | none => P
  | some i => { nx := fun Γ => P.nx { Γ with s := Γ.s.set i none }, rt := P.rt, bk := fun Γ => P.bk { Γ with s := Γ.s.set i none }, ct := fun Γ => P.ct { Γ with s := Γ.s.set i none } }
/-- the mode in a suite: the heap at its beginning is kept in mind -/
def mdS (μ : Md) (Γ : En) (H : Hp) : Md := { m := μ.m, c0 := Γ.c, H0 := H, E := fun _ _ => False }
/-- the mode in the body of a try -/
def mdT (μ : Md) (Γ : En) (H : Hp) (E : Xn → En → Prop) : Md := { m := μ.m, c0 := Γ.c, H0 := H, E := E }
def SuiteOk (X : Cx) (μ : Md) (P : Po) (suite : List Stmt) (i : Option Nat) (R : Xn → En → Prop) : Prop :=
  ∀ (a : Addr) (oe : Obj) (pn : List (Addr × Obj)) (H : Hp) (d : Option Addr) (x : Xn) (Γ1 : En), R x Γ1 → Zc x.cls d oe → (∃ vs, oe.data = .fields vs) → ExRp X.K (hid (tot μ.m Γ1.c) H) x.cls d x →
    XB (X.suite a ((a, oe) :: pn)) (mdS μ Γ1 H) suite (bindΓ Γ1 a i) (unP P i)
/-- a suite whose exception is a value -/
def SuiteOkV (X : Cx) (μ : Md) (P : Po) (suite : List Stmt) (i : Nat) (R : Xn → En → Prop) : Prop :=
  ∀ (a : Addr) (pn : List (Addr × Obj)) (H : Hp) (x : Xn) (C : Addr) (Γ1 : En), R x Γ1 → x.cls = .ref C → XB (X.suite a pn) (mdS μ Γ1 H) suite { Γ1 with s := Γ1.s.set i (some (.exc C (x.fs.getD []))) } (unP P (some i))
inductive DOk (X : Cx) (μ : Md) (P : Po) : List ExceptHandler → List DCl → Prop
  | nil : DOk X μ P [] []
  | cons {te : Expr} {φ : Value → Option Bool} {R : Xn → En → Prop} {b₀ : Stmt} {suite : List Stmt} {pos' : Pos} {hds : List ExceptHandler} {l : List DCl} (ht : Tst X te φ) (hsu : SuiteOk X μ P (b₀ :: suite) none R) (r : DOk X μ P hds l) :
      DOk X μ P (.ExceptHandler (some te) none (b₀ :: suite) pos' :: hds) (⟨φ, none, R, false⟩ :: l)
  | consAs {te : Expr} {φ : Value → Option Bool} {R : Xn → En → Prop} {b₀ : Stmt} {suite : List Stmt} {pos' : Pos} {hds : List ExceptHandler} {l : List DCl} {n : Str} {i : Nat} (ht : Tst X te φ) (hi : X.N[i]? = some n) (hln : X.env.kindOf n = some .local)
      (hsu : SuiteOk X μ P (b₀ :: suite) (some i) R) (r : DOk X μ P hds l) : DOk X μ P (.ExceptHandler (some te) (some n) (b₀ :: suite) pos' :: hds) (⟨φ, some i, R, false⟩ :: l)
  | consV {te : Expr} {φ : Value → Option Bool} {R : Xn → En → Prop} {b₀ : Stmt} {suite : List Stmt} {pos' : Pos} {hds : List ExceptHandler} {l : List DCl} {n : Str} {i : Nat} (ht : Tst X te φ) (hi : X.N[i]? = some n) (hln : X.env.kindOf n = some .local) (hex : X.ex = [])
      (hsu : SuiteOkV X μ P (b₀ :: suite) i R) (r : DOk X μ P hds l) : DOk X μ P (.ExceptHandler (some te) (some n) (b₀ :: suite) pos' :: hds) (⟨φ, some i, fun x Γ => (∃ C, x.cls = .ref C) ∧ R x Γ, true⟩ :: l)
section
variable {X : Cx} {μ : Md} {Γ : En} {P : Po}
/-- the reading of a suite -/
def tsD (X : Cx) (suite : List Stmt) : Addr → Value → Option Addr → TS := fun a cls d D σ H => ∀ (oe : Obj) (pn : List (Addr × Obj)), Zc cls d oe → (∃ vs, oe.data = .fields vs) → ∃ t, PSs (X.suite a ((a, oe) :: pn)) suite t ∧ t D σ H
theorem tsD_ok {suite : List Stmt} : ∀ (a : Addr) (oe : Obj) (cls : Value) (d : Option Addr) (pn : List (Addr × Obj)), Zc cls d oe → (∃ vs, oe.data = .fields vs) → PSs (X.suite a ((a, oe) :: pn)) suite (tsD X suite a cls d) :=
  fun a oe cls d pn hz hf => PSs.imp pss_u fun D σ H h => h oe pn hz hf
def tsDV (X : Cx) (suite : List Stmt) : Addr → TS := fun a D σ H => ∀ pn : List (Addr × Obj), ∃ t, PSs (X.suite a pn) suite t ∧ t D σ H
theorem tsDV_ok {suite : List Stmt} : ∀ (a : Addr) (pn : List (Addr × Obj)), PSs (X.suite a pn) suite (tsDV X suite a) :=
  fun a pn => PSs.imp pss_u fun D σ H h => h pn
/-- the clauses at the kit's level -/
def clOf (X : Cx) : List ExceptHandler → List DCl → List Cl
  | .ExceptHandler _ _ body _ :: hds, c :: l => ⟨c.φ, c.i, bif c.val then tsV (tsDV X body) else tsD X body⟩ :: clOf X hds l
  | _, _ => []
theorem clOf_ok {hds : List ExceptHandler} {l : List DCl} (h : DOk X μ P hds l) : ClsOk X hds (clOf X hds l) := by
  induction h with
  | nil => exact .nil
  | cons ht hsu r ih => exact .cons ht tsD_ok ih
  | consAs ht hi hln hsu r ih => exact .consAs ht hi hln tsD_ok ih
  | consV ht hi hln hex hsu r ih => exact .consV ht hi hln hex tsDV_ok ih
/-- from the wishes by data to the kit's -/
theorem wCl_of {Wout : WX} {D : Ends} {Hs : Hp} {σs : L2.St} (R0 : Rel X.K μ Hs σs Γ)
    (k1 : ∀ σ' H' Γ', Fw Γ.c Γ'.c Hs H' → Rel X.K μ H' σ' Γ' → P.nx Γ' → D.nx σ' H')
    (k2 : ∀ v σ' H' d Γ', Fw Γ.c Γ'.c Hs H' → Rel X.K μ H' σ' Γ' → Rp X.K (Vw μ Γ' H') v d → P.rt d Γ' → D.rt v H')
    (k3 : ∀ σ' H' Γ', Fw Γ.c Γ'.c Hs H' → Rel X.K μ H' σ' Γ' → P.bk Γ' → D.bk σ' H') (k4 : ∀ σ' H' Γ', Fw Γ.c Γ'.c Hs H' → Rel X.K μ H' σ' Γ' → P.ct Γ' → D.ct σ' H')
    (ko : ∀ cls d σ H x Γ1, Rel X.K μ H σ Γ1 → ExRp X.K (Vw μ Γ1 H) cls d x → μ.E x Γ1 → Wout cls d σ H)
    {hds : List ExceptHandler} {l : List DCl} (h : DOk X μ P hds l) : ∀ (cls : Value) (d : Option Addr) (σ : L2.St) (H : Hp) (x : Xn) (Γ1 : En), Fw Γ.c Γ1.c Hs H → Rel X.K μ H σ Γ1 → ExRp X.K (Vw μ Γ1 H) cls d x → wishD μ.E l x Γ1 → wCl Wout D (clOf X hds l) cls d σ H := by
  induction h with
  | nil => exact fun cls d σ H x Γ1 _ R rx hw => ko cls d σ H x Γ1 R rx hw
  | @cons te φ R' b₀ suite pos' hds2 l2 ht hsu r ih =>
    intro cls d σ H x Γ1 f R rx ⟨b, hb, hy, hn⟩
    have ec : x.cls = cls := rx.1
    refine ⟨b, by rw [← ec]; exact hb, fun e a ha oe pn hz hf => ?_, fun e => ih cls d σ H x Γ1 f R rx (hn e)⟩
    subst ec
    have back : ∀ {H' : Hp} {σ' : L2.St} {Γ' : En}, Fw Γ1.c Γ'.c H H' → Rel X.K (mdS μ Γ1 H) H' σ' Γ' → Fw Γ.c Γ'.c Hs H' ∧ Rel X.K μ H' σ' Γ' := fun {H' σ' Γ'} f' R' => ⟨f.trans f', R'.co, R'.slots, R.fw.trans f'⟩
    refine ⟨_, hsu a oe pn H d x Γ1 (hy e) hz hf rx, ⟨R.co, R.slots, Fw.refl _ _⟩, fun σ' H' Γ' f' R' q => ?_, fun v σ' H' d' Γ' f' R' rv q => ?_, fun σ' H' Γ' f' R' q => ?_, fun σ' H' Γ' f' R' q => ?_⟩
    · obtain ⟨f2, R2⟩ := back f' R'
      exact k1 σ' H' Γ' f2 R2 q
    · obtain ⟨f2, R2⟩ := back f' R'
      exact k2 v σ' H' d' Γ' f2 R2 rv q
    · obtain ⟨f2, R2⟩ := back f' R'
      exact k3 σ' H' Γ' f2 R2 q
    · obtain ⟨f2, R2⟩ := back f' R'
      exact k4 σ' H' Γ' f2 R2 q
  | @consAs te φ R' b₀ suite pos' hds2 l2 n i ht hi hln hsu r ih =>
    intro cls d σ H x Γ1 f R rx ⟨b, hb, hy, hn⟩
    have ec : x.cls = cls := rx.1
    refine ⟨b, by rw [← ec]; exact hb, fun e a ha oe pn hz hf => ?_, fun e => ih cls d σ H x Γ1 f R rx (hn e)⟩
    subst ec
    have back : ∀ {H' : Hp} {σ' : L2.St} {Γ' : En}, Fw Γ1.c Γ'.c H H' → Rel X.K (mdS μ Γ1 H) H' σ' Γ' → Fw Γ.c Γ'.c Hs H' ∧ Rel X.K μ H' σ' Γ' := fun {H' σ' Γ'} f' R' => ⟨f.trans f', R'.co, R'.slots, R.fw.trans f'⟩
    have unset : ∀ {H' : Hp} {σ' : L2.St} {Γ' : En}, Rel X.K μ H' σ' Γ' → Rel X.K μ H' (σ'.set i none) { Γ' with s := Γ'.s.set i none } := fun {H' σ' Γ'} R' => ⟨R'.co, R'.slots.unset i, R'.fw⟩
    refine ⟨_, hsu a oe pn H d x Γ1 (hy e) hz hf rx, ⟨R.co, R.slots.set i (.ref a), Fw.refl _ _⟩, fun σ' H' Γ' f' R' q => ?_, fun v σ' H' d' Γ' f' R' rv q => ?_, fun σ' H' Γ' f' R' q => ?_, fun σ' H' Γ' f' R' q => ?_⟩
    · obtain ⟨f2, R2⟩ := back f' R'
      exact k1 _ H' { Γ' with s := Γ'.s.set i none } f2 (unset R2) q
    · obtain ⟨f2, R2⟩ := back f' R'
      exact k2 v σ' H' d' Γ' f2 R2 rv q
    · obtain ⟨f2, R2⟩ := back f' R'
      exact k3 _ H' { Γ' with s := Γ'.s.set i none } f2 (unset R2) q
    · obtain ⟨f2, R2⟩ := back f' R'
      exact k4 _ H' { Γ' with s := Γ'.s.set i none } f2 (unset R2) q
  | @consV te φ R' b₀ suite pos' hds2 l2 n i ht hi hln hex hsu r ih =>
    intro cls d σ H x Γ1 f R rx ⟨b, hb, hy, hn⟩
    have ec : x.cls = cls := rx.1
    refine ⟨b, by rw [← ec]; exact hb, fun e a ha => ?_, fun e => ih cls d σ H x Γ1 f R rx (hn e)⟩
    obtain ⟨⟨C, hC⟩, hR⟩ := hy e
    subst ec
    refine ⟨C, hC, fun pn => ?_⟩
    have hs2 : Sub H (upd H a (exV a C d)) := sub_upd ha
    have R2 := R.more hs2
    have rv : Rp X.K (Vw μ Γ1 (upd H a (exV a C d))) (.ref a) (.exc C (x.fs.getD [])) := by
      obtain ⟨_, rx⟩ := rx
      obtain ⟨xc, xf⟩ := x
      cases d with
      | none =>
        cases xf with
        | none => exact .exc0 (hid_upd (R.fresh ha))
        | some fs => exact rx.elim
      | some dd =>
        cases xf with
        | none => exact rx.elim
        | some fs =>
          obtain ⟨vs, hg, rf⟩ := rx
          obtain ⟨hm, hH⟩ := hid_some.mp hg
          exact .exc1 (hid_upd (R.fresh ha)) (hid_some.mpr ⟨hm, hs2 _ _ hH⟩) (rf.mono (Fw.of_sub (c := Γ1.c) hs2).sub)
    have f2 := f.trans (Fw.of_sub (c := Γ1.c) hs2)
    have back : ∀ {H' : Hp} {σ' : L2.St} {Γ' : En}, Fw Γ1.c Γ'.c (upd H a (exV a C d)) H' → Rel X.K (mdS μ Γ1 (upd H a (exV a C d))) H' σ' Γ' → Fw Γ.c Γ'.c Hs H' ∧ Rel X.K μ H' σ' Γ' := fun {H' σ' Γ'} f' R' => ⟨f2.trans f', R'.co, R'.slots, R2.fw.trans f'⟩
    have unset : ∀ {H' : Hp} {σ' : L2.St} {Γ' : En}, Rel X.K μ H' σ' Γ' → Rel X.K μ H' (σ'.set i none) { Γ' with s := Γ'.s.set i none } := fun {H' σ' Γ'} R' => ⟨R'.co, R'.slots.unset i, R'.fw⟩
    refine ⟨_, hsu a pn (upd H a (exV a C d)) x C Γ1 hR hC, ⟨R2.co, R2.slots.set i rv, Fw.refl _ _⟩, fun σ' H' Γ' f' R' q => ?_, fun v σ' H' d' Γ' f' R' rv q => ?_, fun σ' H' Γ' f' R' q => ?_, fun σ' H' Γ' f' R' q => ?_⟩
    · obtain ⟨f3, R3⟩ := back f' R'
      exact k1 _ H' { Γ' with s := Γ'.s.set i none } f3 (unset R3) q
    · obtain ⟨f3, R3⟩ := back f' R'
      exact k2 v σ' H' d' Γ' f3 R3 rv q
    · obtain ⟨f3, R3⟩ := back f' R'
      exact k3 _ H' { Γ' with s := Γ'.s.set i none } f3 (unset R3) q
    · obtain ⟨f3, R3⟩ := back f' R'
      exact k4 _ H' { Γ' with s := Γ'.s.set i none } f3 (unset R3) q
/-- the body's reading, by what the catch wishes -/
def tbD (X : Cx) (body : List Stmt) (Γ : En) (P : Po) (W : WX) : TS := fun D σ H => ∃ μ' : Md, (∀ cls d σ1 H1, wD X.K μ' σ1 cls d H1 → W cls d σ1 H1) ∧
  (∀ (pn : List (Addr × Obj)) (xe : Value → Shared → Prop), TkD (X.tr pn xe) μ' → PassesOwn (model X.prog X.w) X.A X.env xe → XB (X.tr pn xe) μ' body Γ P) ∧ tSD X.K μ' Γ P D σ H
end
end Pdl
namespace Pdl
open PySem L2 PyProof.Rows
theorem rpF_lookup {K : PySem.W.Frag} {G : Hp} {f : Str} {d : D} : ∀ {vs : List (Str × V)} {ds : List (Str × D)}, RpF K G vs ds → ds.lookup f = some d → ∃ v, vs.lookup f = some v ∧ Rp K G v d
  | _, _, .nil, h => by cases h
  | _, _, .cons (k := k) (v := v) (d := d0) rv rt, h => by
    rw [List.lookup_cons] at h ⊢
    cases hk : f == k
    · rw [hk] at h
      exact rpF_lookup rt h
    · rw [hk] at h
      cases h
      exact ⟨v, rfl, rv⟩
end Pdl
namespace Pdl
open PySem L2 PyProof.Rows
abbrev PSx := List D → (D → Prop) → (Xn → Prop) → Prop
def pX (S : PSx) : SpD := fun ds c Q E => c = [] ∧ S ds (fun d => Q d []) fun x => E x []
def Cax (T : Wd) (x : Str) (k : Nat) (S : SpD) : Prop := ∃ ps, CalX T.P T.w T.K T.mg T.base x k ps S
abbrev Cpx (T : Wd) (x : Str) (k : Nat) (S : PSx) : Prop := Cax T x k (pX S)
/-- the context of a body that may raise -/
abbrev cXx (T : Wd) (N : List Str) (x : Str) (st : Stmt) (f : Addr) (cdv : Value) (A : Around) (outer : List Env) (s : Shared) (H : Hp) (E : XK) : Cx := bXx T.P T.w T.K T.mg T.base N x st f cdv A outer s H E
section
variable {T : Wd}
theorem cpx_of {x : Str} {st : Stmt} {N ps : List Str} {k : Nat} {S : PSx} (df : De T x ps st) (sc : FnScope N ps (defScope st)) (len : ∀ ds Q E, S ds Q E → ds.length = ps.length)
    (hbody : N.Nodup → ∀ (f : Addr) (cdv : Value) (A : Around) (outer : List Env) (s : Shared) (H : Hp) (E0 : XK), Room k (cXx T N x st f cdv A outer s H E0).A →
      ∀ m ds (Q : D → Cs → Prop) (E : Xn → Cs → Prop), TkD (cXx T N x st f cdv A outer s H E0) (mdOf m [] H E) → S ds (fun d => Q d []) (fun x => E x []) → XB (cXx T N x st f cdv A outer s H E0) (mdOf m [] H E) (defBody st) ⟨startD N ds, []⟩ (poOf Q)) : Cpx T x (k + 1) S :=
  ⟨ps, calx_of df sc (fun ds c Q E h => len ds _ _ h.2) fun f cdv A outer s H E0 hr m ds c Q E tk h => by
    obtain ⟨rfl, h⟩ := h
    exact hbody sc.nd f cdv A outer s H E0 hr m ds Q E tk h⟩
end
section
variable {X : Cx} {μ : Md} {Γ : En} {Q : QE} {k n : Nat} {x : Str} {p pos : Pos} {e : Expr} {es : List Expr}
theorem asks_px {S : PSx} {ds : List D} (h : ∀ (Qc : D → Prop) (Ec : Xn → Prop), (∀ d, Q d Γ → Qc d) → (∀ x, μ.E x Γ → Ec x) → S ds Qc Ec) : Asks μ (pX S) Q ds Γ :=
  ⟨[], Γ.c, rfl, fun Qc Ec kq ke => ⟨rfl, h _ _ (fun d hq => kq d [] hq) fun x hx => ke x [] hx⟩⟩
/-- f(e, ..), pure, which may raise -/
theorem xe_cpx {S : PSx} (C : Cpx (wdX X) x k S) (tk : TkD X μ) (hr : Room n X.A) (hkn : k ≤ n) (hg : Gl X x) (h : XA X μ (e :: es) Γ fun ds Γ1 => ∀ (Qc : D → Prop) (Ec : Xn → Prop), (∀ d, Q d Γ1 → Qc d) → (∀ x, μ.E x Γ1 → Ec x) → S ds Qc Ec) (hdb : (x == ("__debug__" : Str)) = false := by decide)
    (he : starEach (e :: es) X.env = (false, eval e X.env) :: starEach es X.env := by rfl) (hpl : (backTo pos (starEach es X.env)).any (·.1) = false := by rfl) : XE X μ (.Call (.Name x p) (e :: es) [] pos) Γ Q := by
  obtain ⟨ps, C⟩ := C
  refine xe_callX C tk (hr.mono hkn) hg (PA.imp h fun σ H q ⟨R, k⟩ => ⟨R, fun vs H' ds Γ' s' f' R' r' hq => k vs H' ds Γ' s' f' R' r' (asks_px hq)⟩) hdb he hpl
/-- a def that raises nothing, called in the body of a try: nothing else is wanted -/
theorem tkd_none (hE : ∀ x Γ, ¬ μ.E x Γ) : TkD X μ := fun _ _ ⟨_, _, _, _, _, _, _, _, _, _, _, _, _, _, _, _, _, _, _, _, hw⟩ => absurd hw (hE _ _)
end
end Pdl
namespace Pdl
open PySem L2 PyProof.Rows
section
variable {X : Cx} {CX : CXT} {k : Nat} {f C : Addr} {fd : FuncData} {ps : List Str} {sp : Sp} {E : L2.St → XK} {m : Str} {pos apos : Pos} {o e : Expr} {es : List Expr} {ta : TE} {t : TA}
def tMethS (C : Addr) (m : Str) (sp : Sp) (E : L2.St → XK) (ta : TE) (t : TA) : TE := fun σ H Q => ta σ H fun x H1 => ∃ (a dx : Addr) (fs : List (Str × V)), x = .ref a ∧ H1 a = some (.ins C dx fs) ∧ fs.lookup m = none ∧ t σ H1 fun vs H2 => sp (.ref a :: vs) H2 Q (E σ)
theorem pe_methS {pl : Sem Bool} (he : PE X o ta) (c : Cls X.K C) (hm : Meth X.K C m f) (F : FnOk X.prog X.w X.K X.mg X.base CX k f fd ps sp) (hr : Room k X.A) (hb : Binds X.K fd ps []) (hx : ∀ σ, PassesAt CX X σ (E σ)) (ha : PA X (e :: es) t)
    (hst : starEach (e :: es) X.env = (false, eval e X.env) :: starEach es X.env := by rfl) (hpl : (backTo pos (starEach es X.env)).any (·.1) = false := by rfl)
    (ht : eval (.Call (.Attribute o m apos) (e :: es) [] pos) X.env = (do
      let ov ← eval o X.env
      standAt apos.atName
      let (f, first) ← holding [ov] (getMethod ov m pl)
      callWith pos f first (backTo pos (starEach (e :: es) X.env)) (backToKw pos (keywordEach [] X.env))) := by rfl) :
    PE X (.Call (.Attribute o m apos) (e :: es) [] pos) (tMethS C m sp E ta t) := by
  refine ⟨fun pins s σ H Q I h => PySem.W.methodCall_KW (pl := pl) (thn (he.run pins s σ H _ I h) fun u s1 ⟨x, H1, I1, rx, a, dx, fs, ex, ea, l, q⟩ => ?_) ht⟩
  subst ex
  obtain rfl : u = Value.ref a := rx
  exact getmeth_ok I1 ea c hm l (PySem.W.callWith_K (first := [.ref a]) (h₀ := X.base) I.ok.mod.kin hm.kp (thn (ha.run pos pins s1 σ H1 _ I1 q) fun us s2 ⟨vs, H2, I2, r, q2⟩ => ⟨I2.kIn, run_fnS (us := .ref a :: us) (vs := .ref a :: vs) F hr hb (hx σ) I2 (.cons rfl r) q2⟩) hst hpl)
end
def MethDX (P : Program) (w : World) (K : PySem.W.Frag) (mg : Str → Option Value) (base : Heap) (C : Addr) (f : Str) (k : Nat) (S : SpD) : Prop :=
  ∃ (g : Addr) (fd : FuncData) (ps : List Str), Cls K C ∧ Meth K C f g ∧ FnOk P w K mg base (L2.CX P w) k g fd ps (spD K S) ∧ Binds K fd ps []
section
variable {X : Cx} {μ : Md} {Γ : En} {Q : QE} {pos apos : Pos} {o e : Expr} {es : List Expr}
theorem xe_methX {pl : Sem Bool} {k : Nat} {C : Addr} {f : Str} {S : SpD} (M : MethDX X.prog X.w X.K X.mg X.base C f k S) (tk : TkD X μ) (hr : Room k X.A) (h : XE X μ o Γ fun z Γ1 => ∃ fs, z = .ins C fs ∧ fs.lookup f = none ∧ XA X μ (e :: es) Γ1 fun ds Γ2 => Asks μ S Q (.ins C fs :: ds) Γ2)
    (hst : starEach (e :: es) X.env = (false, eval e X.env) :: starEach es X.env := by rfl) (hpl : (backTo pos (starEach es X.env)).any (·.1) = false := by rfl)
    (ht : eval (.Call (.Attribute o f apos) (e :: es) [] pos) X.env = (do
      let ov ← eval o X.env
      standAt apos.atName
      let (f, first) ← holding [ov] (getMethod ov f pl)
      callWith pos f first (backTo pos (starEach (e :: es) X.env)) (backToKw pos (keywordEach [] X.env))) := by rfl) : XE X μ (.Call (.Attribute o f apos) (e :: es) [] pos) Γ Q := by
  obtain ⟨g, fd, ps, cl, mt, F, bd⟩ := M
  refine PE.imp pe_u fun σ H q ⟨R, k⟩ => ⟨_, pe_methS (E := fun σ => wD X.K μ σ) h cl mt F hr bd (fun σ => passAt tk σ) pa_u hst hpl ht, R, fun v H1 z Γ1 s1 f1 R1 r1 ⟨fs, hz, hl, hs⟩ => ?_⟩
  subst hz
  cases r1 with
  | @ins a _ dx fv _ g1 g2 =>
    refine ⟨a, dx, fv, rfl, hid_sub _ _ _ _ g1, (RpF.lookup g2).2 hl, _, hs, R1, fun vs H2 ds Γ2 s2 f2 R2 r2 ha => ?_⟩
    exact asks_sp R2 (.cons ((Rp.ins g1 g2).mono f2.sub) r2) ha fun v H3 d Γ3 s3 f3 R3 r3 hq => k v H3 d Γ3 ((s3.trans s2).trans s1) ((f1.trans f2).trans f3) R3 r3 hq
abbrev MeX (T : Wd) (C : Addr) (f : Str) (k : Nat) (S : PSx) : Prop := MethDX T.P T.w T.K T.mg T.base C f k (pX S)
end
end Pdl
namespace Pdl
open PySem L2 PyProof.Rows
def PurI (N : Nat) (xs : List D) : Prop := ∃ a b c : Int, xs = [.int a, .int b, .int c] ∧ 0 ≤ a ∧ 0 ≤ b ∧ b < 4294967296 ∧ 0 ≤ c ∧ c + N ≤ 1152921504606846976
theorem PurI.le {N N' : Nat} {xs : List D} (h : PurI N xs) (hn : N' ≤ N) : PurI N' xs := by
  obtain ⟨a, b, c, e, h1, h2, h3, h4, h5⟩ := h
  exact ⟨a, b, c, e, h1, h2, h3, h4, by omega⟩
/-- promises with a purse: at most so many draws -/
def purS (n : Nat) (S : PSp) : SpD := fun ds cs Q _ => ∃ J xs N ds', ds = .ref J :: ds' ∧ cs = [(J, .lst xs)] ∧ PurI (N + n) xs ∧ S ds' fun d => ∀ xs', PurI N xs' → Q d [(J, .lst xs')]
abbrev Cu (T : Wd) (x : Str) (k n : Nat) (S : PSp) : Prop := Ca T x k (purS n S)
section
variable {X : Cx} {μ : Md} {Γ : En} {Q : QE} {k n c : Nat} {x : Str} {p pos apos : Pos} {e o : Expr} {es : List Expr}
theorem asks_u {S : PSp} {J : Addr} {xs : List D} {N : Nat} {cs : Cs} {ds : List D} (hc : Γ.c = (J, .lst xs) :: cs) (hp : PurI (N + c) xs) (h : ∀ Qc : D → Prop, (∀ d, (∀ xs', PurI N xs' → Q d ⟨Γ.s, (J, .lst xs') :: cs⟩) → Qc d) → S ds Qc) : Asks μ (purS c S) Q (.ref J :: ds) Γ :=
  ⟨[(J, .lst xs)], cs, hc, fun Qc Ec kq _ => ⟨J, xs, N, ds, rfl, rfl, hp, h _ fun d hq xs' hp' => kq d [(J, .lst xs')] (hq xs' hp')⟩⟩
/-- what a call with a purse asks -/
def AsksU (c : Nat) (S : PSp) (Q : QE) : List D → En → Prop := fun ds Γ1 => ∃ J xs N cs ds', ds = .ref J :: ds' ∧ Γ1.c = (J, .lst xs) :: cs ∧ PurI (N + c) xs ∧ ∀ Qc : D → Prop, (∀ d, (∀ xs', PurI N xs' → Q d ⟨Γ1.s, (J, .lst xs') :: cs⟩) → Qc d) → S ds' Qc
/-- f(purse, e, ..) -/
theorem xe_cu {S : PSp} (C : Cu (wdX X) x k c S) (hr : Room n X.A) (hkn : k ≤ n) (hg : Gl X x) (h : XA X μ (e :: es) Γ (AsksU c S Q)) (hdb : (x == ("__debug__" : Str)) = false := by decide)
    (he : starEach (e :: es) X.env = (false, eval e X.env) :: starEach es X.env := by rfl) (hpl : (backTo pos (starEach es X.env)).any (·.1) = false := by rfl) : XE X μ (.Call (.Name x p) (e :: es) [] pos) Γ Q := by
  obtain ⟨ps, C⟩ := C
  refine xe_call C (hr.mono hkn) hg (PA.imp h fun σ H q ⟨R, k⟩ => ⟨R, fun vs H' ds Γ' s' f' R' r' hq => k vs H' ds Γ' s' f' R' r' ?_⟩) hdb he hpl
  obtain ⟨J, xs, N, cs, ds', rfl, hc, hp, hq⟩ := hq
  exact asks_u hc hp hq
theorem xe_dct0 (h : Q (.dct []) Γ) : XE X μ (.Dict [] [] pos) Γ Q :=
  PE.imp pe_dnewK fun σ H q ⟨R, k⟩ => fun p hp => by
    have hf := R.fresh hp
    have e := sub_upd (o := .dK []) hp
    exact k _ _ _ Γ rfl (Fw.of_sub e) (R.more e) (.dct (hid_upd hf) .nil) h
theorem cr_tuple_str (hc : X.calm = true) : CallR X (.type "tuple") (fun xs H Q => ∃ l : List Nat, xs = [.str (S l)] ∧ l.length ≤ sizeLine ∧ ∀ p, H p = none → Q (.ref p) (upd H p (.tup (((ch l).map S).map V.str)))) := by
  intro pins s σ H xs us Q I r h
  obtain ⟨l, rfl, hz, q⟩ := h
  obtain ⟨u, rfl, ru⟩ := vals1 r
  obtain ⟨t, rfl⟩ := ru
  refine call_tuple_str (I.ok.hd hc) (S l) t (fun h' tk acc hk hi => ?_) (by show l.toArray.size ≤ _; simpa using hz)
  have I2 : Inv X pins σ H { s with heap := h', toks := tk } := I.kept hk
  refine ⟨.ref h'.objs.size, upd H h'.objs.size (.tup (((ch l).map S).map V.str)), I2.laid (t' := tk) (fun c o e => Heap.get?_push_of_some _ e) (Nat.le_refl _) (show ObjOk X.prog X.w _ _ _ (.tup (((ch l).map S).map V.str)) from ⟨by simp [ch]; exact hz, acc.toList, ?_, ?_⟩), rfl, q _ (I2.hok.fresh (Nat.le_refl _))⟩
  · refine vals_of_idx _ _ (by simp [ch]; have := hi.1; simpa [S] using this) fun j u hj => ?_
    obtain ⟨c, t', hc, rfl⟩ := hi.2 j u (by rw [← Array.getElem?_toList]; exact hj)
    refine ⟨.str (S [c]), ?_, ⟨_, rfl⟩⟩
    have hc : l[j]? = some c := by
      have : l.toArray[j]? = some c := hc
      simpa using this
    simp [ch, hc]
  · rw [Array.toArray_toList]; exact IsTup.new _ _
theorem cd_tuple_str {l : List Nat} (hl : l.length ≤ 100000) (hc : X.calm = true := by rfl) : CallD X (.type "tuple") [.str (S l)] (.tup (SL (ch l))) := .of (cr_tuple_str hc) fun vs H q m hm h1 k => by
  obtain ⟨v, rfl, r⟩ := h1.one
  cases r
  refine ⟨l, rfl, Nat.le_trans hl (by decide), fun p hp => ?_⟩
  refine k _ _ (sub_upd hp) (.tup (.of (hid_upd (fresh_m hm hp))) ?_)
  rw [SL_strs]
  exact RpA.strs _
theorem cd_list_str {l : List Nat} (hl : l.length ≤ 100000) (hc : X.calm = true := by rfl) : CallD X (.type "list") [.str (S l)] (.lst (SL (ch l))) := .of (cr_list_str hc) fun vs H q m hm h1 k => by
  obtain ⟨v, rfl, r⟩ := h1.one
  cases r
  refine ⟨l, rfl, Nat.le_trans hl (by decide), fun p hp => ?_⟩
  refine k _ _ (sub_upd hp) (.lst (.of (hid_upd (fresh_m hm hp))) ?_)
  rw [SL_strs]
  exact RpA.strs _
/-- data that is no text -/
inductive NoStr : D → Prop
  | non : NoStr .non
  | bl {b : Bool} : NoStr (.bl b)
  | int {i : Int} : NoStr (.int i)
  | lst {xs : List D} : NoStr (.lst xs)
  | tup {xs : List D} : NoStr (.tup xs)
  | dct {xs : List (Key × D)} : NoStr (.dct xs)
theorem isi_nostr {d : D} (h : NoStr d) : CallD X (.builtin "isinstance") [d, .ty "str"] (.bl false) := by
  cases h with
  | non => exact cd_isi .non .ty (kit_ty (by decide +kernel))
  | bl => exact cd_isi .bl .ty (kit_ty (by decide +kernel))
  | int => exact cd_isi .int .ty (kit_ty (by decide +kernel))
  | lst => exact cd_isi .lst .ty (kit_ty (by decide +kernel))
  | tup => exact cd_isi .tup .ty (kit_ty (by decide +kernel))
  | dct => exact cd_isi .dct .ty (kit_ty (by decide +kernel))
end
end Pdl
namespace Pdl
open PySem L2 PyProof.Rows
/-- a paper: a text of some length, or no text -/
def CertOk (n : Nat) (d : D) : Prop := (∃ row, d = .str (S row) ∧ row.length ≤ n) ∨ NoStr d
theorem CertOk.le {n n' : Nat} {d : D} (h : CertOk n d) (hn : n ≤ n') : CertOk n' d := by
  rcases h with ⟨row, e, hl⟩ | h
  · exact .inl ⟨row, e, by omega⟩
  · exact .inr h
structure RndI (as cur : List (List Nat)) (f : List Nat) : Prop where
  row : Row as f cur
  nd : f.Nodup
  fit : Fit cur as fun x => if x ∈ f then 0 else 1
theorem RndI.start {as : List (List Nat)} : RndI as as [] := ⟨.nil, List.nodup_nil, fun i a b o h1 h2 => by
  rw [h1] at h2
  cases h2
  simp⟩
theorem RndI.sub {as cur : List (List Nat)} {f : List Nat} (ha : Arrs as) (h : RndI as cur f) : ∀ x ∈ f, x ∈ us as.flatten := fun x hx => mem_us.mpr (by
  have : ∀ {as cur : List (List Nat)} {f : List Nat}, Row as f cur → ∀ x ∈ f, x ∈ as.flatten := fun hr => by
    induction hr with
    | nil => intro x hx; cases hx
    | cons hp hg h ih =>
      intro x hx
      rcases List.mem_cons.mp hx with e | e
      · subst e; exact hp
      · exact mem_exch_flat.mp (ih x e)
  exact this h.row x hx)
theorem RndI.same {as cur : List (List Nat)} {f : List Nat} (ha : Arrs as) (h : RndI as cur f) : Arrs cur ∧ SameW cur as ∧ us cur.flatten = us as.flatten := by
  have hc := h.row.arrs ha
  obtain ⟨t1, t2, t3, t4⟩ := h.row.facts ha.two ha.rk
  refine ⟨hc, t3.symm, ?_⟩
  rw [← us_pr2 t1, ← us_pr2 ha.two, show as.map pr2 = cur.map pr2 from t3]
theorem RndI.ex {as cur : List (List Nat)} {f : List Nat} (ha : Arrs as) (h : RndI as cur f) (hl : f.length < (us as.flatten).length) : ∃ p ∈ us as.flatten, givesB cur p = true ∧ p ∉ f := by
  obtain ⟨hc, hs, hu⟩ := h.same ha
  have : ¬ ∀ x ∈ us as.flatten, x ∈ f := fun z => by
    have := nodup_len (us_nodup as.flatten) z
    omega
  obtain ⟨p, hp, hpf⟩ : ∃ p ∈ us as.flatten, p ∉ f := by
    refine Decidable.byContradiction fun hn => this fun x hx => Decidable.byContradiction fun hf => hn ⟨x, hx, hf⟩
  obtain ⟨q, hq1, hq2, hq3⟩ := h.fit.giver hc.two hc.rk hs (p := p) (by rw [← hu] at hp; exact mem_us.mp hp) (by rw [if_neg hpf]; decide)
  refine ⟨q, by rw [← hu]; exact mem_us.mpr hq1, (givesB_iff hc.two).mpr hq3, fun z => ?_⟩
  rw [if_pos z] at hq2
  omega
theorem RndI.next {as cur : List (List Nat)} {f : List Nat} {p : Nat} (ha : Arrs as) (h : RndI as cur f) (hp : p ∈ us as.flatten) (hg : givesB cur p = true) (hf : p ∉ f) : RndI as (exch cur p) (f ++ [p]) := by
  obtain ⟨hc, hs, hu⟩ := h.same ha
  have hg := (givesB_iff hc.two).mp hg
  refine ⟨h.row.snoc (by rw [← hu] at hp; exact mem_us.mp hp) hg, ?_, ?_⟩
  · rw [List.nodup_append]
    exact ⟨h.nd, by simp, fun a ha b hb e => hf (by rw [List.mem_singleton.mp hb] at e; rw [← e]; exact ha)⟩
  · have := h.fit.turn hc.two ha.two hs hc.rk.noLoop hg
    refine fun i a b o h1 h2 => ?_
    have e := this i a b o h1 h2
    rw [← e]
    have key : ∀ x, (if x ∈ f ++ [p] then (0 : Int) else 1) = if x = p then (if x ∈ f then (0 : Int) else 1) - 1 else if x ∈ f then 0 else 1 := fun x => by
      by_cases hx : x = p
      · subst hx
        rw [if_pos (by simp), if_pos rfl, if_neg hf]
        rfl
      · rw [if_neg hx]
        simp [hx]
    show (if a ∈ f ++ [p] then (0 : Int) else 1) - (if b ∈ f ++ [p] then (0 : Int) else 1) = _
    rw [key, key]
theorem RndI.done {as cur : List (List Nat)} {f : List Nat} (ha : Arrs as) (h : RndI as cur f) (hl : (us as.flatten).length ≤ f.length) : cur = as := by
  obtain ⟨hc, hs, hu⟩ := h.same ha
  have hall : ∀ x ∈ us as.flatten, x ∈ f := fun x hx => Decidable.byContradiction fun hn => by
    have h1 : (x :: f).Nodup := List.nodup_cons.mpr ⟨hn, h.nd⟩
    have h2 := nodup_len h1 (m := us as.flatten) fun y hy => by
      rcases List.mem_cons.mp hy with e | e
      · rw [e]; exact hx
      · exact h.sub ha y e
    simp at h2
    omega
  refine h.fit.zero hc.two hs fun x hx => ?_
  rw [if_pos (hall x (by rw [← hu]; exact mem_us.mpr hx))]
end Pdl
namespace Pdl
open PySem L2 PyProof.Rows PySem.Spec
abbrev TabL := List (List Nat × Int)
def entI (e : DictEntry) : Option (Str × Int) := match e.key, e.val with
  | .str x _, .int i _ => some (x, i)
  | _, _ => none
def tabE (kvs : TabL) : List (Option (Str × Int)) := kvs.map fun p => some (S p.1, p.2)
structure TabI (K : PySem.W.Frag) (w : World) (a : Addr) (kvs : TabL) : Prop where
  ex : ∃ es n, KDict K w a es n ∧ es.toList.map entI = tabE kvs
def tabV (kvs : TabL) (k : List Nat) (d : D) : D := match kvs.lookup k with
  | some i => .int i
  | none => d
theorem tab_find {z : List Nat} : ∀ {l : List DictEntry} {kvs : TabL}, l.map entI = tabE kvs → (∀ i, kvs.lookup z = some i → ∃ e t, l.find? (fun d => Value.isStrOf (S z) d.key) = some e ∧ e.val = .int i t) ∧ (kvs.lookup z = none → l.find? (fun d => Value.isStrOf (S z) d.key) = none)
  | [], [], _ => ⟨fun i h => (by cases h), fun _ => rfl⟩
  | [], _ :: _, h => by cases h
  | _ :: _, [], h => by cases h
  | e :: l, (k, i) :: kvs, h => by
    have h1 : entI e :: l.map entI = some (S k, i) :: tabE kvs := h
    injection h1 with h2 h3
    obtain ⟨i1, i2⟩ := tab_find (z := z) h3
    obtain ⟨x, t, i', u, ek, ev, ex, ei⟩ : ∃ x t i' u, e.key = .str x t ∧ e.val = .int i' u ∧ x = S k ∧ i' = i := by
      unfold entI at h2
      split at h2
      · rename_i x t i' u q1 q2
        cases h2
        exact ⟨_, _, _, _, q1, q2, rfl, rfl⟩
      · cases h2
    subst ex; subst ei
    rw [List.lookup_cons, List.find?_cons]
    have hb : Value.isStrOf (S z) e.key = (z == k) := by
      rw [ek]
      show (S k == S z) = (z == k)
      by_cases hzk : z = k
      · subst hzk; simp
      · have : ¬ S k = S z := fun q => hzk (S_inj q).symm
        rw [beq_eq_false_iff_ne.mpr this, beq_eq_false_iff_ne.mpr hzk]
    rw [hb]
    cases hzk : (z == k) with
    | true => exact ⟨fun j hj => (by cases hj; exact ⟨e, u, rfl, ev⟩), fun hj => by cases hj⟩
    | false => exact ⟨i1, i2⟩
section
variable {X : Cx} {μ : Md} {Γ : En} {Q : QE} {x : Str} {a : Addr} {kvs : TabL} {p apos cpos : Pos} {e f : Expr} {te tf : TE}
def tGetI (kvs : TabL) (te tf : TE) : TE := fun σ H Q => te σ H fun y H1 => tf σ H1 fun z H2 => ∃ k : List Nat, y = .str (S k) ∧ Q (match kvs.lookup k with | some i => .int i | none => z) H2
theorem pe_getI (T : TabI X.K X.w a kvs) (hm : X.mg x = some (.ref a)) (hg : Gl X x) (he : PE X e te) (hf : PE X f tf) (m : M2 X (.Name x p) "get" apos e f cpos) (hdb : (x == ("__debug__" : Str)) = false) :
    PE X (.Call (.Attribute (.Name x p) "get" apos) [e, f] [] cpos) (tGetI kvs te tf) := by
  obtain ⟨es, n, D, hent⟩ := T.ex
  refine ⟨fun pins s σ H Q I h => ?_⟩
  have mp : ∀ {s' : Shared}, X.K.In s'.heap → s'.heap.MapOf (strKind X.prog X.w) a (fun k => findBy Value.isStrOf es k) := fun kin => PySem.W.mapOf_K (prog := X.prog) (w := X.w) kin D.at_ D.lit
  refine wpAny_Call_method m.base m.few m.line PySem.F.plainAttrs_dict PySem.F.slot_dict_get PySem.F.type_dict_get (ld_glob I hg hm ?_ hdb)
  refine ⟨(mp I.kIn).typeIs, fun b hb => ?_, ?_⟩
  · cases hb
    exact ⟨_, I.kIn _ _ D.at_, rfl⟩
  rw [m.trees]
  refine Calls.callWith_builtin rfl (Calls.evalArgs_plain (Calls.spliced_cons (thn (he.run pins s σ H _ I h) fun iv s2 ⟨y, H2, I2, ry, q2⟩ =>
    Calls.spliced_cons (thn (hf.run pins s2 σ H2 _ I2 q2) fun fv s3 ⟨z, H3, I3, rz, k, ey, q3⟩ => Calls.spliced_nil ?_))))
  subst ey
  obtain ⟨t, rfl⟩ := ry
  refine call_meetsIn PySem.F.slot_dict_get (mp I3.kIn).typeIs PySem.F.entry_dict_get (PySem.F.args_dict_get_3 _ _ _) (meets_dict_get_default (strKind X.prog X.w) a (strKind_is X.prog X.w (S k) t) D.low fv) ⟨_, mp I3.kIn, ?_⟩
  obtain ⟨f1, f2⟩ := tab_find (z := k) hent
  have ef : findBy Value.isStrOf es (S k) = (es.toList.find? fun d => Value.isStrOf (S k) d.key).map (·.val) := by
    obtain ⟨l⟩ := es
    simp [findBy]
  cases hl : kvs.lookup k with
  | some i =>
    rw [hl] at q3
    obtain ⟨e', t', h1, h2⟩ := f1 i hl
    refine ⟨.int i, H3, I3.tok _, ?_, q3⟩
    rw [ef, h1]
    exact ⟨t', h2⟩
  | none =>
    rw [hl] at q3
    refine ⟨z, H3, I3.tok _, ?_, q3⟩
    rw [ef, f2 hl]
    exact rz
/-- the module's table under x -/
def GT (T : Wd) (x : Str) (kvs : TabL) : Prop := ∃ a, T.mg x = some (.ref a) ∧ TabI T.K T.w a kvs
/-- TABLE.get(e, f) -/
theorem xe_getI (T : GT (wdX X) x kvs) (hg : Gl X x) (h : XE X μ e Γ fun y Γ1 => XE X μ f Γ1 fun z Γ2 => ∃ k : List Nat, y = .str (S k) ∧ Q (tabV kvs k z) Γ2) (hdb : (x == ("__debug__" : Str)) = false := by decide)
    (m : M2 X (.Name x p) "get" apos e f cpos := by exact ⟨rfl, rfl, rfl, rfl⟩) : XE X μ (.Call (.Attribute (.Name x p) "get" apos) [e, f] [] cpos) Γ Q := by
  obtain ⟨a, hm, T⟩ := T
  refine PE.imp (pe_getI T hm hg h pe_u m hdb) fun σ H q ⟨R, k⟩ => ?_
  refine ⟨R, fun y H2 dy Γ2 s2 f2 R2 r2 hf => ⟨_, hf, R2, fun z H3 dz Γ3 s3 f3 R3 r3 ⟨kk, hy, hq⟩ => ?_⟩⟩
  subst hy
  cases r2
  refine ⟨kk, rfl, ?_⟩
  unfold tabV at hq
  cases hl : kvs.lookup kk with
  | some i =>
    rw [hl] at hq
    exact k _ H3 _ _ (s3.trans s2) (f2.trans f3) R3 (.int i) hq
  | none =>
    rw [hl] at hq
    exact k _ H3 _ _ (s3.trans s2) (f2.trans f3) R3 r3 hq
end
abbrev TabX : Type := (PySem.W.Frag → Addr) × List Str
abbrev AlY : Type := AlX × List (Option (List (Option (Str × Int))))
def obsY (fs : List FB) (ds : List DefX) (ts : List TabX) (K : PySem.W.Frag) : AlY := (obsX fs ds K, ts.map fun t => He.dicW K (t.1 K))
def dueY (ds : List DefX) (ts : List TabX) (w : World) : AlY := (dueX ds, ts.map fun t => some (He.keysIn w.params t.2))
def SaysY (fs : List FB) (ds : List DefX) (ts : List TabX) (w : World) (K : PySem.W.Frag) : Prop := obsY fs ds ts K = dueY ds ts w
section
variable {fs : List FB} {ds : List DefX} {ts : List TabX} {w : World} {K : PySem.W.Frag}
theorem SaysY.tab (c : SaysY fs ds ts w K) (i : Nat) {t : TabX} (h : ts[i]? = some t := by rfl) : ∃ es n, KDict K w (t.1 K) es n := by
  have e : ts.map (fun t => He.dicW K (t.1 K)) = ts.map fun t => some (He.keysIn w.params t.2) := congrArg (fun z : AlY => z.2) c
  have e2 : (ts.map fun t => He.dicW K (t.1 K))[i]? = (ts.map fun t => some (He.keysIn w.params t.2))[i]? := by rw [e]
  rw [List.getElem?_map, List.getElem?_map, h] at e2
  exact He.dicW_ok (Option.some.inj e2)
end
theorem od_isB {X : Cx} {a b : Bool} : OpD X (compareOp .Is) (.bl a) (.bl b) (.bl (decide (a = b))) := .of op_isBl fun x y H q m _ h1 h2 k => by
  cases h1; cases h2
  exact ⟨a, b, rfl, rfl, k _ H (Sub.refl H) (.bl _)⟩
end Pdl
namespace Pdl
open PySem L2 PyProof.Rows
def xT : List (List Nat) := [[97, 98], [97, 100], [98, 99], [99, 100]]
end Pdl
namespace Pdl
open PySem L2 PyProof.Rows
/-- kinds of things that are no own ones -/
inductive OthV (K : PySem.W.Frag) (H : Hp) : V → String → Prop
  | non : OthV K H .non "NoneType"
  | int (i : Int) : OthV K H (.int i) "int"
  | str (x : Str) : OthV K H (.str x) "str"
  | lst {a : Addr} {xs : List V} : SqL K H a xs → OthV K H (.ref a) "list"
  | tup {a : Addr} {xs : List V} : H a = some (.tup xs) → OthV K H (.ref a) "tuple"
  | dct {a : Addr} {kvs : List (Key × V)} : H a = some (.dK kvs) → OthV K H (.ref a) "dict"
def kinds : List String := ["NoneType", "int", "str", "list", "tuple", "dict"]
theorem OthV.mem {K : PySem.W.Frag} {H : Hp} {v : V} {T : String} (h : OthV K H v T) : T ∈ kinds := by cases h <;> simp [kinds]
/-- data of another kind -/
inductive OthD : D → String → Prop
  | non : OthD .non "NoneType"
  | int (i : Int) : OthD (.int i) "int"
  | str (x : Str) : OthD (.str x) "str"
  | lst (xs : List D) : OthD (.lst xs) "list"
  | tup (xs : List D) : OthD (.tup xs) "tuple"
  | dct (kvs : List (Key × D)) : OthD (.dct kvs) "dict"
theorem OthV.sub {K : PySem.W.Frag} {G G' : Hp} {v : V} {T : String} (e : Sub G G') (h : OthV K G v T) : OthV K G' v T := by
  cases h with
  | non => exact .non
  | int i => exact .int i
  | str x => exact .str x
  | lst s => exact .lst (e.sqL s)
  | tup s => exact .tup (e _ _ s)
  | dct s => exact .dct (e _ _ s)
end Pdl
namespace Pdl
open PySem L2 PyProof.Rows
def gU {α : Type} (ix : List Nat) (us ws : List α) : List α := us ++ ix.filterMap (ws[·]?)
/-- how a def with one thing ahead (the object, the class) binds names -/
def KbX (st : Stmt) (ps ks : List Str) (ix : List Nat) : Prop := ∀ (x qual : Str) (kV doc pm : Value) (an : Option Addr) (cdv ct u : Value) (ws : List Value), ws.length = ks.length →
  bindArgs (PySem.W.fnOf x qual (defArgs st) (defBody st) (defScope st) .none kV doc pm an cdv ct) ⟨[u], ks.zip ws⟩ = pure (ps.zip (u :: ix.filterMap (ws[·]?)))
theorem kbn_of {K : PySem.W.Frag} {x qual : Str} {st : Stmt} {g : Addr} {fd : FuncData} {ps ks : List Str} {ix : List Nat} (F : Fun K x qual st g fd) (h : KbX st ps ks ix) : KBn K fd ps 1 ks (gU ix) (gU ix) := by
  obtain ⟨oc, od, kV, doc, pm, an, cdv, ct, osl, rfl, lk, hcd⟩ := F.ex
  refine ⟨fun s us ws _ l1 l2 => ?_, fun r1 r2 => r1.append (vals_pick r2 ix)⟩
  match us, l1 with
  | [u], _ => exact .of_eq (h x qual kV doc pm an cdv ct u ws l2)
def MkK (T : Wd) (x : Str) (C : Addr) (k : Nat) (ks : List Str) (ix : List Nat) (S : ISp) : Prop :=
  ∃ (f : Addr) (fd : FuncData) (ps : List Str), T.mg x = some (.ref C) ∧ Mk T.K C f ∧ FnOk T.P T.w T.K T.mg T.base CX0 k f fd ps (spD T.K (iS C S)) ∧ KBn T.K fd ps 1 ks (gU ix) (gU ix)
def MeK (T : Wd) (C : Addr) (f : Str) (k : Nat) (ks : List Str) (ix : List Nat) (S : PSp) : Prop :=
  ∃ (g : Addr) (fd : FuncData) (ps : List Str), Cls T.K C ∧ Meth T.K C f g ∧ FnOk T.P T.w T.K T.mg T.base CX0 k g fd ps (spD T.K (pS S)) ∧ KBn T.K fd ps 1 ks (gU ix) (gU ix)
def CmK (T : Wd) (C : Addr) (f : Str) (k : Nat) (ks : List Str) (ix : List Nat) (S : PSp) : Prop :=
  ∃ (mc : Value) (p g : Addr) (fd : FuncData) (ps : List Str), ClX.CRead T.K C mc ∧ ClX.CMet T.K C mc f p g ∧ FnOk T.P T.w T.K T.mg T.base CX0 k g fd ps (spD T.K (pS S)) ∧ KBn T.K fd ps 1 ks (gU ix) (gU ix)
theorem fst_of {A B : Prop} (h : A ∧ B) : A := h.1
theorem snd_of {A B : Prop} (h : A ∧ B) : B := h.2
section
variable {X : Cx} {μ : Md} {Γ Γ' : En} {Q : QE} {a b c e o : Expr} {es : List Expr} {kws : List Keyword} {pos apos cpos p : Pos} {k n : Nat} {xn f : Str} {C : Addr} {ks : List Str} {ix : List Nat}
theorem xe_mkw {S : ISp} (M : MkK (wdX X) xn C k ks ix S) (hr : Room n X.A) (hkn : k + 1 ≤ n) (hg : Gl X xn)
    (h : XKw X μ kws Γ fun ds Γ1 => ds.length = ks.length ∧ ∀ Qc : List (Str × D) → Prop, (∀ fs, Q (.ins C fs) Γ1 → Qc fs) → S (ix.filterMap (ds[·]?)) Qc)
    (hks : (backToKw pos (keywordEach kws X.env)).filterMap (·.1) = ks := by rfl) (hall : (backToKw pos (keywordEach kws X.env)).all (·.1.isSome) = true := by rfl)
    (hdb : (xn == ("__debug__" : Str)) = false := by decide) (hpl : ((backTo pos (starEach [] X.env)).any (·.1) || (backToKw pos (keywordEach kws X.env)).any (·.1.isNone)) = false := by rfl) : XE X μ (.Call (.Name xn p) [] kws pos) Γ Q := by
  obtain ⟨f, fd, ps, hm, mk, F, bd⟩ := M
  refine PE.imp pe_u fun σ H q ⟨R, k⟩ => ⟨_, L2.pe_makeK0 (E := wD X.K μ σ) mk F (hr.mono hkn) hg hm bd pass0' h hall hks hdb hpl, R, fun vs H1 ds Γ1 s1 f1 R1 r1 ⟨hl, hs⟩ => ⟨rfl, r1.length.trans hl, fun x dx hx hdx hne => ?_⟩⟩
  show spD X.K (iS C S) (.ref x :: ([] ++ ix.filterMap (vs[·]?))) _ _ (wD X.K μ σ)
  rw [List.nil_append]
  obtain ⟨sl, cs⟩ := Γ1
  obtain ⟨R2, f2⟩ := R1.newF (C := C) hx hdx hne
  refine asks_sp (Q := fun d Γ' => d = .non ∧ ∃ fs, Γ' = ⟨sl, (x, .ins C fs) :: cs⟩ ∧ Q (.ins C fs) ⟨sl, cs⟩) R2 (.cons (.ref x) ((r1.pick ix).mono f2.sub)) ?_ fun v H3 d Γ3 s3 f3 R3 r3 ⟨hd, fs, hG, hq⟩ => ?_
  · refine ⟨[(x, .ins C [])], cs, rfl, fun Qc Ec kq _ => ⟨x, _, rfl, rfl, hs _ fun fs hq => kq _ _ ⟨rfl, fs, rfl, hq⟩⟩⟩
  · subst hd; subst hG
    cases r3
    obtain ⟨R4, f4, _⟩ := Rel.freeze (c1 := []) R3 (.inr (.inr trivial))
    exact ⟨rfl, k _ H3 _ ⟨sl, cs⟩ s1 (((f1.trans f2).trans f3).trans f4) R4 (frozen (c1 := []) R3 rfl) hq⟩
/-- o.m(k = e, ..) -/
theorem pe_methW {pl : Sem Bool} {fd : FuncData} {ps : List Str} {sp : Sp} {E : XK} {ta : TE} {tk : TA} {g' : Addr} (he : PE X o ta) (cl : Cls X.K C) (hm : Meth X.K C f g') (F : FnOk X.prog X.w X.K X.mg X.base CX0 k g' fd ps sp) (hr : Room k X.A) (kb : KBn X.K fd ps 1 ks (gU ix) (gU ix)) (hkw : PK X kws tk)
    (hks : (backToKw pos (keywordEach kws X.env)).filterMap (·.1) = ks) (hall : (backToKw pos (keywordEach kws X.env)).all (·.1.isSome) = true)
    (hpl : ((backTo pos (starEach [] X.env)).any (·.1) || (backToKw pos (keywordEach kws X.env)).any (·.1.isNone)) = false)
    (ht : eval (.Call (.Attribute o f apos) [] kws pos) X.env = (do
      let ov ← eval o X.env
      standAt apos.atName
      let (f, first) ← holding [ov] (getMethod ov f pl)
      callWith pos f first (backTo pos (starEach [] X.env)) (backToKw pos (keywordEach kws X.env)))) :
    PE X (.Call (.Attribute o f apos) [] kws pos) (fun σ H Q => ta σ H fun x H1 => ∃ a dx fs, x = .ref a ∧ H1 a = some (.ins C dx fs) ∧ fs.lookup f = none ∧ tk σ H1 fun zs H2 => zs.length = ks.length ∧ sp (.ref a :: ix.filterMap (zs[·]?)) H2 Q E) := by
  refine ⟨fun pins s σ H Q I h => ?_⟩
  refine PySem.W.methodCall_KW (pl := pl) (thn (he.run pins s σ H _ I h) fun u s1 ⟨x, H1, I1, rx, a, dx, fs, ex, ea, l, q⟩ => ?_) ht
  subst ex
  cases (show u = Value.ref a from rx)
  refine getmeth_ok I1 ea cl hm l ?_
  refine PySem.W.callWith_KW0 (first := [.ref a]) (h₀ := X.base) I.ok.mod.kin hm.kp hall (thn (hkw.run pos pins s1 σ H1 _ I1 q) fun ws s2 ⟨zs, H2, I2, rz, l2, q2⟩ => ⟨I2.kIn, ?_⟩) hpl
  rw [hks]
  have r2 : Vals (gU ix [V.ref a] zs) (gU ix [Value.ref a] ws) := kb.rel (.cons rfl .nil) rz
  refine wpAny_call (codeAny_mono (F.run X.A X.stack s2 H2 ⟨[.ref a], ks.zip ws⟩ (gU ix [Value.ref a] ws) (gU ix [V.ref a] zs) Q E hr I2.env0 (kb.to s2 [.ref a] ws I2.kIn rfl (rz.length.symm.trans l2)) r2 q2) fun r s' hq => ?_)
  cases r with
  | error e => exact hq.elim
  | ok fl =>
    cases fl with
    | ret u => exact I2.after hq
    | next => exact False.elim hq
    | brk => exact False.elim hq
    | cont => exact False.elim hq
theorem xe_mew {pl : Sem Bool} {S : PSp} (M : MeK (wdX X) C f k ks ix S) (hr : Room n X.A) (hkn : k ≤ n) (h : XE X μ o Γ fun z Γ1 => ∃ fs, z = .ins C fs ∧ fs.lookup f = none ∧ XKw X μ kws Γ1 fun ds Γ2 => ds.length = ks.length ∧ ∀ Qc : D → Prop, (∀ d, Q d Γ2 → Qc d) → S (.ins C fs :: ix.filterMap (ds[·]?)) Qc)
    (hks : (backToKw pos (keywordEach kws X.env)).filterMap (·.1) = ks := by rfl) (hall : (backToKw pos (keywordEach kws X.env)).all (·.1.isSome) = true := by rfl)
    (hpl : ((backTo pos (starEach [] X.env)).any (·.1) || (backToKw pos (keywordEach kws X.env)).any (·.1.isNone)) = false := by rfl)
    (ht : eval (.Call (.Attribute o f apos) [] kws pos) X.env = (do
      let ov ← eval o X.env
      standAt apos.atName
      let (f, first) ← holding [ov] (getMethod ov f pl)
      callWith pos f first (backTo pos (starEach [] X.env)) (backToKw pos (keywordEach kws X.env))) := by rfl) : XE X μ (.Call (.Attribute o f apos) [] kws pos) Γ Q := by
  obtain ⟨g, fd, ps, cl, mt, F, bd⟩ := M
  refine PE.imp pe_u fun σ H q ⟨R, k⟩ => ⟨_, pe_methW (E := wD X.K μ σ) h cl mt F (hr.mono hkn) bd pk_u hks hall hpl ht, R, fun v H1 z Γ1 s1 f1 R1 r1 ⟨fs, hz, hl, hs⟩ => ?_⟩
  subst hz
  cases r1 with
  | @ins a _ dx fv _ g1 g2 =>
    refine ⟨a, dx, fv, rfl, hid_sub _ _ _ _ g1, (RpF.lookup g2).2 hl, _, hs, R1, fun vs H2 ds Γ2 s2 f2 R2 r2 ⟨hlen, ha⟩ => ⟨r2.length.trans hlen, ?_⟩⟩
    exact asks_sp R2 (.cons ((Rp.ins g1 g2).mono f2.sub) (r2.pick ix)) (asks_p ha) fun v H3 d Γ3 s3 f3 R3 r3 hq => k v H3 d Γ3 ((s3.trans s2).trans s1) ((f1.trans f2).trans f3) R3 r3 hq
/-- C.m(k = e, ..) -/
theorem pe_cmethW {pl : Sem Bool} {fd : FuncData} {ps : List Str} {sp : Sp} {E : XK} {ta : TE} {tk : TA} {g' q' : Addr} {mc : Value} (he : PE X o ta) (cr : ClX.CRead X.K C mc) (cm : ClX.CMet X.K C mc f q' g') (F : FnOk X.prog X.w X.K X.mg X.base CX0 k g' fd ps sp) (hr : Room k X.A) (kb : KBn X.K fd ps 1 ks (gU ix) (gU ix)) (hkw : PK X kws tk)
    (hks : (backToKw pos (keywordEach kws X.env)).filterMap (·.1) = ks) (hall : (backToKw pos (keywordEach kws X.env)).all (·.1.isSome) = true)
    (hpl : ((backTo pos (starEach [] X.env)).any (·.1) || (backToKw pos (keywordEach kws X.env)).any (·.1.isNone)) = false)
    (ht : eval (.Call (.Attribute o f apos) [] kws pos) X.env = (do
      let ov ← eval o X.env
      standAt apos.atName
      let (f, first) ← holding [ov] (getMethod ov f pl)
      callWith pos f first (backTo pos (starEach [] X.env)) (backToKw pos (keywordEach kws X.env)))) :
    PE X (.Call (.Attribute o f apos) [] kws pos) (fun σ H Q => ta σ H fun x H1 => x = .ref C ∧ tk σ H1 fun zs H2 => zs.length = ks.length ∧ sp (.ref C :: ix.filterMap (zs[·]?)) H2 Q E) := by
  refine ⟨fun pins s σ H Q I h => ?_⟩
  refine PySem.W.methodCall_KW (pl := pl) (thn (he.run pins s σ H _ I h) fun u s1 ⟨x, H1, I1, rx, ex, q⟩ => ?_) ht
  subst ex
  cases (show u = Value.ref C from rx)
  refine ClX.getmethcm_ok I1 cr cm fun s2 I2 => ?_
  refine PySem.W.callWith_of hpl (PySem.W.keeps_M cm.fi) (PyProof.Rows.evalArgs_kw2_nil hall (thn (hkw.run pos _ s2 σ H1 _ I2 q) fun ws s3 ⟨zs, H2, I3, rz, l2, q2⟩ => ⟨⟨ClX.pin_at I3, I3.kIn⟩, ?_⟩))
  rw [hks]
  have r2 : Vals (gU ix [V.ref C] zs) (gU ix [Value.ref C] ws) := kb.rel (.cons rfl .nil) rz
  have run := F.run X.A X.stack s3 H2 ⟨[.ref C], ks.zip ws⟩ (gU ix [Value.ref C] ws) (gU ix [V.ref C] zs) Q E hr I3.env0 (kb.to s3 [.ref C] ws I3.kIn rfl (rz.length.symm.trans l2)) r2 q2
  refine wpAny_call (PySem.W.method_call (ClX.pin_at I3) (codeAny_mono run fun r s' hq => ?_))
  cases r with
  | error e => exact hq.elim
  | ok fl =>
    cases fl with
    | ret u => exact ClX.unpinE (I3.after hq)
    | next => exact False.elim hq
    | brk => exact False.elim hq
    | cont => exact False.elim hq
theorem xe_cmw {pl : Sem Bool} {S : PSp} (M : CmK (wdX X) C f k ks ix S) (hr : Room n X.A) (hkn : k ≤ n) (h : XE X μ o Γ fun z Γ1 => z = .ref C ∧ XKw X μ kws Γ1 fun ds Γ2 => ds.length = ks.length ∧ ∀ Qc : D → Prop, (∀ d, Q d Γ2 → Qc d) → S (.ref C :: ix.filterMap (ds[·]?)) Qc)
    (hks : (backToKw pos (keywordEach kws X.env)).filterMap (·.1) = ks := by rfl) (hall : (backToKw pos (keywordEach kws X.env)).all (·.1.isSome) = true := by rfl)
    (hpl : ((backTo pos (starEach [] X.env)).any (·.1) || (backToKw pos (keywordEach kws X.env)).any (·.1.isNone)) = false := by rfl)
    (ht : eval (.Call (.Attribute o f apos) [] kws pos) X.env = (do
      let ov ← eval o X.env
      standAt apos.atName
      let (f, first) ← holding [ov] (getMethod ov f pl)
      callWith pos f first (backTo pos (starEach [] X.env)) (backToKw pos (keywordEach kws X.env))) := by rfl) : XE X μ (.Call (.Attribute o f apos) [] kws pos) Γ Q := by
  obtain ⟨mc, p, g, fd, ps, cr, cm, F, bd⟩ := M
  refine PE.imp pe_u fun σ H q ⟨R, k⟩ => ⟨_, pe_cmethW (E := wD X.K μ σ) h cr cm F (hr.mono hkn) bd pk_u hks hall hpl ht, R, fun v H1 z Γ1 s1 f1 R1 r1 ⟨hz, hs⟩ => ?_⟩
  subst hz
  cases r1
  refine ⟨rfl, _, hs, R1, fun vs H2 ds Γ2 s2 f2 R2 r2 ⟨hlen, ha⟩ => ⟨r2.length.trans hlen, ?_⟩⟩
  exact asks_sp R2 (.cons (.ref C) (r2.pick ix)) (asks_p ha) fun v H3 d Γ3 s3 f3 R3 r3 hq => k v H3 d Γ3 ((s3.trans s2).trans s1) ((f1.trans f2).trans f3) R3 r3 hq
end
end Pdl
namespace Pdl
open PySem L2 PyProof.Rows
theorem spl_ties {ls : List (List Nat)} (h : Ties ls) : TL.spl [32] 0 [] (txt ls) = ls := TL.spl_join h.ne fun p hp hm => by
  obtain ⟨a, b, rfl, h1, h2, h3⟩ := h.pr p hp
  simp at hm
  omega
section
variable {X : Cx} {C : Addr} {d : D} {T : String}
theorem OthD.ty {K : PySem.W.Frag} (h : OthD d T) : TyD K d (.type T) := by cases h <;> constructor
end
end Pdl
namespace Pdl
open PySem L2 PyProof.Rows
/-- texts of 0 and 1 -/
def Bt (l : List Nat) : Prop := ∀ c ∈ l, c = 48 ∨ c = 49
end Pdl
namespace Pdl
open PySem
instance (l : List Nat) : Decidable (Bt l) := by unfold Bt; exact inferInstance
end Pdl
namespace Pdl
open PySem L2 PyProof.Rows
inductive KnD : D → Prop
  | non : KnD .non
  | bl {b : Bool} : KnD (.bl b)
  | int {i : Int} : KnD (.int i)
  | str (l : List Nat) (h : l.length ≤ 100000) : KnD (.str (S l))
  | lst {xs : List D} : KnD (.lst xs)
  | tup {xs : List D} : KnD (.tup xs)
def isS : D → Bool
  | .str _ => true
  | _ => false
theorem KnD.no {d : D} (h : KnD d) (hs : isS d = false) : NoStr d := by
  cases h with
  | non => exact .non
  | bl => exact .bl
  | int => exact .int
  | str => simp [isS] at hs
  | lst => exact .lst
  | tup => exact .tup
def textOf (d : D) : List Nat := match d with
  | .str x => x.cps.toList
  | _ => []
end Pdl
namespace Pdl
open PySem
/-- a sheet of known things, two levels deep -/
def KnDD (d : D) : Prop := KnD d ∧ ∀ xs, d = .tup xs → ∀ x ∈ xs, KnD x ∧ ∀ ys, x = .tup ys → ys.length ≤ 100000 ∧ ∀ y ∈ ys, KnD y
end Pdl
namespace Pdl
open PySem L2 PyProof.Rows
/-- a sheet that may be compared -/
structure ShOk (d : D) : Prop where
  kn : KnDD d
  ok : okD d = true
  dp : dpD d ≤ 60
/-- two orders of a web -/
def OrdOk (ls : List (List Nat)) (o : List Nat) : Prop := o.length ≤ 1000 ∧ sN o = us ls.flatten
end Pdl
namespace Pdl
theorem ord_perm {ls : List (List Nat)} {o : List Nat} (h : OrdOk ls o) : o.Perm (us ls.flatten) := by
  rw [← h.2]
  exact (List.mergeSort_perm _ _).symm
end Pdl
namespace Pdl
open PySem L2 PyProof.Rows
section
variable {X : Cx} {μ : Md} {Γ : En} {Q : QE} {o e : Expr} {es : List Expr} {apos cpos : Pos}
theorem xe_ml {name : Str} {id : String} (slot : Slot "list" name id) (hty : typeOf (.builtin id) = pure (.type "method_descriptor")) (h : XE X μ o Γ fun x Γ1 => ∃ zs, x = .lst zs ∧ XA X μ (e :: es) Γ1 fun ds Γ2 => ∃ d, MtD X id (.lst zs) ds d ∧ Q d Γ2)
    (hbase : attributeBase o name X.env (eval o X.env) = eval o X.env := by rfl)
    (hfew : ((backTo cpos (starEach (e :: es) X.env)).all (fun x => !x.1) && (backToKw cpos (keywordEach [] X.env)).all (fun x => x.1.isSome) && decide ((e :: es).length + ([] : List Keyword).length + (if ([] : List Keyword).isEmpty then 0 else 1) < 30)) = true := by rfl)
    (hline : (apos.endLine == cpos.line) = true := by rfl) (hs : starEach (e :: es) X.env = (false, eval e X.env) :: starEach es X.env := by rfl) (hplain : (backTo cpos (starEach es X.env)).any (·.1) = false := by rfl) :
    XE X μ (.Call (.Attribute o name apos) (e :: es) [] cpos) Γ Q :=
  PE.imp (pe_bm PySem.F.plainAttrs_list slot hty (mt_u id) h pa_u hbase hfew hline hs hplain) fun σ H q ⟨R, k⟩ => ⟨R, fun v H1 x Γ1 s1 f1 R1 r1 ⟨z, hz, hq⟩ => by
    subst hz
    cases r1 with
    | @lst a us _ t1 q1 =>
      exact ⟨.inl ⟨rfl, us, (hid_sub _ _).sqL t1⟩, _, hq, R1, fun vs H2 ds Γ2 s2 f2 R2 r2 ⟨d, ho, hq⟩ => ⟨_, ho, tot μ.m Γ2.c, R2.domT, (Rp.lst t1 q1).mono f2.sub, r2, fun w H3 e3 r3 => k w H3 d Γ2 (s2.trans s1) ((f1.trans f2).trans (Fw.of_sub e3)) (R2.more e3) r3 hq⟩⟩⟩
end
end Pdl
namespace Pdl
open PySem L2 PyProof.Rows
/-- an expression behind which a token is out -/
structure PE1 (X : Cx) (e : Expr) (t : TE) : Prop where
  run : ∀ (pins : List (Addr × Obj)) (s : Shared) (σ : L2.St) (H : Hp) (Q : VK), Inv X pins σ H s → t σ H Q → wpAny (model X.prog X.w) X.A (eval e X.env) (fun v s' => 1 ≤ s'.toks ∧ EP X pins σ Q v s') X.xe s
theorem PE1.imp {X : Cx} {e : Expr} {t u : TE} (h : PE1 X e t) (i : ∀ σ H Q, u σ H Q → t σ H Q) : PE1 X e u := ⟨fun pins s σ H Q I q => h.run pins s σ H Q I (i _ _ _ q)⟩
end Pdl
namespace Pdl
open PySem L2 PyProof.Rows
section
variable {X : Cx} {μ : Md} {Γ : En} {Q : QE} {e : Expr} {pos : Pos}
theorem RpA.rev {K : PySem.W.Frag} {G : Hp} : ∀ {vs : List V} {ds : List D}, RpA K G vs ds → RpA K G vs.reverse ds.reverse
  | _, _, .nil => .nil
  | _, _, .cons h r => by
    rw [List.reverse_cons, List.reverse_cons]
    exact (RpA.rev r).app (.cons h .nil)
end
end Pdl
namespace Pdl
open PySem
structure PrtOk (d : D) : Prop where
  kn : KnD d
  in1 : ∀ ys, d = .tup ys → ys.length ≤ 100000 ∧ ∀ y ∈ ys, KnD y
  ok : okD d = true
  dp : dpD d ≤ 50
theorem dpL_le {n : Nat} : ∀ {xs : List D}, (∀ x ∈ xs, dpD x ≤ n) → dpL xs ≤ n
  | [], _ => Nat.zero_le _
  | x :: xs, h => by
    rw [dpL]
    exact Nat.max_le.mpr ⟨h x List.mem_cons_self, dpL_le fun y hy => h y (List.mem_cons_of_mem _ hy)⟩
theorem okL_of {xs : List D} (h : ∀ x ∈ xs, okD x = true) : okL xs = true := by
  rw [okL_all, List.all_eq_true]
  exact h
theorem ShOk.tup {xs : List D} (h : ∀ x ∈ xs, PrtOk x) : ShOk (.tup xs) := ⟨⟨.tup, fun ys e x hx => by
    cases e
    exact ⟨(h x hx).kn, (h x hx).in1⟩⟩, by rw [okD]; exact okL_of fun x hx => (h x hx).ok, by rw [dpD]; have := dpL_le fun x hx => (h x hx).dp; omega⟩
theorem ShOk.lst {xs : List D} (h : ∀ x ∈ xs, PrtOk x) : ShOk (.lst xs) := ⟨⟨.lst, (fun ys e => by cases e)⟩, by rw [okD]; exact okL_of fun x hx => (h x hx).ok, by rw [dpD]; have := dpL_le fun x hx => (h x hx).dp; omega⟩
/-- flat parts: no tuple -/
structure FltOk (d : D) : Prop where
  kn : KnD d
  nt : ∀ ys, d ≠ .tup ys
  ok : okD d = true
  dp : dpD d ≤ 5
theorem PrtOk.tup {xs : List D} (hl : xs.length ≤ 100000) (h : ∀ x ∈ xs, FltOk x) : PrtOk (.tup xs) := ⟨.tup, fun ys e => by
    cases e
    exact ⟨hl, fun y hy => (h y hy).kn⟩, by rw [okD]; exact okL_of fun x hx => (h x hx).ok, by rw [dpD]; have := dpL_le fun x hx => (h x hx).dp; omega⟩
theorem FltOk.lst {xs : List D} (h : ∀ x ∈ xs, okD x = true ∧ dpD x ≤ 4) : FltOk (.lst xs) := ⟨.lst, (fun ys e => by cases e), by rw [okD]; exact okL_of fun x hx => (h x hx).1, by rw [dpD]; have := dpL_le fun x hx => (h x hx).2; omega⟩
theorem FltOk.str {l : List Nat} (hl : l.length ≤ 100000) (h : ∀ c ∈ l, c < 1000) : FltOk (.str (S l)) := ⟨.str l hl, (fun ys e => by cases e), by
    rw [okD, S_cps, List.all_eq_true]
    exact fun c hc => decide_eq_true (h c hc), by simp [dpD]⟩
theorem FltOk.non : FltOk .non := ⟨.non, (fun ys e => by cases e), rfl, by simp [dpD]⟩
theorem FltOk.bl {b : Bool} : FltOk (.bl b) := ⟨.bl, (fun ys e => by cases e), rfl, by simp [dpD]⟩
end Pdl
namespace Pdl
open PySem L2 PyProof.Rows
theorem eqv_bl : ∀ (a b : List Bool), PyData.eqvAll (toPyL (a.map D.bl)) (toPyL (b.map D.bl)) = decide (a = b)
  | [], [] => rfl
  | [], _ :: _ => rfl
  | _ :: _, [] => rfl
  | x :: a, y :: b => by
    show (PyData.eqv (toPy (.bl x)) (toPy (.bl y)) && PyData.eqvAll (toPyL (a.map D.bl)) (toPyL (b.map D.bl))) = _
    rw [eqv_bl a b]
    have e : PyData.eqv (toPy (.bl x)) (toPy (.bl y)) = decide (x = y) := by cases x <;> cases y <;> decide +kernel
    rw [e, ← Bool.decide_and]
    exact decide_eq_decide.mpr (by simp)
section
variable {X : Cx}
theorem ok_bls (a : List Bool) : okD (.lst (a.map D.bl)) = true := by
  rw [okD]
  exact okL_of fun x hx => by
    obtain ⟨b, _, rfl⟩ := List.mem_map.mp hx
    rfl
theorem dp_bls (a : List Bool) : dpD (.lst (a.map D.bl)) ≤ 64 := by
  rw [dpD]
  have := dpL_le (n := 0) (xs := a.map D.bl) fun x hx => by
    obtain ⟨b, _, rfl⟩ := List.mem_map.mp hx
    simp [dpD]
  omega
end
end Pdl
namespace Pdl
open PySem L2 PyProof.Rows
theorem Bt.lw {l : List Nat} (h : Bt l) : ∀ c ∈ l, c < 1000 := fun c hc => by rcases h c hc with rfl | rfl <;> omega
theorem od_notB {X : Cx} {a b : Bool} : OpD X (compareOp .IsNot) (.bl a) (.bl b) (.bl (!decide (a = b))) := .of op_notBl fun x y H q m _ h1 h2 k => by
  cases h1; cases h2
  exact ⟨a, b, rfl, rfl, k _ H (Sub.refl H) (.bl _)⟩
theorem OrdOk.lw {ls : List (List Nat)} {o : List Nat} (ht : Ties ls) (ho : OrdOk ls o) : ∀ c ∈ o, c < 1000 := fun c hc => by
  obtain ⟨l, hl, hx⟩ := List.mem_flatten.mp (mem_us.mp ((ord_perm ho).mem_iff.mp hc))
  exact ht.lw l hl c hx
end Pdl
namespace Pdl
open PySem L2 PyProof.Rows
theorem pr2_cases {a b c d : Nat} (h : pr2 [a, b] = pr2 [c, d]) : (a = c ∧ b = d) ∨ (a = d ∧ b = c) := by
  have h : (if b < a then [b, a] else [a, b]) = if d < c then [d, c] else [c, d] := h
  split at h <;> split at h <;> simp at h <;> omega
/-- the way of ties by a wish -/
def orn (p : Nat → Nat → Bool) (ls : List (List Nat)) : List (List Nat) := ls.map fun t => if p (t.getD 0 0) (t.getD 1 0) = true then t else [t.getD 1 0, t.getD 0 0]
structure IsWy (ls x : List (List Nat)) : Prop where
  two : Two x
  pr : x.map pr2 = ls
  rk : Ranked x
theorem Ranked.no2 {x : List (List Nat)} (h : Ranked x) {u v : Nat} (h1 : [u, v] ∈ x) (h2 : [v, u] ∈ x) : False := by
  obtain ⟨r, hr⟩ := h
  have a := hr _ _ h1
  have b := hr _ _ h2
  omega
section
variable {ls x y : List (List Nat)}
theorem IsWy.one (h : IsWy ls x) {u v : Nat} (hm : pr2 [u, v] ∈ ls) : [u, v] ∈ x ∨ [v, u] ∈ x := by
  rw [← h.pr] at hm
  obtain ⟨l, hl, e⟩ := List.mem_map.mp hm
  obtain ⟨a, b, rfl⟩ := h.two l hl
  rcases pr2_cases e with ⟨rfl, rfl⟩ | ⟨rfl, rfl⟩
  · exact .inl hl
  · exact .inr hl
theorem IsWy.ext (hx : IsWy ls x) (hy : IsWy ls y) (h : ∀ u v, [u, v] ∈ x → [u, v] ∈ y) : x = y := by
  refine List.ext_getElem? fun i => ?_
  have e : (x.map pr2)[i]? = (y.map pr2)[i]? := by rw [hx.pr, hy.pr]
  rw [List.getElem?_map, List.getElem?_map] at e
  cases ex : x[i]? with
  | none =>
    rw [ex] at e
    cases ey : y[i]? with
    | none => rfl
    | some l =>
      rw [ey] at e
      cases e
  | some l =>
    rw [ex] at e
    cases ey : y[i]? with
    | none =>
      rw [ey] at e
      cases e
    | some l' =>
      rw [ey] at e
      have e : pr2 l = pr2 l' := Option.some.inj e
      have hl := List.mem_of_getElem? ex
      have hl' := List.mem_of_getElem? ey
      obtain ⟨a, b, rfl⟩ := hx.two l hl
      obtain ⟨c, d, rfl⟩ := hy.two l' hl'
      rcases pr2_cases e with ⟨rfl, rfl⟩ | ⟨rfl, rfl⟩
      · rfl
      · exact (hy.rk.no2 (h _ _ hl) hl').elim
end
/-- arrows laid as others say -/
def tr (f : Nat → Nat) (L y : List (List Nat)) : List (List Nat) := orn (fun u v => decide ([f u, f v] ∈ y)) L
section
variable {G L : List (List Nat)} {a b c d : Nat} {w x : List (List Nat)}
structure Less (G L : List (List Nat)) (a b : Nat) : Prop where
  hg : Ties G
  hl : Ties L
  lt : a < b
  tie : [a, b] ∈ G
  mem : ∀ t, t ∈ L ↔ t ∈ G ∧ t ≠ [a, b]
theorem Less.sub (H : Less G L a b) : ∀ t ∈ L, t ∈ G := fun t h => ((H.mem t).mp h).1
theorem Less.pr (H : Less G L a b) (hc : pr2 [c, d] = [a, b]) : pr2 [c, d] ∉ L := fun h => ((H.mem _).mp h).2 hc
end
end Pdl
namespace Pdl
open PySem L2 PyProof.Rows
/-- ties hang places together -/
def AllC (L : List (List Nat)) (w : List Nat) : Prop := ∀ C : Nat → Prop, (∀ u v, [u, v] ∈ L → (C u ↔ C v)) → ∀ x ∈ w, ∀ y ∈ w, (C x ↔ C y)
end Pdl
namespace Pdl
open PySem L2 PyProof.Rows
def lessL (ls : List (List Nat)) (a b : Nat) : List (List Nat) := ls.filter fun t => decide (t ≠ [a, b])
/-- places met over ties, from the first one -/
structure MetI (L : List (List Nat)) (w F : List Nat) : Prop where
  nd : F.Nodup
  sub : ∀ x ∈ F, x ∈ w
  h0 : Pdl.hd w ∈ F
  cl : ∀ C : Nat → Prop, (∀ u v, [u, v] ∈ L → (C u ↔ C v)) → ∀ x ∈ F, (C x ↔ C (Pdl.hd w))
theorem MetI.all {L : List (List Nat)} {w F : List Nat} (h : MetI L w F) (hl : F.length = w.length) (hw : w.Nodup) : AllC L w := fun C hC => by
  have hin : ∀ x ∈ w, x ∈ F := fun x hx => Decidable.byContradiction fun hn => by
    have := nodup_len (l := x :: F) (m := w) (List.nodup_cons.mpr ⟨hn, h.nd⟩) fun y hy => by
      rcases List.mem_cons.mp hy with rfl | z
      · exact hx
      · exact h.sub y z
    simp at this
    omega
  intro x hx y hy
  exact (h.cl C hC x (hin x hx)).trans (h.cl C hC y (hin y hy)).symm
end Pdl
namespace Pdl
open PySem L2 PyProof.Rows
theorem exV_at {P : Program} {w : World} {H : Hp} {h : Heap} {a C : Addr} {d : Option Addr} (hok : HOk P w H h) (he : H a = some (exV a C d)) : ∃ oe, h.get? a = some oe ∧ Zc (.ref C) d oe ∧ ∃ vs, oe.data = .fields vs := by
  have := hok a _ he
  exact this.1
section
variable {X : Cx} {μ : Md} {Γ : En} {Q : QE} {x : Str} {p pos : Pos} {e : Expr}
theorem Fw.exc1 {H1 Hd : Hp} {a dx C : Addr} {f : Str} {v : V} {d : D} {μ : Md} {Γ1 : En} {σ : L2.St} {K : PySem.W.Frag} (R : Rel K μ H1 σ Γ1) (hsub : Sub H1 Hd) (hdx : H1 dx = none) (hD : Hd dx = some (.xd [(f, v)])) (ha : Hd a = none) (rv : Rp K (Vw μ Γ1 H1) v d) :
    Fw Γ1.c Γ1.c H1 (upd Hd a (exV a C (some dx))) ∧ Rel K μ (upd Hd a (exV a C (some dx))) σ Γ1 ∧ Rp K (Vw μ Γ1 (upd Hd a (exV a C (some dx)))) (.ref a) (.exc C [(f, d)]) := by
  have R2 := R.more hsub
  have hs2 : Sub Hd (upd Hd a (exV a C (some dx))) := sub_upd ha
  have R3 := R2.more hs2
  have hne : dx ≠ a := fun z => by rw [z, ha] at hD; cases hD
  refine ⟨Fw.of_sub (hsub.trans hs2), R3, .exc1 (dx := dx) (fs := [(f, v)]) (hid_upd (R2.fresh ha)) (hid_some.mpr ⟨R.fresh hdx, by rw [upd_ne hne]; exact hD⟩) (.cons ?_ .nil)⟩
  exact (rv.mono (Fw.of_sub (c := Γ1.c) hsub).sub).mono (Fw.of_sub (c := Γ1.c) hs2).sub
end
end Pdl
namespace Pdl
open PySem L2 PyProof.Rows
/-- an own error class: what isinstance and attributes ask of it -/
structure ExK (K : PySem.W.Frag) (C : Addr) : Prop where
  cl : (PySem.W.clsIn K C).isSome = true
  xf : XfC K C
  ha : PySem.W.findIn K (.ref C) "__class__" = some (some (.builtin "object.__class__"))
  hn : PySem.W.specialIn K (.builtin "object.__class__") "__get__" = some (some (.builtin "getset_descriptor.__get__"))
  ht : PySem.W.takesIn K (.builtin "object.__class__") = some true
  hm : PySem.W.mroIn K C (.type "object") = some true
def exkB (K : PySem.W.Frag) (C : Addr) : Bool := (PySem.W.clsIn K C).isSome && (xfB K C && (decide (PySem.W.findIn K (.ref C) "__class__" = some (some (.builtin "object.__class__"))) && (decide (PySem.W.specialIn K (.builtin "object.__class__") "__get__" = some (some (.builtin "getset_descriptor.__get__"))) &&
  (decide (PySem.W.takesIn K (.builtin "object.__class__") = some true) && decide (PySem.W.mroIn K C (.type "object") = some true)))))
theorem exkB_ok {K : PySem.W.Frag} {C : Addr} (h : exkB K C = true) : ExK K C := by
  obtain ⟨h1, h⟩ := Bool.and_eq_true_iff.mp h
  obtain ⟨h2, h⟩ := Bool.and_eq_true_iff.mp h
  obtain ⟨h3, h⟩ := Bool.and_eq_true_iff.mp h
  obtain ⟨h4, h⟩ := Bool.and_eq_true_iff.mp h
  obtain ⟨h5, h6⟩ := Bool.and_eq_true_iff.mp h
  exact ⟨h1, xfB_ok h2, of_decide_eq_true h3, of_decide_eq_true h4, of_decide_eq_true h5, of_decide_eq_true h6⟩
theorem exc_inst {P : Program} {w : World} {H : Hp} {h : Heap} {a C : Addr} {d : Option Addr} (hok : HOk P w H h) (he : H a = some (exV a C d)) (hd : ∀ dx, d = some dx → ∃ od, h.get? dx = some od) : ∃ oe od, PySem.W.InstAt h a oe C od := by
  obtain ⟨oe, hg, ⟨hc, hdd⟩, vs, hv⟩ := exV_at hok he
  cases d with
  | none =>
    refine ⟨oe, none, hg, hc, by unfold PySem.W.notCls; rw [hv] <;> rfl, ?_⟩
    rw [hdd]
    trivial
  | some dx =>
    obtain ⟨od, ho⟩ := hd dx rfl
    refine ⟨oe, some od, hg, hc, by unfold PySem.W.notCls; rw [hv] <;> rfl, ?_⟩
    rw [hdd]
    exact ho
section
variable {X : Cx}
theorem cd_isiE {C : Addr} {fs : List (Str × D)} {y : D} {u : Value} {r : Bool} (T : ExK X.K C) (hc : ClD y u) (h : PySem.W.kitOne X.K (.ref C) u = some r) : CallD X (.builtin "isinstance") [.exc C fs, y] (.bl r) := fun pins s σ H xs us q I rv ⟨m, hm, h1, k⟩ => by
  obtain ⟨v, w, rfl, r1, r2⟩ := h1.two
  obtain ⟨uu, uw, rfl, ru, rw'⟩ : ∃ uu uw, us = [uu, uw] ∧ RelV v uu ∧ RelV w uw := by
    cases rv with
    | cons ra rb =>
      cases rb with
      | cons rb rc => cases rc; exact ⟨_, _, rfl, ra, rb⟩
  have key : ∀ (a : Addr) (d : Option Addr), v = .ref a → (hid m H) a = some (exV a C d) → (∀ dx, d = some dx → ∃ fs', H dx = some (.xd fs')) → wpAny (model X.prog X.w) X.A (call (.builtin "isinstance") [uu, uw]) (EP X pins σ q) X.xe s := fun a d e1 hg hd => by
    subst e1
    obtain rfl : uu = Value.ref a := ru
    obtain ⟨oe, od, J⟩ := exc_inst I.hok (hid_sub _ _ _ _ hg) fun dx e => by
      obtain ⟨fs', hx⟩ := hd dx e
      have hx : ObjOk X.prog X.w H s.heap dx (.xd fs') := I.hok dx _ hx
      obtain ⟨mA, ⟨o, es, ep, e1, _⟩, _⟩ := hx
      exact ⟨o, e1⟩
    have eu : uw = u := by
      cases hc with
      | ty => cases r2; exact rw'
      | own => cases r2; exact rw'
    subst eu
    exact PySem.W.kia_one (PySem.W.kitx_exc T.cl T.xf.ga T.xf.gg T.xf.exC T.ha T.hn T.ht T.hm) I.kIn J h (fun z => nomatch z) fun tk => ⟨.bl r, H, I.kept (t' := tk) fun _ _ z => z, rfl, k _ H (Sub.refl H) (.bl r)⟩
  cases r1 with
  | exc0 hg => exact key _ none rfl hg fun dx e => by cases e
  | exc1 hg hx _ => exact key _ _ rfl hg fun dx e => by cases e; exact ⟨_, hid_sub _ _ _ _ hx⟩
end
section
variable {X : Cx} {o : Expr} {te : TE} {pos : Pos} {f : Str}
theorem pe_exf (he : PE X o te) (hb : attributeBase o f X.env (eval o X.env) = eval o X.env := by rfl) :
    PE X (.Attribute o f pos) (fun σ H Q => te σ H fun x H1 => ∃ (a C dd : Addr) (fs : List (Str × V)) (v : V), x = .ref a ∧ XfC X.K C ∧ PySem.W.findIn X.K (.ref C) f = some none ∧ H1 a = some (exV a C (some dd)) ∧ H1 dd = some (.xd fs) ∧ fs.lookup f = some v ∧ Q v H1) := by
  refine ⟨fun pins s σ H Q I h => ?_⟩
  refine attr_of hb (thn (he.run pins s σ H _ I h) fun u s1 hh => ?_)
  obtain ⟨x, H1, I1, rx, a, C, dd, fs, v, ex, T, hno, ea, ed, l, q⟩ := hh
  subst ex
  obtain rfl : u = Value.ref a := rx
  obtain ⟨oe, ha, ⟨hz1, hz2⟩, vs, hd⟩ := exV_at I1.hok ea
  have hx : ObjOk X.prog X.w H1 s1.heap dd (.xd fs) := I1.hok dd _ ed
  obtain ⟨mA, hns, hr⟩ := hx
  obtain ⟨od, ho, hl⟩ := lookIn_ns hns
  obtain ⟨u, hu, ru⟩ := RelO.some_of (v := v) (o := mA f) (by rw [← l]; exact hr f)
  have J : PySem.W.InstAt s1.heap a oe C (some od) := ⟨ha, hz1, by unfold PySem.W.notCls; rw [hd] <;> rfl, by rw [hz2]; exact ho⟩
  exact HandSPX.exc_get I1.kIn J T.ga T.gg T.exC (PySem.W.findObj_own T.hdC hno rfl (by rw [hl, hu])) (handed_of ru) ⟨v, H1, I1.tok _, ru, q⟩
end
section
variable {X : Cx} {μ : Md} {Γ : En} {Q : QE} {o : Expr} {pos : Pos} {f : Str}
/-- e.f, e an exception as a value -/
theorem xe_exf (h : XE X μ o Γ fun x Γ1 => ∃ C fs d, x = .exc C fs ∧ XfC X.K C ∧ PySem.W.findIn X.K (.ref C) f = some none ∧ fs.lookup f = some d ∧ Q d Γ1) (hb : attributeBase o f X.env (eval o X.env) = eval o X.env := by rfl) : XE X μ (.Attribute o f pos) Γ Q :=
  PE.imp (pe_exf h hb) fun σ H q ⟨R, k⟩ => ⟨R, fun v H1 x Γ1 s1 f1 R1 r1 ⟨C, fs, d, hx, T, hno, hl, hq⟩ => by
    subst hx
    cases r1 with
    | exc0 hg => cases hl
    | @exc1 a _ dx vs _ hg hd rf =>
      obtain ⟨v, hv, rv⟩ := rpF_lookup rf hl
      exact ⟨a, C, dx, vs, v, rfl, T, hno, hid_sub _ _ _ _ hg, hid_sub _ _ _ _ hd, hv, k v H1 d Γ1 s1 f1 R1 rv hq⟩⟩
end
end Pdl
namespace Pdl
open PySem
/-- own classes, then the base's row -/
def refsT (tl : List Value) : List Value → Bool
  | .ref _ :: r => refsT tl r
  | l => l == tl
theorem refsT_cases (tl : List Value) : ∀ l : List Value, refsT tl l = true → (∃ c r, l = .ref c :: r ∧ refsT tl r = true) ∨ l = tl := by
  intro l e
  unfold refsT at e
  split at e
  · exact .inl ⟨_, _, rfl, e⟩
  · exact .inr (beq_iff_eq.mp e)
theorem refsT_contains {tl : List Value} (X : String) : ∀ l : List Value, refsT tl l = true → l.contains (.type X) = tl.contains (.type X) := by
  intro l
  induction l with
  | nil =>
    intro e
    rcases refsT_cases tl [] e with ⟨c, r, q, _⟩ | q
    · cases q
    · rw [q]
  | cons a r ih =>
    intro e
    rcases refsT_cases tl (a :: r) e with ⟨c, r', q, h⟩ | q
    · obtain ⟨rfl, rfl⟩ := List.cons.inj q
      rw [List.contains_cons, ih h]; rfl
    · rw [q]
end Pdl
namespace PySem
namespace HandSPX
open Builtin Builtin.ObjectAttr
theorem refsT_pass {tl : List Value} {B : String} (SF : StoreFacts B tl "object.__setattr__" "object") (self : Value) : ∀ l : List Value, Pdl.refsT tl l = true → refuseLoop self "__setattr__" l = pure () := by
  intro l
  induction l with
  | nil =>
    intro e
    rcases Pdl.refsT_cases tl [] e with ⟨c, r, q, _⟩ | q
    · cases q
    · rw [q]; exact SF.passes self
  | cons a r ih =>
    intro e
    rcases Pdl.refsT_cases tl (a :: r) e with ⟨c, r', q, h⟩ | q
    · obtain ⟨rfl, rfl⟩ := List.cons.inj q
      rw [refuseLoop_ref]; exact ih h
    · rw [q]; exact SF.passes self
section
variable {prog : Program} {w : World} {A : Around} {hp : Heap} {g : Array GenState} {d : Drawn} {t : Nat} {os : OsState} {R : Result → Shared → Prop}
theorem exc_osaT {K : W.Frag} {name : Str} {tk : Tok} {v : Value} {x C : Addr} {fv : Array Value} {cd : ClassData} {tl : List Value} {B : String} (SF0 : StoreFacts B tl "object.__setattr__" "object")
    (X : K.In hp) (hx : hp.get? x = some { cls := .ref C, data := .fields fv }) (hcd : W.clsIn K C = some cd) (hm : Pdl.refsT tl cd.mro = true) (hme : cd.mro.isEmpty = false) (hh : cd.hasDict = true) (ha : W.findIn K (.ref C) name = some none)
    (hq : ∀ h' tk' dx, (∀ b o, b ≠ x → hp.get? b = some o → h'.get? b = some o) → hp.objs.size ≤ dx → dx ≠ x → h'.get? x = some { cls := .ref C, dict := some dx, data := .fields fv } →
      h'.Ns1 dx (fun y => if y = name then some v else none) → R (.ok (.ret .none)) ⟨h', g, d, tk', os⟩) :
    codeAny (model prog w) A (.call (.builtin "object.__setattr__") ⟨[.ref x, .str name tk, v], []⟩) R ⟨hp, g, d, t, os⟩ := by
  have I : W.InstAt hp x { cls := .ref C, data := .fields fv } C none := ⟨hx, rfl, rfl, trivial⟩
  have SF := F.store_object
  have hob : cd.mro.contains (.type "object") = true := (Pdl.refsT_contains "object" _ hm).trans SF0.hasOwner
  have hxs : x ≠ hp.objs.size := Nat.ne_of_lt (Heap.lt_size hx)
  have sub : W.Looks (model prog w) hp (isInstance (.ref x) (.type "object")) true := I.type.andThen (W.looks_mroIn X (by unfold W.mroIn; rw [hcd, Option.bind_some, if_neg (by rw [hme]; decide), hob]))
  refine codeAny_call_builtin SF.slot.plain SF.entry (@W.check_slot (model prog w) _ _ ⟨hp, g, d, t, os⟩ "object.__setattr__" "object" "__setattr__" (.ref x) [.str name tk, v] [] _ SF.kind SF.split sub (SF.args (.ref x) (.str name tk) v) ?_)
  have hmr : W.Looks (model prog w) hp (mroOf (.ref C)) cd.mro := (W.looks_clsIn X hcd).andThen .now
  have L3 : W.Looks (model prog w) hp (storeTaker? none) none := .now
  have hcls : W.Looks (model prog w) hp (classData C) cd := W.looks_clsIn X hcd
  rw [W.osa_eq, refuse_eq]
  refine wpAny_bind (wpAny_bind (I.type.at (wpAny_bind (hmr.at ?_))))
  rw [refsT_pass SF0 _ _ hm]
  refine wpAny_pure (wpAny_bind (I.type.at (wpAny_bind ((W.looks_findIn X ha).at (wpAny_bind (L3.at ?_))))))
  show wpAny _ _ (storeInOwnDict (.ref x) (.ref C) (.str name tk) name v false) _ _ _
  obtain ⟨nm, bs, mro, ns, qn, hd, sn, sb, ab, col, del⟩ := cd
  dsimp only at hh
  subst hh
  unfold storeInOwnDict ownDictForStores
  repeat (first | with_reducible refine store_in_new ?_ ?_ | with_reducible refine wpAny_loadPart_at hx ?_ | with_reducible refine hcls.at ?_ | wp_step)
  · exact ⟨_, #[], _, (Heap.get?_update_ne _ _ _ _ hxs.symm).trans (Heap.get?_push_at rfl rfl), rfl, fun e he => absurd he (by simp), fun _ => rfl⟩
  · intro h' tk' hn' hs
    have hx₁ : (hp.push { cls := .type "dict", data := .dict #[] }).get? x = some { cls := .ref C, data := .fields fv } := Heap.get?_push_of_some _ hx
    refine hq h' tk' hp.objs.size (fun b o hb ho => ?_) (Nat.le_refl _) hxs.symm ?_ hn'
    · exact (hs.2 b (Nat.ne_of_lt (Heap.lt_size ho))).trans ((Heap.get?_update_ne _ _ _ _ hb).trans (Heap.get?_push_of_some _ ho))
    · exact (hs.2 x hxs).trans (Heap.get?_update_self _ hx₁ rfl)
end
end HandSPX
end PySem
namespace Pdl
open PySem L2 PyProof.Rows
structure OexT (K : PySem.W.Frag) (C : Addr) : Prop where
  cls : ∃ (B newId initId : String) (tl : List Value), ExcBaseFacts B newId initId tl ∧ StoreFacts B tl "object.__setattr__" "object" ∧
    ∃ nm q N bs bm sn sub ab col dd k0 k1 k2 k3 k5, K.lookup C = some (excClassObj nm q C N bs bm true sn sub ab col dd k0 k1 k2 k3 k5 newId) ∧ refsT tl bm = true
  sa : PySem.W.findIn K (.ref C) "__setattr__" = some (some (.builtin "object.__setattr__"))
  exC : PySem.W.subIn K (.ref C) (.type "BaseException") = some true
  tyC : PySem.W.typeIn K (.ref C) = some (.type "type")
  kC : PySem.W.keepIn K (.ref C) = true
section
variable {X : Cx} {pins : List (Addr × Obj)} {σ : L2.St} {H : Hp} {s : Shared} {A : Around} {E : Value → Shared → Prop} {a C : Addr} {f : Str} {y : V} {u : Value} {Q : Unit → Shared → Prop}
/-- self.f = y, the first one -/
theorem ost_newT (T : OexT X.K C) (I : Inv X pins σ H s) (e : H a = some (exo a C none)) (hno : PySem.W.findIn X.K (.ref C) f = some none) (ry : RelV y u)
    (h : ∀ dx s', H dx = none → dx ≠ a → Inv X pins σ (upd (upd H dx (exd dx [(f, y)])) a (exo a C (some dx))) s' → Q () s') : wpAny (model X.prog X.w) A (setAttr (.ref a) f u) Q E s := by
  obtain ⟨B, newId, initId, tl, F, SF, nm, q, N, bs, bm, sn, sub, ab, col, dd, k0, k1, k2, k3, k5, hC, hbm⟩ := T.cls
  have hcl : PySem.W.clsIn X.K C = some { name := nm, bases := bs, mro := .ref C :: bm, ns := N, qualname := q, hasDict := true, slotNames := sn, subclasses := sub, abstract := ab, collection := col, hasDel := false } := by unfold PySem.W.clsIn; rw [hC] <;> rfl
  obtain ⟨t1, ho⟩ := exo_at I.hok e
  obtain ⟨hp, g, d, t, os⟩ := s
  refine PySem.W.set_plain I.kIn (ox := { cls := .ref C, dict := none, data := .fields #[.ref t1, .none, .none, .none, .bool false, .none] }) (od := none) ⟨ho, rfl, rfl, trivial⟩ T.sa ?_
  refine PySem.HandSPX.exc_osaT SF I.kIn ho hcl (show refsT tl (.ref C :: bm) = true from hbm) rfl rfl hno (fun h' tk' dx k dn dne hx hn => ?_)
  have hnd : H dx = none := I.hok.fresh dn
  have nd : ∀ {b : Addr} {o : Obj}, hp.get? b = some o → b ≠ dx := fun {b o} q => Nat.ne_of_lt (Nat.lt_of_lt_of_le (Heap.lt_size q) dn)
  have na : ∀ {b : Addr}, H b = none → b ≠ a := fun {b} n z => by
    rw [z, e] at n
    cases n
  have Un1 : Un X.fs [] H (upd (upd H dx (exd dx [(f, y)])) a (exo a C (some dx))) hp h' := {
    keep := fun b o q n _ _ => k b o (na n) q
    slot := fun b o q n _ _ => ⟨o.slots, k b o (na n) q⟩
    free := fun b o q n _ => by rw [upd_ne (na n), upd_ne (nd q)]; exact n
    there := fun b o q _ => by
      by_cases hb : b = a
      · exact ⟨_, by rw [hb]; exact hx⟩
      · exact ⟨o, k b o hb q⟩
    tups := fun b xs q => by rw [upd_ne (at_ne e q exo_tup), upd_ne (ne_of_none q hnd)]; exact q
    frzs := fun b o v q => by rw [upd_ne (at_ne e q exo_frz), upd_ne (ne_of_none q hnd)]; exact q
    tbls := fun b ps q => ⟨#[], by rw [upd_ne (at_ne e q exo_tbl), upd_ne (ne_of_none q hnd), q]; simp⟩ }
  refine h dx _ hnd dne (I.un (t' := tk') Un1 fun b o q => ?_)
  by_cases hb : b = a
  · subst hb
    rw [upd_same] at q
    cases q
    exact exo_ok hx
  · rw [upd_ne hb] at q
    by_cases hd : b = dx
    · subst hd
      rw [upd_same] at q
      cases q
      exact exd_ok hn (relO_put (fs := []) ry fun g => True.intro)
    · rw [upd_ne hd] at q
      exact (I.hok b o q).stay (fun c v hc z => k c v (by
          rcases hc with hc | hc
          · rw [hc]
            exact hb
          · exact at_ne e hc exo_own) z)
        (fun c hc => by rw [upd_ne (at_ne e hc exo_own), upd_ne (ne_of_none hc hnd)]; exact hc) (fun c xs hc => by rw [upd_ne (at_ne e hc exo_tup), upd_ne (ne_of_none hc hnd)]; exact hc)
end
/-- self.f = e, the first field -/
def tOstT (K : PySem.W.Frag) (f : Str) (to te : TE) : TS := fun D σ H => te σ H fun y H1 => to σ H1 fun x H2 => ∃ a C : Addr, x = .ref a ∧ OexT K C ∧ PySem.W.findIn K (.ref C) f = some none ∧
  H2 a = some (exo a C none) ∧ ∀ dx, H2 dx = none → dx ≠ a → D.nx σ (upd (upd H2 dx (exd dx [(f, y)])) a (exo a C (some dx)))
theorem ps_ostT {X : Cx} {o e : Expr} {to te : TE} {f : Str} {p' pos : Pos} (ho : PE X o to) (he : PE X e te) (hs : swapsWith e (some (.Attribute o f p')) pos.line X.env = pure false := by rfl) : PS X (.Assign [.Attribute o f p'] e pos) (tOstT X.K f to te) := by
  refine ⟨fun pins s σ H D I h => ?_⟩
  refine plainObj_wpAny_Assign_Attribute (thn (he.run pins s σ H _ I h) fun v s1 ⟨y, H1, I1, r1, q1⟩ => thn (ho.run pins s1 σ H1 _ I1 q1) fun u s2 ⟨x, H2, I2, r2, a, C, ex, T, hno, ea, q⟩ => ?_) hs
  subst ex
  obtain rfl : u = Value.ref a := r2
  exact ost_newT T I2 ea hno r1 fun dx s' n ne J => ⟨σ, _, J, q dx n ne⟩
def spGvT (K : PySem.W.Frag) (f : Str) : Sp := fun vs H Q _ => ∃ (a C : Addr) (y : V), vs = [.ref a, y] ∧ OexT K C ∧ PySem.W.findIn K (.ref C) f = some none ∧ H a = some (exo a C none) ∧
  ∀ dx, H dx = none → dx ≠ a → Q .non (upd (upd H dx (exd dx [(f, y)])) a (exo a C (some dx)))
theorem ini_okT {P : Program} {w : World} {K : PySem.W.Frag} {mg : Str → Option Value} {base : Heap} {qual f sf : Str} {st : Stmt} {fI : Addr} {fd : FuncData} {N ps : List Str} {p1 p2 p3 p4 : Pos} (F : Fun K "__init__" qual st fI fd) (sc : FnScope N ps (defScope st)) (hN : N = [sf, f]) (hps : ps.length = 2)
    (hb : defBody st = [.Assign [.Attribute (.Name sf p1) f p2] (.Name f p3) p4]) (hl1 : Vis (defScope st) sf) (hl2 : Vis (defScope st) f)
    (d1 : (sf == ("__debug__" : Str)) = false) (d2 : (sf == ("__classdict__" : Str)) = false) (d3 : (f == ("__debug__" : Str)) = false) (d4 : (f == ("__classdict__" : Str)) = false)
    (sw : ∀ X : Cx, swapsWith (.Name f p3) (some (.Attribute (.Name sf p1) f p2)) p4.line X.env = pure false) : FnOk P w K mg base CX0 1 fI fd ps (spGvT K f) := by
  refine F.ok sc (fun vs H Q E h => ?_) (fun cdv A outer s H vs Q E hr h => ?_)
  · obtain ⟨a, C, y, rfl, _⟩ := h
    rw [hps]
    rfl
  · obtain ⟨a, C, y, rfl, T, hno, ha, k⟩ := h
    rw [hb, hN]
    refine ⟨_, pss_one (ps_ostT (pe_var (i := 0) (x := sf) rfl hl1 d1 d2) (pe_var (i := 1) (x := f) rfl hl2 d3 d4) (sw _)), ?_⟩
    exact ⟨y, rfl, .ref a, rfl, a, C, rfl, T, hno, ha, fun dx h1 h2 => k dx h1 h2⟩
/-- an own error with one field, of any base -/
structure ErrT (T : Wd) (x : Str) (C : Addr) (f : Str) : Prop where
  oex : OexT T.K C
  mg : T.mg x = some (.ref C)
  no : PySem.W.findIn T.K (.ref C) f = some none
  ini : ∃ (fI : Addr) (fd : FuncData) (ps : List Str), PySem.W.findIn T.K (.ref C) "__init__" = some (some (.ref fI)) ∧ PySem.W.typeIn T.K (.ref fI) = some (.type "function") ∧ FnOk T.P T.w T.K T.mg T.base CX0 1 fI fd ps (spGvT T.K f) ∧ Binds T.K fd ps []
section
variable {X : Cx} {sp : Sp} {ta : TA} {x : Str} {C fI : Addr} {k : Nat} {fd : FuncData} {ps : List Str} {ds : List Value} {dvs : List V} {e : Expr} {es : List Expr} {p pos : Pos}
theorem pmk_oexT {CX : CXT} (T : OexT X.K C) (iC : PySem.W.findIn X.K (.ref C) "__init__" = some (some (.ref fI))) (tI : PySem.W.typeIn X.K (.ref fI) = some (.type "function"))
    (F1 : FnOk X.prog X.w X.K X.mg X.base CX k fI fd ps sp) (hr : Room (k + 1) X.A) (hb : Binds X.K fd ps ds) (hd : Vals dvs ds) (hx : Passes CX X (fun _ _ _ => False)) (hg : Gl X x) (hm : X.mg x = some (.ref C)) (ha : PA X (e :: es) ta)
    (hdb : (x == ("__debug__" : Str)) = false := by decide) (he : starEach (e :: es) X.env = (false, eval e X.env) :: starEach es X.env := by rfl) (hpl : (backTo pos (starEach es X.env)).any (·.1) = false := by rfl) :
    PMk X (.Call (.Name x p) (e :: es) [] pos) (tMkO C sp dvs ta) := by
  intro pins s σ H Q I h
  obtain ⟨B, newId, initId, tl, F, SF, nm, q, N, bs, bm, sn, sub, ab, col, dd, k0, k1, k2, k3, k5, hC, hbm⟩ := T.cls
  refine wpAny_Call_Name_kw (ld_glob I hg hm ?_ hdb)
  refine PySem.W.callWith_K (h₀ := X.base) I.ok.mod.kin T.kC (thn (ha.run pos pins s σ H _ I h) fun us s1 ⟨vs, H1, I1, r1, hz, q1⟩ => ⟨I1.kIn, ?_⟩) he hpl
  show wpAny _ _ (call (.ref C) us) _ _ _
  obtain ⟨hp, g, dr, tk, os⟩ := s1
  have hsz : hp.objs.size ≤ hp.objs.size + 1 := Nat.le_succ _
  have hn : H1 (hp.objs.size + 1) = none := I1.hok.fresh hsz
  have hq := q1 (hp.objs.size + 1) hn
  have kk : ∀ b o, hp.get? b = some o → ((hp.push (PySem.W.kdv_tup us)).push (PySem.HandSPX.excO C hp.objs.size)).get? b = some o := fun b o e => Heap.get?_push_of_some _ (Heap.get?_push_of_some _ e)
  have hget : ((hp.push (PySem.W.kdv_tup us)).push (PySem.HandSPX.excO C hp.objs.size)).get? (hp.objs.size + 1) = some (PySem.HandSPX.excO C hp.objs.size) := by heap_get
  have I2 : Inv X pins σ (upd H1 (hp.objs.size + 1) (exo (hp.objs.size + 1) C none)) ⟨(hp.push (PySem.W.kdv_tup us)).push (PySem.HandSPX.excO C hp.objs.size), g, dr, tk, os⟩ :=
    I1.laid (t' := tk) (a := hp.objs.size + 1) (o := exo (hp.objs.size + 1) C none) (h' := (hp.push (PySem.W.kdv_tup us)).push (PySem.HandSPX.excO C hp.objs.size)) kk hsz (exo_ok hget)
  have r2 : Vals (V.ref (hp.objs.size + 1) :: (vs ++ dvs)) (Value.ref (hp.objs.size + 1) :: (us ++ ds)) := .cons rfl (r1.append hd)
  have hl : (Value.ref (hp.objs.size + 1) :: us ++ ds).length = ps.length := by
    have e := r2.length
    rw [F1.len _ _ _ _ hq] at e
    exact e.symm
  have hus : us.length ≤ sizeLine := by
    rw [← Paired.length r1, sizeLine_eq]
    omega
  refine wpAny_call (PySem.HandSPX.call_own F (fun Y => refsT_contains Y bm hbm) (I1.kIn _ _ hC) (PySem.W.looks_findIn I1.kIn iC) (fun self => PySem.W.bind_fn I1.kIn self tI) hus
    (codeAny_mono (F1.run _ X.stack _ _ ⟨Value.ref (hp.objs.size + 1) :: us, []⟩ (Value.ref (hp.objs.size + 1) :: (us ++ ds)) _ _ (fun _ _ _ => False) (hr.make C us []) (I2.env0.make C us []) (hb _ (Value.ref (hp.objs.size + 1) :: us) I2.kIn hl) r2 hq) fun r s' hq' => ?_))
  cases r with
  | error er => exact hx pins σ _ _ er s' I2 hq'
  | ok fl =>
    cases fl with
    | ret u =>
      obtain ⟨v, H2, os2, bare2, un2, hok2, rv, ev, d, fs, ea, ed, hd1, q2⟩ := hq'
      subst ev
      obtain ⟨h2, g2, d2, t2, os'⟩ := s'
      exact ⟨rv, mk_end (raises_own T.exC T.tyC) I1 hsz kk un2 hok2 os2 bare2 ea ed hd1 q2⟩
    | next => exact False.elim hq'
    | brk => exact False.elim hq'
    | cont => exact False.elim hq'
end
section
variable {X : Cx} {μ : Md} {Γ : En} {Q : QE} {Po' : Po} {x : Str} {p pos pos2 : Pos} {e : Expr} {C : Addr} {f : Str}
theorem made_sub {H1 : Hp} {a dx : Addr} {v : V} (ha : H1 a = none) (hdx : H1 dx = none) : Sub H1 (upd (del (upd (upd (upd H1 a (exo a C none)) dx (exd dx [(f, v)])) a (exo a C (some dx))) a) dx (.xd [(f, v)])) := fun b o hb => by
  have nb : b ≠ dx := fun z => by rw [z, hdx] at hb; cases hb
  have na : b ≠ a := fun z => by rw [z, ha] at hb; cases hb
  rw [upd_ne nb, del_ne na, upd_ne na, upd_ne nb, upd_ne na]
  exact hb
/-- raise C(e), of any base -/
theorem xs_raiseT (T : ErrT (wdX X) x C f) (hc : X.calm = true) (tk : TkD X μ) (hr : Room 2 X.A) (hg : Gl X x) (h : XA X μ [e] Γ fun ds Γ1 => ∃ d, ds = [d] ∧ μ.E ⟨.ref C, some [(f, d)]⟩ Γ1) (hdb : (x == ("__debug__" : Str)) = false := by decide)
    (he : starEach [e] X.env = (false, eval e X.env) :: starEach [] X.env := by rfl) (hpl : (backTo pos (starEach [] X.env)).any (·.1) = false := by rfl) :
    XS X μ (.Raise (some (.Call (.Name x p) [e] [] pos)) none pos2) Γ Po' := by
  obtain ⟨fI, fd, ps, i1, i2, F, b⟩ := T.ini
  refine PS.imp ps_u fun D σ H ⟨R, _⟩ => ⟨_, ps_raise hc tk (pmk_oexT (dvs := []) T.oex i1 i2 F hr b .nil (fun _ _ _ _ _ _ _ z => z.elim) hg T.mg h hdb he hpl), R, fun vs H1 ds Γ1 s1 f1 R1 r1 ⟨d, ed, hE⟩ => ?_⟩
  subst ed
  obtain ⟨v, rfl, rv⟩ : ∃ v, vs = [v] ∧ Rp X.K (Vw μ Γ1 H1) v d := by
    cases r1 with
    | cons rv rn => cases rn; exact ⟨_, rfl, rv⟩
  refine ⟨by simp, fun a ha => ⟨a, C, v, rfl, T.oex, T.no, upd_same, fun dx hdx hda => ⟨rfl, dx, [(f, v)], upd_same, ?_, ?_, ?_⟩⟩⟩
  · rw [upd_ne hda]
    exact upd_same
  · rw [upd_ne hda] at hdx
    exact hdx
  · rw [upd_ne hda] at hdx
    have hsub := made_sub (C := C) (f := f) (v := v) ha hdx
    refine ⟨⟨.ref C, some [(f, d)]⟩, Γ1, R1.more hsub, ⟨rfl, [(f, v)], ?_, .cons (rv.mono (Fw.of_sub (c := Γ1.c) hsub).sub) .nil⟩, hE⟩
    exact hid_some.mpr ⟨R1.fresh hdx, upd_same⟩
end
end Pdl
namespace LamX
open PySem PySem.Spec PyProof.Rows L2
section
variable {X : Cx} {pins : List (Addr × Obj)} {σ : L2.St} {H : Hp} {s : Shared}
theorem lam_make3 {c P : Addr} {params : Arguments} {body : Expr} {scope : Scope} {pos : Pos} {E : Value → Shared → Prop} {Q : Value → Shared → Prop} (I : Inv X pins σ H s) (TB : TabB X.base X.mg c P) (hcode : X.env.code = .ref c)
    (hT : TabS H P (X.env.qual ++ "<lambda>")) (hdef : defaultsOf params X.env = ([], [])) (hfree : ∀ y ∈ scope.names, y.2 = .free → ∃ c, X.env.cells.lookup y.1 = some c)
    (h : ∀ (f c' : Addr) (pm ctv : Value) (H1 : Hp) (s' : Shared), Inv X pins σ H1 s' → (∀ b o, b ≠ P → H b = some o → H1 b = some o) → TabS H1 P (X.env.qual ++ "<lambda>") →
      s'.heap.get? f = some (PySem.W.kla_obj "<lambda>" (X.env.qual ++ "<lambda>") params body scope (cloFrom X.env.cells scope.names []) pm c' ctv) → H1 f = none → f ∉ frs X.stack → H1 c' = some (CodeO c' (X.env.qual ++ "<lambda>")) → Q (.ref f) s') :
    wpAny (model X.prog X.w) X.A (eval (.Lambda params body scope pos) X.env) Q E s := by
  obtain ⟨ps, hP, ht, ha⟩ := id hT
  refine PySem.W.kla_eval hdef ?_
  have bP : s.heap.BuiltinsAt X.mg P := TB.bm.keeps I.bk
  have hP' : s.heap.get? P = some { cls := .none, data := .fields ps } := I.hok P _ hP
  have nofr : ∀ f, s.heap.objs.size ≤ f → f ∉ frs X.stack := fun f hf z => by
    rcases List.mem_cons.mp (I.stkSub _ z) with e | e
    · have h1 := I.lt
      rw [← e] at h1
      exact Nat.lt_irrefl _ (Nat.lt_of_lt_of_le h1 hf)
    · exact I.nofs hf e
  cases hc : codeAmong pos ps.toList with
  | none =>
    refine PySem.W.kla_makeFunction (mg := X.mg) (c := c) (P := P) (ps := ps) (closure_ok hfree) I.ok.glob (I.mod.glob.keeps I.bk) hcode (TB.code.keeps I.bk) hP' ht hc TB.gP bP fun c' ctv h' tk hx hge hlt hrec htb => ?_
    obtain ⟨c2, oc, vs, t, e2, hoc, hd, hv⟩ := hrec
    cases e2
    have hsz : s.heap.objs.size ≤ h'.objs.size := Nat.le_trans hge (Nat.le_of_lt hlt)
    have nC : H c' = none := I.hok.fresh hge
    have I1 := inv_table (t' := tk) (more := #[rawInt pos.line, rawInt pos.col, .ref c']) (h' := h'.push (PySem.W.kla_obj "<lambda>" (X.env.qual ++ "<lambda>") params body scope (cloFrom X.env.cells scope.names []) ((X.mg "__name__").getD .none) c' ctv)) I hP
      (fun b o hb e => Heap.get?_push_of_some _ (hx b o hb e)) (Heap.get?_push_of_some _ htb) hge ⟨oc, vs, t, Heap.get?_push_of_some _ hoc, hd, hv⟩
    have hS : ∀ b o, b ≠ P → H b = some o → upd (upd H P (.tbl (ps ++ #[rawInt pos.line, rawInt pos.col, .ref c']))) c' (CodeO c' (X.env.qual ++ "<lambda>")) b = some o := fun b o n e => by
      rw [upd_ne (ne_of_none e nC), upd_ne n]
      exact e
    have eL : (ps ++ #[rawInt pos.line, rawInt pos.col, .ref c']).toList = ps.toList ++ [rawInt pos.line, rawInt pos.col, .ref c'] := by simp
    have ncP : ∀ c0, H c0 = some (CodeO c0 (X.env.qual ++ "<lambda>")) → c0 ≠ P := fun c0 e z => by
      rw [z, hP] at e
      exact codeO_ne ps (Option.some.inj e).symm
    refine h h'.objs.size c' ((X.mg "__name__").getD .none) ctv _ _ I1 hS ⟨_, by rw [upd_ne (ne_of_none hP nC), upd_same], by rw [eL]; exact PySem.TriplesOk_snoc _ _ _ _ ht, fun p' cv hcv => ?_⟩ (Heap.get?_push_size _ rfl) ?_ (nofr _ hsz) upd_same
    · rw [eL] at hcv
      rcases among_app _ ht hcv with z | z
      · obtain ⟨c0, e1, e2⟩ := ha p' cv z
        exact ⟨c0, e1, hS _ _ (ncP c0 e2) e2⟩
      · exact ⟨c', z, upd_same⟩
    · have n1 : h'.objs.size ≠ c' := Nat.ne_of_gt hlt
      have n2 : h'.objs.size ≠ P := Nat.ne_of_gt (Nat.lt_of_lt_of_le (Heap.lt_size hP') hsz)
      rw [upd_ne n1, upd_ne n2]
      exact I.hok.fresh hsz
  | some cv =>
    obtain ⟨c', e, hco⟩ := ha pos cv hc
    subst e
    refine PySem.W.kla_makeFunctionHit (mg := X.mg) (c := c) (P := P) (ps := ps) (closure_ok hfree) I.ok.glob (I.mod.glob.keeps I.bk) hcode (TB.code.keeps I.bk) hP' ht hc bP fun ctv h' tk hx hsz => ?_
    have I1 : Inv X pins σ H { s with heap := h'.push (PySem.W.kla_obj "<lambda>" (X.env.qual ++ "<lambda>") params body scope (cloFrom X.env.cells scope.names []) ((X.mg "__name__").getD .none) c' ctv), toks := tk } := I.kept fun b o e => Heap.get?_push_of_some _ (hx b o e)
    exact h h'.objs.size c' ((X.mg "__name__").getD .none) ctv H _ I1 (fun _ _ _ e => e) hT (Heap.get?_push_size _ rfl) (I.hok.fresh hsz) (nofr _ hsz) hco
/-- x(), in the def that got the lambda; what is wished of an exception may look at the slots -/
theorem pe_act2 {CXg : CXT} {Eg : XK} {Ng : List Str} {qg : Str} {sg : Scope} {g f c' : Addr} {cdg pm ctv : Value} {params : Arguments} {body : Expr} {scope : Scope} {k i : Nat} {a : Str} {pn : List (Addr × Obj)} {xe : Value → Shared → Prop} {W : WX} {E : L2.St → XK} {tb : XK → TE} {p1 p2 : Pos}
    (I : Inv X pins σ H s) (L : LamS X.env.scope scope) (hf : s.heap.get? f = some (PySem.W.kla_obj "<lambda>" (X.env.qual ++ "<lambda>") params body scope (cloFrom X.env.cells scope.names []) pm c' ctv)) (hfn : H f = none) (hfr : f ∉ frs X.stack)
    (hbind : bindArgs (PySem.W.kla_fn "<lambda>" (X.env.qual ++ "<lambda>") params body scope (cloFrom X.env.cells scope.names []) pm (.ref c') ctv) ⟨[], []⟩ = pure [])
    (tk : Takes ((cxOf CXg X.prog X.w X.K X.mg X.base Ng qg sg g cdg X.A X.stack s H Eg).tr pn xe) W) (hW : ∀ cls d σ' H', E σ' cls d H' → W cls d σ' H') (hr : Room (k + 1) (X.A.deeper (envOfC qg sg s.heap.objs.size g cdg)))
    (hbody : ∀ (A : Around) (outer : List Env) (s : Shared) (H : Hp) (E : XK), Room k (A.deeper (lamEnv X scope s.heap.objs.size f c')) → PE (lamCx X A outer s H E scope f c') body (tb E))
    (hN : Ng[i]? = some a) (hv : Vis sg a) (hd : (a == ("__debug__" : Str)) = false := by decide) (hcd : (a == ("__classdict__" : Str)) = false := by decide) :
    PE ((cxOf CXg X.prog X.w X.K X.mg X.base Ng qg sg g cdg X.A X.stack s H Eg).tr pn xe) (.Call (.Name a p1) [] [] p2)
      (fun σZ HZ Q => σZ[i]? = some (some (.ref f)) ∧ HZ c' = some (CodeO c' (X.env.qual ++ "<lambda>")) ∧ tb (E σZ) σ HZ Q) := by
  refine ⟨fun pinsZ sZ σZ HZ Q IZ h => ?_⟩
  obtain ⟨hs, hc, ht⟩ := h
  refine wpAny_Call_Name_kw (thn ((pe_var (pos := p1) (i := i) hN hv hd hcd).run pinsZ sZ σZ HZ (fun v H1 => v = .ref f ∧ H1 = HZ) IZ ⟨.ref f, hs, rfl, rfl⟩) fun u s1 ⟨v, H1, I1, r1, q1⟩ => ?_)
  obtain ⟨ev, eH⟩ := q1
  subst ev
  rw [eH] at I1
  obtain rfl : u = Value.ref f := r1
  have of1 : s1.heap.get? f = some (PySem.W.kla_obj "<lambda>" (X.env.qual ++ "<lambda>") params body scope (cloFrom X.env.cells scope.names []) pm c' ctv) := I1.base.keep f _ hf hfn hfr (fun z => nomatch (show f ∈ ([] : List Addr) from z))
  refine PySem.W.callWith_F0 ⟨_, _, _, _, of1⟩ ?_
  have un : Un (frs X.stack) [] H HZ s.heap s1.heap := I1.base
  obtain ⟨⟨oc, vs, t, hoc, hdc, hvc⟩, _, _⟩ := I1.hok c' _ hc
  have rc : codeAny (model X.prog X.w) (X.A.deeper (envOfC qg sg s.heap.objs.size g cdg)) (.call (.ref f) ⟨[], []⟩) (CR (L2.CX X.prog X.w) (envOfC qg sg s.heap.objs.size g cdg :: X.stack) X.prog X.w HZ s1 Q (E σZ)) s1 := by
    refine PySem.W.kla_callFunE hr.depth of1 rfl L.co L.gen rfl ⟨c', oc, vs, t, rfl, hoc, hdc, hvc⟩ ?_
    rw [hbind]
    refine wpAny_pure (wpAny_newFunctionEnv (fun y hy => (L.own y hy).2) (fun y hy => absurd hy (by simp)) (fun h₁ hns hsb => ⟨I1.nolimit.fresh _ hsb, ?_⟩) L.kind)
    show codeAny _ _ (.expr body (lamEnv X scope s1.heap.objs.size f c')) _ _
    have kp : ∀ b o, s1.heap.get? b = some o → h₁.get? b = some o := fun b o e => hsb.extBut b o (Nat.ne_of_lt (Heap.lt_size e)) (Heap.get?_push_of_some _ e)
    have J : Inv (lamCx X (X.A.deeper (envOfC qg sg s.heap.objs.size g cdg)) (envOfC qg sg s.heap.objs.size g cdg :: X.stack) s1 HZ (E σZ) scope f c') [] σ HZ { s1 with heap := h₁, toks := s1.toks + ([] : List (Str × Value)).length } :=
      lam_start2 I L I1.env0 hr.hd un hns kp
    refine PySem.W.kla_codeExpr (wpAny_mono ((hbody _ _ s1 HZ (E σZ) (hr.deeper _)).run [] _ _ HZ Q J ht) (fun v s' hq => ?_) fun e s' hq => hq)
    obtain ⟨w', H', J', rv, q⟩ := hq
    exact ⟨w', H', J'.os, J'.bare, J'.base, J'.hok, rv, q⟩
  refine wpAny_call (codeAny_mono rc fun r s' hq => ?_)
  cases r with
  | error e => exact tk e s' (XE.of_call I1 (fun cls d H' h => hW cls d σZ H' h) hq)
  | ok fl =>
    cases fl with
    | ret u => exact I1.after hq
    | next => exact False.elim hq
    | brk => exact False.elim hq
    | cont => exact False.elim hq
/-- the def that calls what it got: a calls it; TT: what it makes of the lambda's reading -/
def GivesTo2 (X : Cx) (Ng : List Str) (x : Str) (sg : Scope) (g : Addr) (cdg : Value) (bg : List Stmt) (a : Str) (q : Str) (TT : (XK → Hp → VK → Prop) → Hp → VK → Prop) : Prop :=
  ∀ (f c' : Addr) (s : Shared) (H : Hp) (Q : VK) (tl : XK → Hp → VK → Prop),
    (∀ (W : WX) (pn : List (Addr × Obj)) (xe : Value → Shared → Prop) (E : L2.St → XK) (p1 p2 : Pos), Takes ((cxOf C8.CX0 X.prog X.w X.K X.mg X.base Ng x sg g cdg X.A X.stack s H C8.E0).tr pn xe) W → (∀ cls d σ' H', E σ' cls d H' → W cls d σ' H') →
      PE ((cxOf C8.CX0 X.prog X.w X.K X.mg X.base Ng x sg g cdg X.A X.stack s H C8.E0).tr pn xe) (.Call (.Name a p1) [] [] p2) (fun σZ HZ Q => σZ[0]? = some (some (.ref f)) ∧ HZ c' = some (CodeO c' q) ∧ tl (E σZ) HZ Q)) →
    H c' = some (CodeO c' q) → TT tl H Q →
    ∃ t, PSs (cxOf C8.CX0 X.prog X.w X.K X.mg X.base Ng x sg g cdg X.A X.stack s H C8.E0).nox bg t ∧ t { nx := fun _ H' => Q .non H', rt := Q } (L2.start Ng [.ref f]) H
/-- what stays -/
def tLam3 (P : Addr) (q : Str) (TT : (XK → Hp → VK → Prop) → Hp → VK → Prop) (t : XK → TE) : TE := fun σ H Q => TabS H P q ∧ ∀ H1, (∀ b o, b ≠ P → H b = some o → H1 b = some o) → TabS H1 P q → TT (fun E H' Q' => t E σ H' Q') H1 Q
/-- x(lambda: body) -/
theorem pe_lamcall3 {TT : (XK → Hp → VK → Prop) → Hp → VK → Prop} {x a : Str} {g c P : Addr} {k : Nat} {pg : Arguments} {bg : List Stmt} {sg : Scope} {dV kV doc pm cdv ct oc : Value} {an od : Option Addr} {osl : Array (Option Value)} {Ng : List Str}
    {params : Arguments} {body : Expr} {scope : Scope} {t : XK → TE} {p lpos pos : Pos} (hg : Gl X x) (hm : X.mg x = some (.ref g)) (hk : PySem.W.keepIn X.K (.ref g) = true)
    (lk : X.K.lookup g = some ⟨oc, od, .func (PySem.W.fnOf x x pg bg sg dV kV doc pm an cdv ct), osl⟩) (hcg : PySem.W.codeIn X.K cdv x = true) (hb : L2.Binds X.K (PySem.W.fnOf x x pg bg sg dV kV doc pm an cdv ct) [a] []) (Sg : FnScope Ng [a] sg) (hNg : Ng[0]? = some a) (hva : Vis sg a)
    (hG : GivesTo2 X Ng x sg g cdv bg a (X.env.qual ++ "<lambda>") TT)
    (TB : TabB X.base X.mg c P) (hcode : X.env.code = .ref c) (hr : Room (k + 2) X.A) (L : LamS X.env.scope scope) (hdef : defaultsOf params X.env = ([], []))
    (hbind : ∀ (q : Str) (cl : List (Str × Addr)) (pm cv ctv : Value), bindArgs (PySem.W.kla_fn "<lambda>" q params body scope cl pm cv ctv) ⟨[], []⟩ = pure [])
    (hbody : ∀ (A : Around) (outer : List Env) (s : Shared) (H : Hp) (E : XK) (f c' : Addr), Room k (A.deeper (lamEnv X scope s.heap.objs.size f c')) → PE (lamCx X A outer s H E scope f c') body (t E))
    (hdb : (x == ("__debug__" : Str)) = false := by decide) (hd : (a == ("__debug__" : Str)) = false := by decide) (hcd : (a == ("__classdict__" : Str)) = false := by decide) :
    PE X (.Call (.Name x p) [.Lambda params body scope lpos] [] pos) (tLam3 P (X.env.qual ++ "<lambda>") TT t) := by
  refine ⟨fun pins s σ H Q I h => ?_⟩
  obtain ⟨hT, h⟩ := h
  refine wpAny_Call_Name_kw (ld_glob I hg hm ?_ hdb)
  refine PySem.W.callWith_K (h₀ := X.base) I.ok.mod.kin hk ?_ (by rfl) (by rfl)
  show wpAny _ _ (spliced ((false, eval (.Lambda params body scope lpos) X.env) :: backTo pos (starEach [] X.env))) _ _ s
  refine Calls.spliced_cons (lam_make3 I TB hcode hT hdef (L.has I.ok) fun f c' pm' ctv H1 s' I1 eN T1 hf hfn hfr hco => ?_)
  refine Calls.spliced_nil ⟨I1.kIn, ?_⟩
  have rc : codeAny (model X.prog X.w) X.A (.call (.ref g) ⟨[.ref f], []⟩) (CR C8.CX0 X.stack X.prog X.w H1 s' Q C8.E0) s' := by
    refine run_ofS (N := Ng) (ps := [a]) (us := [.ref f]) (vs := [.ref f]) lk hcg Sg hr I1.env0 (hb s' [.ref f] I1.kIn rfl) (.cons rfl .nil) rfl fun hr' => ?_
    obtain ⟨t', ht', hq'⟩ := hG f c' s' H1 Q (fun E H' Q' => t E σ H' Q') (fun W pn xe E p1 p2 tk hW => pe_act2 (i := 0) (tb := t) I1 L hf hfn hfr (hbind _ _ _ _ _) tk hW hr' (fun A outer s H E hr2 => hbody A outer s H E f c' hr2) hNg hva hd hcd) hco (h H1 eN T1)
    exact ⟨t', ht'.nox, hq'⟩
  refine wpAny_call (codeAny_mono rc fun r s2 hq => ?_)
  cases r with
  | error e => exact (show False from hq).elim
  | ok fl =>
    cases fl with
    | ret u => exact I1.after hq
    | next => exact False.elim hq
    | brk => exact False.elim hq
    | cont => exact False.elim hq
end
end LamX
namespace Pdl
open PySem L2 PyProof.Rows
/-- what is asked of a lambda's call: its cells, what it gives or raises, what the def makes of it -/
def TTD (K : PySem.W.Frag) (φ : Value → Option Bool) (S : PSp) : (XK → Hp → VK → Prop) → Hp → VK → Prop := fun tl H Q =>
  ∃ (m : Addr → Bool) (c : Cs) (Qd : D → Cs → Prop) (Ex : Xn → Cs → Prop) (Qr : D → Cs → Prop), COk K m H c ∧
    (∀ H1 E1 Q1, Fw c c H H1 → COk K m H1 c → (∀ v H2 d c2, Fw c c2 H1 H2 → COk K m H2 c2 → Rp K (hid (tot m c2) H2) v d → Qd d c2 → Q1 v H2) →
      (∀ cls dx H2 x c2, Fw c c2 H1 H2 → COk K m H2 c2 → ExRp K (hid (tot m c2) H2) cls dx x → Ex x c2 → E1 cls dx H2) → tl E1 H1 Q1) ∧
    (∀ d c2, Qd d c2 → Qr (.lst [.str "told", d]) c2) ∧
    (∀ x c2, Ex x c2 → φ x.cls = some true ∧ ∃ C, x.cls = .ref C ∧ ∀ Qc : D → Prop, (∀ d, Qr d c2 → Qc d) → S [.exc C (x.fs.getD [])] Qc) ∧
    (∀ v H2 d c2, Fw c c2 H H2 → COk K m H2 c2 → Rp K (hid (tot m c2) H2) v d → Qr d c2 → Q v H2)
/-- x(), in the def that got the lambda -/
theorem xe_act {Z : Cx} {f c' : Addr} {q : Str} {tl : XK → Hp → VK → Prop} {a : Str} {p1 p2 : Pos} {μ : Md} {sc : List (Option D)} {c : Cs} {H : Hp} {Qd : D → Cs → Prop} {Ex : Xn → Cs → Prop} {Q : QE} (h0 : H c' = some (LamX.CodeO c' q)) (hic : inC c c' = false)
    (act : ∀ (W : WX) (E : L2.St → XK), L2.Takes Z W → (∀ cls d σ' H', E σ' cls d H' → W cls d σ' H') → PE Z (.Call (.Name a p1) [] [] p2) (fun σZ HZ Q => σZ[0]? = some (some (.ref f)) ∧ HZ c' = some (LamX.CodeO c' q) ∧ tl (E σZ) HZ Q)) (tk : TkD Z μ)
    (hs : sc[0]? = some (some (.ref f))) (hc0 : μ.c0 = c) (hH0 : Fw c c H μ.H0)
    (ht : ∀ H1 E1 Q1, Fw c c H H1 → COk Z.K μ.m H1 c → (∀ v H2 d c2, Fw c c2 H1 H2 → COk Z.K μ.m H2 c2 → Rp Z.K (hid (tot μ.m c2) H2) v d → Qd d c2 → Q1 v H2) →
      (∀ cls dx H2 x c2, Fw c c2 H1 H2 → COk Z.K μ.m H2 c2 → ExRp Z.K (hid (tot μ.m c2) H2) cls dx x → Ex x c2 → E1 cls dx H2) → tl E1 H1 Q1)
    (k1 : ∀ d c2, Qd d c2 → Q d ⟨sc, c2⟩) (k2 : ∀ x c2, Ex x c2 → μ.E x ⟨sc, c2⟩) : XE Z μ (.Call (.Name a p1) [] [] p2) ⟨sc, c⟩ Q := by
  refine PE.imp (act (fun cls d σ H => wD Z.K μ σ cls d H) (fun σ => wD Z.K μ σ) tk fun _ _ _ _ h => h) fun σ H1 q1 ⟨R, k⟩ => ?_
  have f1 : Fw c c H H1 := by
    have := R.fw
    rw [hc0] at this
    exact hH0.trans this
  refine ⟨?_, (f1 _ _ hic h0).1, ht H1 _ _ f1 R.co (fun v H2 d c2 f2 co2 rv hq => ?_) fun cls dx H2 x c2 f2 co2 rx hx => ?_⟩
  · obtain ⟨v, hv, rv⟩ := R.slots.2 0 _ hs
    cases rv
    exact hv
  · have R2 : Rel Z.K μ H2 σ ⟨sc, c2⟩ := ⟨co2, R.slots.mono f2.sub, R.fw.trans f2⟩
    exact k v H2 d ⟨sc, c2⟩ rfl f2 R2 rv (k1 _ _ hq)
  · have R2 : Rel Z.K μ H2 σ ⟨sc, c2⟩ := ⟨co2, R.slots.mono f2.sub, R.fw.trans f2⟩
    exact ⟨x, ⟨sc, c2⟩, R2, rx, k2 _ _ hx⟩
end Pdl
namespace Pdl
open PySem L2 PyProof.Rows
abbrev RmW := L2H.RoomH
/-- the context of such a def's body -/
abbrev bXW (P : Program) (w : World) (K : PySem.W.Frag) (mg : Str → Option Value) (base : Heap) (N : List Str) (qual : Str) (st : Stmt) (f : Addr) (cdv : Value) (A : Around) (outer : List Env) (s : Shared) (H : Hp) (E : XK) : Cx :=
  ({ cxOf CX0 P w K mg base N qual (defScope st) f cdv A outer s H E with calm := false } : Cx).nox
theorem inv_startW {CX : CXT} {P : Program} {w : World} {K : PySem.W.Frag} {mg : Str → Option Value} {base : Heap} {N ps : List Str} {qual : Str} {scope : Scope} {f : Addr} {cd : Value} {A : Around} {outer : List Env} {s s1 : Shared} {H : Hp} {E : XK} {us : List Value} {vs : List V}
    (S : FnScope N ps scope) (e0 : Env0 P w K mg base A outer s H) (hl : vs.length = ps.length) (r : Vals vs us)
    (x : InCallC s s.heap.objs.size (bindL (envOfC qual scope s.heap.objs.size f cd).kindOf (ps.zip us) fun _ => none) (cellsFrom (s.heap.objs.size + 1) scope.names []) (bindC (envOfC qual scope s.heap.objs.size f cd).kindOf (ps.zip us) fun _ => none) s1) :
    Inv ({ cxOf CX P w K mg base N qual scope f cd A outer s H E with calm := false } : Cx) [] (L2.start N vs) H s1 := by
  have hpl : ps.length ≤ N.length := by have := congrArg List.length S.pre; rw [List.length_take] at this; omega
  obtain ⟨h1, tk, rfl, hk⟩ := x.done
  have noA : ∀ b : Addr, b ∉ ({ cxOf CX P w K mg base N qual scope f cd A outer s H E with calm := false } : Cx).ex := fun b z => absurd (show b ∈ ([] : List Addr) from z) (by simp)
  refine ⟨⟨e0.mod, S.kind, rfl, rfl, Nat.le_refl _, fun y z c h1 h2 => ?_, fun y hy => ?_, fun y c _ h => ?_, (fun z => Bool.noConfusion (show false = true from z)), Around.frames_deeper e0.frames, .inr ⟨rfl, rfl⟩, fun b z => absurd z (noA b), e0.bs, e0.bsz, fun b _ _ => noA b, fun b z => absurd z (noA b), e0.funs, e0.frf⟩,
    rfl, e0.bare, Un.kept hk, ⟨_, x.toInCall.ns, fun i y v h1 h2 h3 => ?_⟩, fun y c h => ⟨_, x.cell y c h⟩, e0.hok.fresh (Nat.le_refl _), fun y c h => ?_, fun q hq => absurd (show q ∈ ([] : List (Addr × Obj)) from hq) (by simp), e0.hok.kept hk, ?_⟩
  · exact name_of_addr x.apart (PySem.mem_of_lookup h1) (PySem.mem_of_lookup h2)
  · have hy : scope.names.lookup y = some .cell ∨ scope.names.lookup y = some .free := hy
    rcases hy with hy | hy
    · exact cell_has hy
    · exact absurd rfl (S.nofree _ (PySem.mem_of_lookup hy))
  · exact Nat.le_of_lt (x.above y c (PySem.mem_of_lookup h))
  · have hi : i < vs.length := by
      unfold L2.start at h2
      by_cases hi : i < vs.length
      · exact hi
      · rw [List.getElem?_append_right (by simpa using hi)] at h2
        rw [List.getElem?_replicate] at h2
        split at h2 <;> cases h2
    have ha : vs[i]? = some v := by
      unfold L2.start at h2
      rw [List.getElem?_append_left (by simpa using hi), List.getElem?_map] at h2
      cases e : vs[i]? with
      | none => rw [e] at h2; cases h2
      | some a => rw [e] at h2; cases h2; rfl
    obtain ⟨u, hu, rv⟩ := r.get ha
    have hp : ps[i]? = some y := by
      rw [← S.pre, List.getElem?_take_of_lt (by omega)]; exact h1
    have ndP : ps.Nodup := by rw [← S.pre]; exact S.nd.sublist (List.take_sublist _ _)
    refine ⟨u, rv, ?_⟩
    rcases S.par y (List.mem_of_getElem? hp) with k | k
    · exact .inl ⟨k, bindL_get ndP hp hu k⟩
    · obtain ⟨c, e⟩ := cell_has (n := s.heap.objs.size + 1) k
      refine .inr ⟨.inl k, c, e, ?_⟩
      have q := x.cell y c e
      rw [bindC_get ndP hp hu (by show scope.names.lookup y ≠ _; rw [k]; decide)] at q
      exact q
  · exact e0.hok.fresh (Nat.le_of_lt (x.above y c (PySem.mem_of_lookup h)))
  · unfold L2.start
    show _ = N.length
    rw [List.length_append, List.length_map, List.length_replicate]
    omega
structure FnW (P : Program) (w : World) (K : PySem.W.Frag) (mg : Str → Option Value) (base : Heap) (k : Nat) (f : Addr) (fd : FuncData) (ps : List Str) (sp : Sp) : Prop where
  len : ∀ vs H Q E, sp vs H Q E → vs.length = ps.length
  run : ∀ (A : Around) (outer : List Env) (s : Shared) (H : Hp) (args : Args) (us : List Value) (vs : List V) (Q : VK) (E : XK), RmW k A → A.guards = some [] → Env0 P w K mg base A outer s H → BindsTo s fd args (ps.zip us) → Vals vs us → sp vs H Q E →
    codeAny (model P w) A (.call (.ref f) args) (CR CX0 outer P w H s Q E) s
def CalW (P : Program) (w : World) (K : PySem.W.Frag) (mg : Str → Option Value) (base : Heap) (x : Str) (k : Nat) (ps : List Str) (S : SpD) : Prop :=
  ∃ (f : Addr) (fd : FuncData), mg x = some (.ref f) ∧ PySem.W.keepIn K (.ref f) = true ∧ FnW P w K mg base k f fd ps (spD K S) ∧ Binds K fd ps []
section
variable {P : Program} {w : World} {K : PySem.W.Frag} {mg : Str → Option Value} {base : Heap}
theorem fn_W {x qual : Str} {st : Stmt} {f : Addr} {fd : FuncData} {N ps : List Str} {k : Nat} {sp : Sp} (F : Fun K x qual st f fd) (sc : FnScope N ps (defScope st)) (len : ∀ vs H Q E, sp vs H Q E → vs.length = ps.length)
    (hbody : ∀ (cdv : Value) (A : Around) (outer : List Env) (s : Shared) (H : Hp) (vs : List V) (Q : VK) (E : XK), RmW k (bXW P w K mg base N qual st f cdv A outer s H E).A → (bXW P w K mg base N qual st f cdv A outer s H E).A.guards = some [] → sp vs H Q E →
      ∃ t, PSs (bXW P w K mg base N qual st f cdv A outer s H E) (defBody st) t ∧ t { nx := fun _ H' => Q .non H', rt := Q } (L2.start N vs) H) : FnW P w K mg base (k + 1) f fd ps sp := by
  obtain ⟨oc, od, kV, doc, pm, an, cdv, ct, osl, rfl, lk, hcd⟩ := F.ex
  refine ⟨len, fun A outer s₀ H₀ args us vs Q E room gd en bnd rel hsp => ?_⟩
  have kin : K.In s₀.heap := en.mod.kin.keeps fun b o z => (en.bs b o z).1
  have nol : s₀.heap.NoLimit := en.mod.nolimit.keeps fun b o z => (en.bs b o z).1
  have kinds : ∀ z ∈ ps.zip us, (defScope st).names.lookup z.1 = some .local ∨ ((defScope st).names.lookup z.1 = some .cell ∧ ((cellsFrom (s₀.heap.objs.size + 1) (defScope st).names []).lookup z.1).isSome = true) := fun ⟨nm, vl⟩ hz => by
    rcases sc.par nm (List.of_mem_zip hz).1 with g | g
    · exact .inl g
    · exact .inr ⟨g, PySem.W.cellsFrom_some _ _ _ (.inl g)⟩
  refine codeAny_call_function room.depth (kin _ _ lk) rfl sc.co sc.gen rfl (PySem.W.codeRec_of kin hcd) (bnd _ _ _ _ ?_)
  refine wpAny_newFunctionEnv_cells sc.kind kinds fun env he s₁ icl => ?_
  subst he
  refine ⟨nol.keeps icl.toInCall.keep, codeAny_func ?_⟩
  obtain ⟨t, pt, ht⟩ := hbody cdv A outer s₀ H₀ vs Q E (room.deeper _) gd hsp
  have inv : Inv ({ cxOf CX0 P w K mg base N qual (defScope st) f cdv A outer s₀ H₀ E with calm := false } : Cx) [] (L2.start N vs) H₀ s₁ := inv_startW sc en (len _ _ _ _ hsp) rel icl
  refine wpAny_mono (pt.nox.run [] s₁ (L2.start N vs) H₀ _ inv ht) (fun fl s₂ done => ?_) fun e s₂ z => z
  have close : ∀ {σ' : L2.St} {H' : Hp} {v : V} {u : Value}, Inv ({ cxOf CX0 P w K mg base N qual (defScope st) f cdv A outer s₀ H₀ E with calm := false } : Cx) [] σ' H' s₂ → RelV v u → Q v H' → CE outer P w H₀ s₀ Q u s₂ :=
    fun {σ' H' v u} J rv q => ⟨v, H', J.os, J.bare, J.base, J.hok, rv, q⟩
  cases fl with
  | next =>
    obtain ⟨_, _, J, q⟩ := done
    exact close (v := V.non) (u := Value.none) J rfl q
  | ret u =>
    obtain ⟨_, _, _, J, rv, q⟩ := done
    exact close J rv q
  | brk => exact done.elim fun _ ⟨_, _, q⟩ => q.elim
  | cont => exact done.elim fun _ ⟨_, _, q⟩ => q.elim
theorem calw_of {x : Str} {st : Stmt} {N ps : List Str} {k : Nat} {S : SpD} (D : Def K mg x ps st) (sc : FnScope N ps (defScope st)) (len : ∀ ds c Q E, S ds c Q E → ds.length = ps.length)
    (hbody : ∀ (f : Addr) (cdv : Value) (A : Around) (outer : List Env) (s : Shared) (H : Hp) (E0 : XK), RmW k (bXW P w K mg base N x st f cdv A outer s H E0).A → (bXW P w K mg base N x st f cdv A outer s H E0).A.guards = some [] →
      ∀ m ds c Q E, S ds c Q E → XB (bXW P w K mg base N x st f cdv A outer s H E0) (mdOf m c H E) (defBody st) ⟨startD N ds, c⟩ (poOf Q)) : CalW P w K mg base x (k + 1) ps S := by
  obtain ⟨f, fd, h1, h2, F, b⟩ := D
  refine ⟨f, fd, h1, h2, fn_W F sc (fun vs H Q E h => ?_) fun cdv A outer s H vs Q E hr gd h => ?_, b⟩
  · obtain ⟨m, ds, c, _, r, hs⟩ := h
    rw [r.length]
    exact len _ _ _ _ hs
  · exact body_D (X := bXW P w K mg base N x st f cdv A outer s H E) rfl (fun m ds c Q' E' _ hs => hbody f cdv A outer s H E hr gd m ds c Q' E' hs) h
end
section
variable {X : Cx} {μ : Md} {Γ : En} {S : SpD} {Q : QE} {k : Nat} {x : Str} {ps : List Str} {p pos : Pos} {e : Expr} {es : List Expr}
theorem pe_callW {f : Addr} {fd : FuncData} {sp : Sp} {E : XK} {t : TA} (F : FnW X.prog X.w X.K X.mg X.base k f fd ps sp) (hr : RmW k X.A) (gd : X.A.guards = some []) (hg : Gl X x) (hm : X.mg x = some (.ref f)) (hk : PySem.W.keepIn X.K (.ref f) = true) (hb : Binds X.K fd ps [])
    (ha : PA X (e :: es) t) (hdb : (x == ("__debug__" : Str)) = false := by decide) (he : starEach (e :: es) X.env = (false, eval e X.env) :: starEach es X.env := by rfl) (hpl : (backTo pos (starEach es X.env)).any (·.1) = false := by rfl) :
    PE X (.Call (.Name x p) (e :: es) [] pos) (fun σ H Q => t σ H fun vs H1 => sp vs H1 Q E) := by
  refine ⟨fun pins s σ H Q I h => ?_⟩
  refine wpAny_Call_Name_kw (ld_glob I hg hm ?_ hdb)
  refine PySem.W.callWith_K (h₀ := X.base) I.ok.mod.kin hk (thn (ha.run pos pins s σ H _ I h) fun us s1 ⟨vs, H1, I1, r, q⟩ => ⟨I1.kIn, ?_⟩) he hpl
  have hl : us.length = ps.length := by rw [← r.length]; exact F.len _ _ _ _ q
  have b := hb s1 us I1.kIn (by rw [List.append_nil]; exact hl)
  rw [List.append_nil] at b
  refine wpAny_call (codeAny_mono (F.run X.A X.stack s1 H1 ⟨us, []⟩ us vs Q E hr gd I1.env0 b r q) fun r s' hq => ?_)
  cases r with
  | error e => exact False.elim hq
  | ok fl =>
    cases fl with
    | ret u => exact I1.after hq
    | next => exact False.elim hq
    | brk => exact False.elim hq
    | cont => exact False.elim hq
theorem xe_callW (C : CalW X.prog X.w X.K X.mg X.base x k ps S) (hr : RmW k X.A) (gd : X.A.guards = some []) (hg : Gl X x) (h : XA X μ (e :: es) Γ (Asks μ S Q)) (hdb : (x == ("__debug__" : Str)) = false := by decide)
    (he : starEach (e :: es) X.env = (false, eval e X.env) :: starEach es X.env := by rfl) (hpl : (backTo pos (starEach es X.env)).any (·.1) = false := by rfl) : XE X μ (.Call (.Name x p) (e :: es) [] pos) Γ Q := by
  obtain ⟨f, fd, h1, h2, F, b⟩ := C
  refine PE.imp pe_u fun σ H q ⟨R, k⟩ => ⟨_, pe_callW (E := wD X.K μ σ) F hr gd hg h1 h2 b h hdb he hpl, R, fun vs H1 ds Γ1 s1 f1 R1 r1 hs => ?_⟩
  exact asks_sp R1 r1 hs fun v H2 d Γ2 s2 f2 R2 r2 hq => k v H2 d Γ2 (s2.trans s1) (f1.trans f2) R2 r2 hq
end
def CaW (T : Wd) (x : Str) (k : Nat) (S : SpD) : Prop := ∃ ps, CalW T.P T.w T.K T.mg T.base x k ps S
abbrev CpW (T : Wd) (x : Str) (k : Nat) (S : PSp) : Prop := CaW T x k (pS S)
abbrev cW (T : Wd) (N : List Str) (x : Str) (st : Stmt) (f : Addr) (cdv : Value) (A : Around) (outer : List Env) (s : Shared) (H : Hp) (E : XK) : Cx := bXW T.P T.w T.K T.mg T.base N x st f cdv A outer s H E
section
variable {T : Wd}
theorem cpw_of {x : Str} {st : Stmt} {N ps : List Str} {k : Nat} {S : PSp} (df : De T x ps st) (sc : FnScope N ps (defScope st)) (len : ∀ ds Q, S ds Q → ds.length = ps.length)
    (hbody : N.Nodup → ∀ (f : Addr) (cdv : Value) (A : Around) (outer : List Env) (s : Shared) (H : Hp) (E0 : XK), RmW k (cW T N x st f cdv A outer s H E0).A → (cW T N x st f cdv A outer s H E0).A.guards = some [] →
      ∀ m ds (Q : D → Cs → Prop) E, S ds (fun d => Q d []) → XB (cW T N x st f cdv A outer s H E0) (mdOf m [] H E) (defBody st) ⟨startD N ds, []⟩ (poOf Q)) : CpW T x (k + 1) S :=
  ⟨ps, calw_of df sc (fun ds c Q E h => len ds _ h.2) fun f cdv A outer s H E0 hr gd m ds c Q E h => by
    obtain ⟨rfl, h⟩ := h
    exact hbody sc.nd f cdv A outer s H E0 hr gd m ds Q E h⟩
end
section
variable {X : Cx} {μ : Md} {Γ : En} {Q : QE} {k n : Nat} {x : Str} {p pos apos : Pos} {e o : Expr} {es : List Expr}
/-- f(e, ..), pure, where an exception may be handled -/
theorem xe_cpw {S : PSp} (C : CpW (wdX X) x k S) (hr : RmW n X.A) (gd : X.A.guards = some []) (hkn : k ≤ n) (hg : Gl X x) (h : XA X μ (e :: es) Γ fun ds Γ1 => ∀ Qc : D → Prop, (∀ d, Q d Γ1 → Qc d) → S ds Qc) (hdb : (x == ("__debug__" : Str)) = false := by decide)
    (he : starEach (e :: es) X.env = (false, eval e X.env) :: starEach es X.env := by rfl) (hpl : (backTo pos (starEach es X.env)).any (·.1) = false := by rfl) : XE X μ (.Call (.Name x p) (e :: es) [] pos) Γ Q := by
  obtain ⟨ps, C⟩ := C
  refine xe_callW C (hr.mono hkn) gd hg (PA.imp h fun σ H q ⟨R, k⟩ => ⟨R, fun vs H' ds Γ' s' f' R' r' hq => k vs H' ds Γ' s' f' R' r' (asks_p hq)⟩) hdb he hpl
end
end Pdl
namespace Pdl
open PySem L2 PyProof.Rows
section
variable {X : Cx} {μ : Md} {Γ : En} {P : Po}
/-- try, with what is known of the heap where it begins -/
theorem xs_tryF {body : List Stmt} {h₀ : ExceptHandler} {hds : List ExceptHandler} {l : List DCl} {pos : Pos} (hs : X.stack = X.env :: X.outer) (hf : X.env.frame = some X.env.locals) (hN : X.N.Nodup) (tk : TkD X μ)
    (hb : ∀ (H : Hp) (pn : List (Addr × Obj)) (xe : Value → Shared → Prop), Fw μ.c0 Γ.c μ.H0 H → TkD (X.tr pn xe) (mdT μ Γ H (wishD μ.E l)) → PassesOwn (model X.prog X.w) X.A X.env xe → XB (X.tr pn xe) (mdT μ Γ H (wishD μ.E l)) body Γ P)
    (hh : DOk X μ P (h₀ :: hds) l) : XS X μ (.Try body (h₀ :: hds) [] [] pos) Γ P := by
  refine PS.imp (ps_tryL (tb := tbD X body Γ P) hs hf hN tk (fun W pn xe tkW po => ?_) (clOf_ok hh)) fun D σ H ⟨R, k1, k2, k3, k4⟩ => ?_
  · refine PSs.imp pss_u fun D σ H ⟨μ', hW, hX, hS⟩ => ?_
    exact ⟨_, hX pn xe (tkW.imp fun cls d σ1 H1 z => hW cls d σ1 H1 z) po, hS⟩
  · have up : ∀ {H' : Hp} {σ' : L2.St} {Γ' : En}, Rel X.K (mdT μ Γ H (wishD μ.E l)) H' σ' Γ' → Rel X.K μ H' σ' Γ' := fun {H' σ' Γ'} R' => ⟨R'.co, R'.slots, R.fw.trans R'.fw⟩
    refine ⟨mdT μ Γ H (wishD μ.E l), fun cls d σ1 H1 ⟨x, Γ1, R1, rx, hw⟩ => ?_, fun pn xe t po => hb H pn xe R.fw t po, ⟨R.co, R.slots, Fw.refl _ _⟩, fun σ' H' Γ' f R' q => k1 σ' H' Γ' f (up R') q, fun v σ' H' d Γ' f R' rv q => k2 v σ' H' d Γ' f (up R') rv q, fun σ' H' Γ' f R' q => k3 σ' H' Γ' f (up R') q, fun σ' H' Γ' f R' q => k4 σ' H' Γ' f (up R') q⟩
    exact wCl_of R k1 k2 k3 k4 (fun cls d σ H x Γ1 R rx hE => ⟨x, Γ1, R, rx, hE⟩) hh cls d σ1 H1 x Γ1 R1.fw (up R1) rx hw
end
/-- the module's name x takes a lambda, calls it, shows what it raises -/
def CtOk (T : Wd) (x : Str) (k : Nat) (φ : Value → Option Bool) (S : PSp) : Prop :=
  ∃ (g : Addr) (cdv : Value) (pg : Arguments) (bg : List Stmt) (sg : Scope) (dV kV doc pm ct oc : Value) (an od : Option Addr) (osl : Array (Option Value)) (Ng : List Str) (a : Str),
    T.mg x = some (.ref g) ∧ PySem.W.keepIn T.K (.ref g) = true ∧ T.K.lookup g = some ⟨oc, od, .func (PySem.W.fnOf x x pg bg sg dV kV doc pm an cdv ct), osl⟩ ∧ PySem.W.codeIn T.K cdv x = true ∧ L2.Binds T.K (PySem.W.fnOf x x pg bg sg dV kV doc pm an cdv ct) [a] [] ∧ FnScope Ng [a] sg ∧ Ng[0]? = some a ∧ Vis sg a ∧
    (a == ("__debug__" : Str)) = false ∧ (a == ("__classdict__" : Str)) = false ∧
    ∀ (X : Cx) (q : Str), wdX X = T → Room (k + 1) X.A → X.A.guards = some [] → LamX.GivesTo2 X Ng x sg g cdv bg a q (TTD T.K φ S)
theorem ct_of {T : Wd} {x a : Str} {st : Stmt} {N : List Str} {k : Nat} {φ : Value → Option Bool} {S : PSp} (df : De T x [a] st) (sc : FnScope N [a] (defScope st)) (hN0 : N[0]? = some a) (hv : Vis (defScope st) a) (hd1 : (a == ("__debug__" : Str)) = false) (hd2 : (a == ("__classdict__" : Str)) = false)
    (hbody : N.Nodup → ∀ (g : Addr) (cdv : Value) (A : Around) (outer : List Env) (s : Shared) (H : Hp) (E0 : XK), Room k (cX T N x st g cdv A outer s H E0).A → (cX T N x st g cdv A outer s H E0).A.guards = some [] →
      ∀ (m : Addr → Bool) (c : Cs) (fl : Addr) (Qd : D → Cs → Prop) (Ex : Xn → Cs → Prop) (Qr : D → Cs → Prop) (E : Xn → Cs → Prop), (∀ x c2, ¬ E x c2) →
        (∀ (H' : Hp) (μ : Md) (sc : List (Option D)) (pn : List (Addr × Obj)) (xe : Value → Shared → Prop) (p1 p2 : Pos) (Q : QE), TkD ((cX T N x st g cdv A outer s H E0).tr pn xe) μ → μ.m = m → μ.c0 = c → Fw c c H μ.H0 → sc[0]? = some (some (.ref fl)) →
          (∀ d c2, Qd d c2 → Q d ⟨sc, c2⟩) → (∀ x c2, Ex x c2 → μ.E x ⟨sc, c2⟩) → XE ((cX T N x st g cdv A outer s H E0).tr pn xe) μ (.Call (.Name a p1) [] [] p2) ⟨sc, c⟩ Q) →
        (∀ d c2, Qd d c2 → Qr (.lst [.str "told", d]) c2) → (∀ x c2, Ex x c2 → φ x.cls = some true ∧ ∃ C, x.cls = .ref C ∧ ∀ Qc : D → Prop, (∀ d, Qr d c2 → Qc d) → S [.exc C (x.fs.getD [])] Qc) →
        XB (cX T N x st g cdv A outer s H E0) (mdOf m c H E) (defBody st) ⟨startD N [.ref fl], c⟩ (poOf Qr)) : CtOk T x k φ S := by
  obtain ⟨g, fd, hm, hk, F, b⟩ := df
  obtain ⟨oc, od, kV, doc, pm, an, cdv, ct, osl, rfl, lk, hcd⟩ := F.ex
  refine ⟨g, cdv, _, _, _, _, kV, doc, pm, ct, oc, an, od, osl, N, a, hm, hk, lk, hcd, b, sc, hN0, hv, hd1, hd2, fun X q hX hr gd => ?_⟩
  subst hX
  intro f c' s H Q tl act hc ht
  obtain ⟨m, c, Qd, Ex, Qr, co, h1, h2, h3, h4⟩ := ht
  have hic : inC c c' = false := by
    cases e : inC c c' with
    | false => rfl
    | true =>
      obtain ⟨p, hp, rfl⟩ := of_inC e
      obtain ⟨u, hu, hn⟩ := (co.cells p hp).someT
      rw [hc] at hu
      cases hu
      cases hn
  have hX := hbody sc.nd g cdv X.A X.stack s H C8.E0 (hr.deeper _) gd m c f Qd Ex Qr (fun _ _ => False) (fun _ _ h => h) (fun H' μ sc2 pn xe p1 p2 Q2 tk hm0 hc0 hf0 hs k1 k2 => ?_) h2 h3
  · refine ⟨_, hX, ⟨co, ?_, Fw.refl _ _⟩, fun σ' H' Γ' f R q => h4 .non H' .non Γ'.c f R.co .non q, fun v σ' H' d Γ' f R rd q => h4 v H' d Γ'.c f R.co rd q, fun _ _ _ _ _ q => q.elim, fun _ _ _ _ _ q => q.elim⟩
    exact slots_start (.cons (.ref f) .nil)
  · subst hm0
    subst hc0
    exact xe_act (H := H) hc hic (fun W E tkW hW => act W pn xe E p1 p2 tkW hW) tk hs rfl hf0 h1 k1 k2
end Pdl
namespace Pdl
open PySem L2 PyProof.Rows
section
variable {X : Cx} {μ : Md} {Γ : En} {Q : QE}
theorem cell_uniq : ∀ {c : Cs} (_ : (c.map (·.1)).Nodup) {p q : Addr × Cell} (_ : p ∈ c) (_ : q ∈ c) (_ : p.1 = q.1), p = q
  | [], _, _, _, hp, _, _ => (by cases hp)
  | r :: c, nd, p, q, hp, hq, e => by
    rw [List.map_cons, List.nodup_cons] at nd
    rcases List.mem_cons.mp hp with hp | hp
    · rcases List.mem_cons.mp hq with hq | hq
      · rw [hp, hq]
      · exact absurd (List.mem_map.mpr ⟨q, hq, by rw [← e, hp]⟩) nd.1
    · rcases List.mem_cons.mp hq with hq | hq
      · exact absurd (List.mem_map.mpr ⟨p, hp, by rw [e, hq]⟩) nd.1
      · exact cell_uniq nd.2 hp hq e
/-- the table grows -/
theorem cells_tab {K : PySem.W.Frag} {m : Addr → Bool} {c : Cs} {H H1 : Hp} {P : Addr} {q : Str} (co : COk K m H c) (hq : (P, Cell.tbl q) ∈ c) (e : ∀ b o, b ≠ P → H b = some o → H1 b = some o) (t : LamX.TabS H1 P q) : COk K m H1 c ∧ Fw c c H H1 := by
  have fw : Fw c c H H1 := fun b o hb ho => ⟨e b o (fun z => by rw [z, inC_of hq] at hb; cases hb) ho, hb⟩
  have mP : m P = false := co.off _ hq
  refine ⟨⟨fun b hb => ?_, co.nd, co.off, fun p hp => ?_⟩, fw⟩
  · obtain ⟨o, ho, hn⟩ := co.dom b hb
    exact ⟨o, e b o (fun z => by rw [z, mP] at hb; cases hb) ho, hn⟩
  · by_cases hpP : p.1 = P
    · have e2 : p.2 = .tbl q := by
        rw [cell_uniq co.nd hp hq hpP]
      rw [e2, hpP]
      obtain ⟨ps, h1, h2, h3⟩ := t
      refine ⟨ps, h1, h2, fun pos cv hcv => ?_⟩
      obtain ⟨c0, e1, h4⟩ := h3 pos cv hcv
      refine ⟨c0, e1, hid_some.mpr ⟨?_, h4⟩⟩
      cases et : tot m c c0 with
      | false => rfl
      | true =>
        obtain ⟨o, ho, hn⟩ := co.domT c0 et
        by_cases hc0 : c0 = P
        · rw [hc0, h1] at h4
          exact absurd (Option.some.inj h4).symm (LamX.codeO_ne ps)
        · rw [e c0 o hc0 ho] at h4
          cases h4
          cases hn
    · have h := co.cells p hp
      obtain ⟨u, hu⟩ := h.some
      have e' : H1 p.1 = H p.1 := by rw [hu]; exact e _ _ hpP hu
      rw [e']
      exact h.mono fw.sub
/-- x(lambda: body): what the body gives, what it raises; what x makes of it -/
theorem xe_lam {Qd : D → Prop} {Ex : Xn → Prop} {x : Str} {k n : Nat} {φ : Value → Option Bool} {S : PSp} {c P : Addr} {params : Arguments} {body : Expr} {scope : Scope} {p lpos pos : Pos}
    (C : CtOk (wdX X) x k φ S) (hr : Room (n + 2) X.A) (hn : k ≤ n) (gd : X.A.guards = some []) (hg : Gl X x) (TB : LamX.TabB X.base X.mg c P) (hcode : X.env.code = .ref c) (hq : (P, Cell.tbl (X.env.qual ++ "<lambda>")) ∈ Γ.c)
    (L : LamX.LamS X.env.scope scope)
    (hbody : ∀ (A : Around) (outer : List Env) (s : Shared) (H : Hp) (E : XK) (f c' : Addr), Room n (LamX.lamCx X A outer s H E scope f c').A → ∀ μ' : Md, TkD (LamX.lamCx X A outer s H E scope f c') μ' → (∀ x, Ex x → μ'.E x Γ) →
      XE (LamX.lamCx X A outer s H E scope f c') μ' body Γ fun d Γ' => Γ' = Γ ∧ Qd d)
    (h1 : ∀ d, Qd d → Q (.lst [.str "told", d]) Γ) (h2 : ∀ y, Ex y → φ y.cls = some true ∧ ∃ C, y.cls = .ref C ∧ ∀ Qc : D → Prop, (∀ d, Q d Γ → Qc d) → S [.exc C (y.fs.getD [])] Qc)
    (hdb : (x == ("__debug__" : Str)) = false := by decide) (hdef : defaultsOf params X.env = ([], []) := by rfl)
    (hbind : ∀ (q : Str) (cl : List (Str × Addr)) (pm cv ctv : Value), bindArgs (PySem.W.kla_fn "<lambda>" q params body scope cl pm cv ctv) ⟨[], []⟩ = pure [] := by intros; rfl) : XE X μ (.Call (.Name x p) [.Lambda params body scope lpos] [] pos) Γ Q := by
  obtain ⟨g, cdv, pg, bg, sg, dV, kV, doc, pm, ct, oc, an, od, osl, Ng, a, hm, hk, lk, hcd, b, sc, hN0, hv, hd1, hd2, hG⟩ := C
  refine PE.imp (LamX.pe_lamcall3 (t := fun E σ H q => ∃ μ' : Md, (∀ cls d σ1 H1, wD X.K μ' σ1 cls d H1 → E cls d H1) ∧ (∀ x, Ex x → μ'.E x Γ) ∧ tD X.K μ' Γ (fun d Γ' => Γ' = Γ ∧ Qd d) σ H q) hg hm hk lk hcd b sc hN0 hv (hG X _ rfl (hr.mono (by omega)) gd) TB hcode (k := n) hr L hdef hbind (fun A outer s H0 E f c' hr2 => ?_) hdb hd1 hd2) fun σ H q1 ⟨R, kq⟩ => ?_
  · refine PE.imp pe_u fun σ H q ⟨μ', hE, hx, hT⟩ => ?_
    exact ⟨_, hbody A outer s H0 E f c' hr2 μ' ((L2.takes_of (E := E) rfl rfl rfl rfl).imp hE) hx, hT⟩
  · have hTS : LamX.TabS H P (X.env.qual ++ "<lambda>") := by
      obtain ⟨ps, e1, e2, e3⟩ := R.co.cells _ hq
      exact ⟨ps, e1, e2, fun pos cv hcv => let ⟨c0, e4, e5⟩ := e3 pos cv hcv; ⟨c0, e4, hid_sub _ _ _ _ e5⟩⟩
    refine ⟨hTS, fun H1 e1 t1 => ?_⟩
    obtain ⟨co1, f1⟩ := cells_tab R.co hq e1 t1
    refine ⟨μ.m, Γ.c, fun d c2 => c2 = Γ.c ∧ Qd d, fun x c2 => c2 = Γ.c ∧ Ex x, fun d c2 => c2 = Γ.c ∧ Q d Γ, co1, fun H2 E2 Q2 f2 co2 kv kx => ?_, fun d c2 ⟨e, hd⟩ => ⟨e, h1 d hd⟩, fun y c2 ⟨e, hy⟩ => ?_, fun v H2 d c2 f2 co2 rv ⟨e, hd⟩ => ?_⟩
    · have f12 := f1.trans f2
      have R2 : Rel X.K { m := μ.m, c0 := Γ.c, H0 := H2, E := fun x Γ' => Γ' = Γ ∧ Ex x } H2 σ Γ := ⟨co2, R.slots.mono f12.sub, Fw.refl _ _⟩
      refine ⟨{ m := μ.m, c0 := Γ.c, H0 := H2, E := fun x Γ' => Γ' = Γ ∧ Ex x }, fun cls d σ3 H3 ⟨x, Γ3, R3, rx, e, hx⟩ => ?_, fun x hx => ⟨rfl, hx⟩, R2, fun v H3 d Γ3 s3 f3 R3 r3 ⟨e, hd⟩ => ?_⟩
      · subst e
        exact kx cls d H3 x Γ3.c R3.fw R3.co rx ⟨rfl, hx⟩
      · subst e
        exact kv v H3 d Γ3.c f3 R3.co r3 ⟨rfl, hd⟩
    · obtain ⟨z1, C, z2, z3⟩ := h2 y hy
      refine ⟨z1, C, z2, fun Qc kQ => z3 Qc fun d hd => kQ d ⟨e, hd⟩⟩
    · subst e
      have f12 := f1.trans f2
      have R2 : Rel X.K μ H2 σ Γ := ⟨co2, R.slots.mono f12.sub, R.fw.trans f12⟩
      exact kq v H2 d Γ rfl f12 R2 rv hd
end
end Pdl
namespace Pdl
open PySem L2 PyProof.Rows PySem.Spec
def codeA (K : PySem.W.Frag) (x : Str) : Addr := match K.lookup (gA x K) with
  | some ⟨_, _, .func fd, _⟩ => (match fd.code with
    | .ref c => c
    | _ => 0)
  | _ => 0
def tabA (K : PySem.W.Frag) (x : Str) : Addr := He.tabOf K (codeA K x)
def tabZ (g : Addr → Option Obj) (x : Str) (K : PySem.W.Frag) : Bool := PySem.W.codeHdIn K (codeA K x) (tabA K x) && (match g (tabA K x) with
  | some o => He.emptyTab o
  | none => false)
abbrev AlZ : Type := AlX × Bool
def DeT (T : Wd) (x : Str) (ps : List Str) (st : Stmt) (c : Addr) : Prop := ∃ (f : Addr) (fd : FuncData), T.mg x = some (.ref f) ∧ PySem.W.keepIn T.K (.ref f) = true ∧ Fun T.K x x st f fd ∧ Binds T.K fd ps [] ∧ fd.code = .ref c
theorem det_at {T : Wd} {h : Heap} {x : Str} {st : Stmt} {ps : List Str} (KX : T.K.In h) (G : h.Ns mainGlobals T.mg) (a : fGlo x T.K = true) (o : ∃ fd, Fun T.K x x st (gA x T.K) fd)
    (b : ∀ (kV doc pm : Value) (an : Option Addr) (cdv ct : Value) (us : List Value), us.length = ps.length → bindArgs (PySem.W.fnOf x x (defArgs st) (defBody st) (defScope st) .none kV doc pm an cdv ct) ⟨us, []⟩ = pure (ps.zip us)) : DeT T x ps st (codeA T.K x) := by
  obtain ⟨fd, F⟩ := o
  refine ⟨_, fd, glo_mg KX G a, F.kp, F, F.binds b, ?_⟩
  obtain ⟨oc, od, kV, doc, pm, an, cdv, ct, osl, rfl, lk, hcd⟩ := F.ex
  obtain ⟨c, hc⟩ := He.codeIn_ref hcd
  subst hc
  show Value.ref c = .ref (codeA T.K x)
  unfold codeA
  rw [lk] <;> rfl
end Pdl
namespace Pdl
open PySem L2 PyProof.Rows
def onS (f : List Nat → Bool) (d : D) : Bool := isS d && f (textOf d)
theorem textOf_S {l : List Nat} : textOf (.str (S l)) = l := by
  show (S l).cps.toList = l
  rw [S_cps]
theorem onS_S {f : List Nat → Bool} {l : List Nat} : onS f (.str (S l)) = f l := by
  unfold onS
  rw [textOf_S]
  rfl
theorem onS_no {f : List Nat → Bool} {d : D} (h : NoStr d) : onS f d = false := by cases h <;> rfl
theorem onS_get {f : List Nat → Bool} {d : D} (h : onS f d = true) : d = .str (S (textOf d)) ∧ f (textOf d) = true := by
  obtain ⟨h1, h2⟩ := Bool.and_eq_true_iff.mp h
  refine ⟨?_, h2⟩
  cases d with
  | str x =>
    show D.str x = .str (S x.cps.toList)
    rw [show S x.cps.toList = x from by cases x; simp [S]]
  | _ => cases h1
def plL : List Nat → Bool
  | [c] => decide (97 ≤ c ∧ c ≤ 122)
  | _ => false
def twL : List Nat → Bool
  | [a, b] => decide ((97 ≤ a ∧ a ≤ 122) ∧ (97 ≤ b ∧ b ≤ 122) ∧ a ≠ b)
  | _ => false
def prL : List Nat → Bool
  | [a, b] => decide (97 ≤ a ∧ a < b ∧ b ≤ 122)
  | _ => false
theorem prL_get {l : List Nat} (h : prL l = true) : ∃ a b, l = [a, b] ∧ 97 ≤ a ∧ a < b ∧ b ≤ 122 := by
  unfold prL at h
  split at h
  · next a b => exact ⟨a, b, rfl, of_decide_eq_true h⟩
  · cases h
/-- values of any kind -/
inductive AnyK : D → Prop
  | non : AnyK .non
  | bl {b : Bool} : AnyK (.bl b)
  | int {i : Int} : AnyK (.int i)
  | str (l : List Nat) (h : l.length ≤ 1000) (hz : ∀ c ∈ l, c < 1000) : AnyK (.str (S l))
  | lst {xs : List D} : AnyK (.lst xs)
  | tup {xs : List D} : AnyK (.tup xs)
  | dct {xs : List (Key × D)} : AnyK (.dct xs)
theorem AnyK.cases {d : D} (h : AnyK d) : NoStr d ∨ ∃ l, d = .str (S l) ∧ l.length ≤ 1000 ∧ ∀ c ∈ l, c < 1000 := by
  cases h with
  | non => exact .inl .non
  | bl => exact .inl .bl
  | int => exact .inl .int
  | str l h hz => exact .inr ⟨l, rfl, h, hz⟩
  | lst => exact .inl .lst
  | tup => exact .inl .tup
  | dct => exact .inl .dct
end Pdl
namespace Pdl
open PySem L2 PyProof.Rows
def txAt (xs : List D) (k : Nat) : List Nat := textOf (xs.getD k .non)
def badT (xs : List D) (k : Nat) : Bool := decide (k = 10) || (!onS prL (xs.getD k .non) || ((decide (0 < k) && !decide (txAt xs (k - 1) < txAt xs k)) || decide (7 < (us ((xs.take (k + 1)).map textOf).flatten).length)))
/-- so far all is well -/
def GoodT (xs : List D) (k : Nat) : Prop := ∀ j < k, badT xs j = false
theorem badT_f {xs : List D} {k : Nat} (h : badT xs k = false) : k ≠ 10 ∧ onS prL (xs.getD k .non) = true ∧ (0 < k → txAt xs (k - 1) < txAt xs k) ∧ (us ((xs.take (k + 1)).map textOf).flatten).length ≤ 7 := by
  unfold badT at h
  rw [Bool.or_eq_false_iff, Bool.or_eq_false_iff, Bool.or_eq_false_iff] at h
  obtain ⟨h1, h2, h3, h4⟩ := h
  refine ⟨of_decide_eq_false h1, by simpa using h2, fun h0 => ?_, by have := of_decide_eq_false h4; omega⟩
  rw [decide_eq_true h0] at h3
  simpa using h3
structure TakeT (xs : List D) (k : Nat) : Prop where
  eq : xs.take k = SL ((xs.take k).map textOf)
  pr : ∀ l ∈ (xs.take k).map textOf, ∃ a b, l = [a, b] ∧ 97 ≤ a ∧ a < b ∧ b ≤ 122
  asc : ((xs.take k).map textOf).Pairwise (· < ·)
  le : k ≤ 10
  few : 0 < k → (us ((xs.take k).map textOf).flatten).length ≤ 7
theorem lt_trans3 {a b c : List Nat} (h1 : a < b) (h2 : b < c) : a < c := List.lt_trans h1 h2
theorem GoodT.take {xs : List D} : ∀ {k : Nat}, k ≤ xs.length → GoodT xs k → TakeT xs k
  | 0, _, _ => ⟨by simp [SL], by simp, by simp, Nat.zero_le _, fun h => absurd h (Nat.lt_irrefl 0)⟩
  | k + 1, hk, h => by
    have ih := GoodT.take (k := k) (by omega) fun j hj => h j (by omega)
    obtain ⟨b1, b2, b3, b4⟩ := badT_f (h k (Nat.lt_succ_self k))
    obtain ⟨x, hx⟩ : ∃ x, xs[k]? = some x := ⟨_, List.getElem?_eq_getElem (by omega)⟩
    have ex : xs.getD k .non = x := by simp [List.getD, hx]
    have et : xs.take (k + 1) = xs.take k ++ [x] := by rw [List.take_succ, hx]; rfl
    rw [ex] at b2
    obtain ⟨e1, e2⟩ := onS_get b2
    obtain ⟨a, b, e3, p1, p2, p3⟩ := prL_get e2
    have em : (xs.take (k + 1)).map textOf = (xs.take k).map textOf ++ [[a, b]] := by rw [et, List.map_append, List.map_singleton, e3]
    refine ⟨?_, fun l hl => ?_, ?_, by have := ih.le; omega, fun _ => b4⟩
    · have ea : ∀ A : List (List Nat), SL (A ++ [[a, b]]) = SL A ++ [.str (S [a, b])] := fun A => by simp [SL]
      rw [em, et, ea, ← ih.eq, e1, e3]
    · rw [em] at hl
      rcases List.mem_append.mp hl with z | z
      · exact ih.pr l z
      · exact ⟨a, b, List.mem_singleton.mp z, p1, p2, p3⟩
    · rw [em, List.pairwise_append]
      refine ⟨ih.asc, by simp, fun u hu v hv => ?_⟩
      rw [List.mem_singleton.mp hv]
      cases k with
      | zero => simp at hu
      | succ k' =>
        have h3 := b3 (Nat.succ_pos k')
        have e4 : txAt xs (k' + 1) = [a, b] := by unfold txAt; rw [ex, e3]
        rw [e4] at h3
        obtain ⟨y, hy⟩ : ∃ y, xs[k']? = some y := ⟨_, List.getElem?_eq_getElem (by omega)⟩
        have e5 : txAt xs (k' + 1 - 1) = textOf y := by unfold txAt; simp [List.getD, hy]
        rw [e5] at h3
        have e6 : (xs.take (k' + 1)).map textOf = (xs.take k').map textOf ++ [textOf y] := by rw [List.take_succ, hy, List.map_append]; rfl
        rw [e6] at hu
        rcases List.mem_append.mp hu with z | z
        · have := ih.asc
          rw [e6, List.pairwise_append] at this
          exact lt_trans3 (this.2.2 u z (textOf y) (by simp)) h3
        · rw [List.mem_singleton.mp z]
          exact h3
/-- all ties are well, but for their hanging together -/
structure NearT (ls : List (List Nat)) : Prop where
  ne : ls ≠ []
  len : ls.length ≤ 10
  pr : ∀ l ∈ ls, ∃ a b, l = [a, b] ∧ 97 ≤ a ∧ a < b ∧ b ≤ 122
  asc : ls.Pairwise (· < ·)
  few : (us ls.flatten).length ≤ 7
theorem NearT.ties {ls : List (List Nat)} (h : NearT ls) (hc : Conn ls) : Ties ls := ⟨h.ne, h.len, h.pr, h.asc, h.few, hc⟩
theorem NearT.two {ls : List (List Nat)} (h : NearT ls) : Two ls := fun l hl => let ⟨a, b, e, _⟩ := h.pr l hl; ⟨a, b, e⟩
theorem SL_text {ls : List (List Nat)} : (SL ls).map textOf = ls := by
  unfold SL
  rw [List.map_map]
  have : (textOf ∘ fun l => D.str (S l)) = id := funext fun l => textOf_S
  rw [this, List.map_id]
/-- what is wrong with a value as ties: the index (none: it is no tuple, or empty), or that they hang apart -/
inductive TErr (CT CA : Addr) : D → Xn → Prop
  | kind {d : D} (h : ∀ xs, d = .tup xs → xs = []) : TErr CT CA d ⟨.ref CT, some [("index", .non)]⟩
  | at_ {xs : List D} {k : Nat} (hne : xs ≠ []) (hk : k < xs.length) (hg : GoodT xs k) (hb : badT xs k = true) : TErr CT CA (.tup xs) ⟨.ref CT, some [("index", .int k)]⟩
  | apart {ls : List (List Nat)} (hn : NearT ls) (hc : ¬ Conn ls) : TErr CT CA (.tup (SL ls)) ⟨.ref CA, none⟩
theorem good_near {ls : List (List Nat)} (h : NearT ls) : GoodT (SL ls) (SL ls).length := fun j hj => by
  have hj : j < ls.length := by simpa [SL] using hj
  have get : ∀ i, i < ls.length → (SL ls).getD i .non = .str (S (ls.getD i [])) := fun i hi => by
    have : (SL ls)[i]? = some (.str (S (ls.getD i []))) := by rw [SL_get (l := ls.getD i []) (by simp [List.getD, List.getElem?_eq_getElem hi])]
    simp [List.getD, this]
  have tx : ∀ i, i < ls.length → txAt (SL ls) i = ls.getD i [] := fun i hi => by unfold txAt; rw [get i hi, textOf_S]
  obtain ⟨a, b, e, p1, p2, p3⟩ := h.pr (ls.getD j []) (by simp [List.getD, List.getElem?_eq_getElem hj])
  have h1 : onS prL ((SL ls).getD j .non) = true := by
    rw [get j hj, onS_S, e]
    exact decide_eq_true ⟨p1, p2, p3⟩
  have h2 : 0 < j → txAt (SL ls) (j - 1) < txAt (SL ls) j := fun h0 => by
    rw [tx _ (by omega), tx _ hj]
    have := List.pairwise_iff_getElem.mp h.asc (j - 1) j (by omega) hj (by omega)
    simpa [List.getD, List.getElem?_eq_getElem hj, List.getElem?_eq_getElem (show j - 1 < ls.length by omega)] using this
  have h3 : (us (((SL ls).take (j + 1)).map textOf).flatten).length ≤ 7 := by
    have e : ((SL ls).take (j + 1)).map textOf = ls.take (j + 1) := by rw [List.map_take, SL_text]
    rw [e]
    refine Nat.le_trans (us_len_le fun x hx => ?_) h.few
    obtain ⟨l, hl, hx⟩ := List.mem_flatten.mp hx
    exact mem_us.mpr (List.mem_flatten.mpr ⟨l, List.mem_of_mem_take hl, hx⟩)
  unfold badT
  rw [h1, decide_eq_false (show ¬ j = 10 from by have := h.len; omega), decide_eq_false (show ¬ 7 < _ from by omega)]
  by_cases h0 : 0 < j
  · rw [decide_eq_true (h2 h0)]; simp
  · simp [h0]
theorem TErr.no {CT CA : Addr} {ls : List (List Nat)} {x : Xn} (ht : Ties ls) (h : TErr CT CA (.tup (SL ls)) x) : False := by
  have hn : NearT ls := ⟨ht.ne, ht.len, ht.pr, ht.asc, ht.few⟩
  generalize hd : (D.tup _) = d at h
  cases h with
  | kind h => exact absurd (List.map_eq_nil_iff.mp (h _ hd.symm)) ht.ne
  | at_ hne hk hg hb =>
    cases hd
    rw [good_near hn _ hk] at hb
    cases hb
  | apart hn2 hc =>
    injection hd with hd
    have := congrArg (List.map textOf) hd
    rw [SL_text, SL_text] at this
    exact hc (this ▸ ht.conn)
def sIsPlaceA : PSp := fun ds Q => ∃ d, ds = [d] ∧ AnyK d ∧ Q (.bl (onS plL d))
/-- elements of any kind -/
def AnyL (d : D) : Prop := AnyK d ∧ ∀ xs, d = .tup xs → (∀ x ∈ xs, AnyK x) ∧ xs.length ≤ 100000
end Pdl
namespace Pdl
open PySem L2 PyProof.Rows
section
variable {X : Cx} {CX : CXT} {k : Nat} {f C g' : Addr} {fd : FuncData} {ps ks : List Str} {ix : List Nat} {sp : Sp} {E : L2.St → XK} {x m : Str} {p pos apos : Pos} {o : Expr} {kws : List Keyword} {ta : TE} {tk : TA}
theorem pe_methWS {pl : Sem Bool} (he : PE X o ta) (cl : Cls X.K C) (hm : Meth X.K C m g') (F : FnOk X.prog X.w X.K X.mg X.base CX k g' fd ps sp) (hr : Room k X.A) (kb : KBn X.K fd ps 1 ks (gU ix) (gU ix)) (hx : ∀ σ, PassesAt CX X σ (E σ)) (hkw : PK X kws tk)
    (hks : (backToKw pos (keywordEach kws X.env)).filterMap (·.1) = ks) (hall : (backToKw pos (keywordEach kws X.env)).all (·.1.isSome) = true)
    (hpl : ((backTo pos (starEach [] X.env)).any (·.1) || (backToKw pos (keywordEach kws X.env)).any (·.1.isNone)) = false)
    (ht : eval (.Call (.Attribute o m apos) [] kws pos) X.env = (do
      let ov ← eval o X.env
      standAt apos.atName
      let (f, first) ← holding [ov] (getMethod ov m pl)
      callWith pos f first (backTo pos (starEach [] X.env)) (backToKw pos (keywordEach kws X.env)))) :
    PE X (.Call (.Attribute o m apos) [] kws pos) (fun σ H Q => ta σ H fun x H1 => ∃ a dx fs, x = .ref a ∧ H1 a = some (.ins C dx fs) ∧ fs.lookup m = none ∧ tk σ H1 fun zs H2 => zs.length = ks.length ∧ sp (.ref a :: ix.filterMap (zs[·]?)) H2 Q (E σ)) := by
  refine ⟨fun pins s σ H Q I h => ?_⟩
  refine PySem.W.methodCall_KW (pl := pl) (thn (he.run pins s σ H _ I h) fun u s1 ⟨x, H1, I1, rx, a, dx, fs, ex, ea, l, q⟩ => ?_) ht
  subst ex
  cases (show u = Value.ref a from rx)
  refine getmeth_ok I1 ea cl hm l ?_
  refine PySem.W.callWith_KW0 (first := [.ref a]) (h₀ := X.base) I.ok.mod.kin hm.kp hall (thn (hkw.run pos pins s1 σ H1 _ I1 q) fun ws s2 ⟨zs, H2, I2, rz, l2, q2⟩ => ⟨I2.kIn, ?_⟩) hpl
  rw [hks]
  have r2 : Vals (gU ix [V.ref a] zs) (gU ix [Value.ref a] ws) := kb.rel (.cons rfl .nil) rz
  refine wpAny_call (codeAny_mono (F.run X.A X.stack s2 H2 ⟨[.ref a], ks.zip ws⟩ (gU ix [Value.ref a] ws) (gU ix [V.ref a] zs) Q (E σ) hr I2.env0 (kb.to s2 [.ref a] ws I2.kIn rfl (rz.length.symm.trans l2)) r2 q2) fun r s' done => ?_)
  match r, done with
  | .error e, done => exact hx σ pins _ _ e s' I2 done
  | .ok (.ret u), done => exact I2.after done
  | .ok .next, done => exact False.elim done
  | .ok .brk, done => exact False.elim done
  | .ok .cont, done => exact False.elim done
end
def MeXK (T : Wd) (C : Addr) (f : Str) (k : Nat) (ks : List Str) (ix : List Nat) (S : PSx) : Prop :=
  ∃ (g : Addr) (fd : FuncData) (ps : List Str), Cls T.K C ∧ Meth T.K C f g ∧ FnOk T.P T.w T.K T.mg T.base (L2.CX T.P T.w) k g fd ps (spD T.K (pX S)) ∧ KBn T.K fd ps 1 ks (gU ix) (gU ix)
section
variable {T : Wd} {C : Addr} {f x qual : Str} {st : Stmt} {N ps ks : List Str} {ix : List Nat} {k : Nat}
theorem mex_of {S : PSx} (df : DeM T C f qual ps st) (sc : FnScope N ps (defScope st)) (len : ∀ ds Q E, S ds Q E → ds.length = ps.length)
    (hbody : N.Nodup → ∀ (f : Addr) (cdv : Value) (A : Around) (outer : List Env) (s : Shared) (H : Hp) (E0 : XK), Room k (cXx T N qual st f cdv A outer s H E0).A →
      ∀ m ds (Q : D → Cs → Prop) (E : Xn → Cs → Prop), TkD (cXx T N qual st f cdv A outer s H E0) (mdOf m [] H E) → S ds (fun d => Q d []) (fun x => E x []) → XB (cXx T N qual st f cdv A outer s H E0) (mdOf m [] H E) (defBody st) ⟨startD N ds, []⟩ (poOf Q)) : MeX T C f (k + 1) S := by
  obtain ⟨g, fd, cl, mt, F, bd⟩ := df
  exact ⟨g, fd, ps, cl, mt, fn_DX F sc (fun ds c Q E h => len ds _ _ h.2) fun cdv A outer s H E0 hr m ds c Q E tk h => by
    obtain ⟨rfl, h⟩ := h
    exact hbody sc.nd g cdv A outer s H E0 hr m ds Q E tk h, bd⟩
theorem mexk_of {S : PSx} (df : DeM T C f qual ps st) (sc : FnScope N ps (defScope st)) (len : ∀ ds Q E, S ds Q E → ds.length = ps.length) (kb : KbX st ps ks ix)
    (hbody : N.Nodup → ∀ (f : Addr) (cdv : Value) (A : Around) (outer : List Env) (s : Shared) (H : Hp) (E0 : XK), Room k (cXx T N qual st f cdv A outer s H E0).A →
      ∀ m ds (Q : D → Cs → Prop) (E : Xn → Cs → Prop), TkD (cXx T N qual st f cdv A outer s H E0) (mdOf m [] H E) → S ds (fun d => Q d []) (fun x => E x []) → XB (cXx T N qual st f cdv A outer s H E0) (mdOf m [] H E) (defBody st) ⟨startD N ds, []⟩ (poOf Q)) : MeX T C f (k + 1) S ∧ MeXK T C f (k + 1) ks ix S := by
  refine ⟨mex_of df sc len hbody, ?_⟩
  obtain ⟨g, fd, cl, mt, F, bd⟩ := df
  exact ⟨g, fd, ps, cl, mt, fn_DX F sc (fun ds c Q E h => len ds _ _ h.2) fun cdv A outer s H E0 hr m ds c Q E tk h => by
    obtain ⟨rfl, h⟩ := h
    exact hbody sc.nd g cdv A outer s H E0 hr m ds Q E tk h, kbn_of F kb⟩
end
section
variable {X : Cx} {μ : Md} {Γ Γ' : En} {Q : QE} {o : Expr} {es : List Expr} {kws : List Keyword} {pos apos p : Pos} {k n : Nat} {xn f : Str} {C : Addr} {ks : List Str} {ix : List Nat}
/-- o.m(e, ..), which may raise -/
theorem xe_mex {e : Expr} {pl : Sem Bool} {S : PSx} (M : MeX (wdX X) C f k S) (tk : TkD X μ) (hr : Room n X.A) (hkn : k ≤ n) (h : XE X μ o Γ fun z Γ1 => ∃ fs, z = .ins C fs ∧ fs.lookup f = none ∧ XA X μ (e :: es) Γ1 fun ds Γ2 => ∀ (Qc : D → Prop) (Ec : Xn → Prop), (∀ d, Q d Γ2 → Qc d) → (∀ x, μ.E x Γ2 → Ec x) → S (.ins C fs :: ds) Qc Ec)
    (hst : starEach (e :: es) X.env = (false, eval e X.env) :: starEach es X.env := by rfl) (hpl : (backTo pos (starEach es X.env)).any (·.1) = false := by rfl)
    (ht : eval (.Call (.Attribute o f apos) (e :: es) [] pos) X.env = (do
      let ov ← eval o X.env
      standAt apos.atName
      let (f, first) ← holding [ov] (getMethod ov f pl)
      callWith pos f first (backTo pos (starEach (e :: es) X.env)) (backToKw pos (keywordEach [] X.env))) := by rfl) : XE X μ (.Call (.Attribute o f apos) (e :: es) [] pos) Γ Q :=
  xe_methX M tk (hr.mono hkn) (h.imp fun z Γ1 ⟨fs, h1, h2, h3⟩ => ⟨fs, h1, h2, PA.imp h3 fun σ H q ⟨R, k⟩ => ⟨R, fun vs H' ds Γ' s' f' R' r' hq => k vs H' ds Γ' s' f' R' r' (asks_px hq)⟩⟩) hst hpl ht
/-- o.m(k = e, ..), which may raise -/
theorem xe_mexw {pl : Sem Bool} {S : PSx} (M : MeXK (wdX X) C f k ks ix S) (tk : TkD X μ) (hr : Room n X.A) (hkn : k ≤ n) (h : XE X μ o Γ fun z Γ1 => ∃ fs, z = .ins C fs ∧ fs.lookup f = none ∧ XKw X μ kws Γ1 fun ds Γ2 => ds.length = ks.length ∧ ∀ (Qc : D → Prop) (Ec : Xn → Prop), (∀ d, Q d Γ2 → Qc d) → (∀ x, μ.E x Γ2 → Ec x) → S (.ins C fs :: ix.filterMap (ds[·]?)) Qc Ec)
    (hks : (backToKw pos (keywordEach kws X.env)).filterMap (·.1) = ks := by rfl) (hall : (backToKw pos (keywordEach kws X.env)).all (·.1.isSome) = true := by rfl)
    (hpl : ((backTo pos (starEach [] X.env)).any (·.1) || (backToKw pos (keywordEach kws X.env)).any (·.1.isNone)) = false := by rfl)
    (ht : eval (.Call (.Attribute o f apos) [] kws pos) X.env = (do
      let ov ← eval o X.env
      standAt apos.atName
      let (f, first) ← holding [ov] (getMethod ov f pl)
      callWith pos f first (backTo pos (starEach [] X.env)) (backToKw pos (keywordEach kws X.env))) := by rfl) : XE X μ (.Call (.Attribute o f apos) [] kws pos) Γ Q := by
  obtain ⟨g, fd, ps, cl, mt, F, bd⟩ := M
  refine PE.imp pe_u fun σ H q ⟨R, k⟩ => ⟨_, pe_methWS (E := fun σ => wD X.K μ σ) h cl mt F (hr.mono hkn) bd (fun σ => passAt tk σ) pk_u hks hall hpl ht, R, fun v H1 z Γ1 s1 f1 R1 r1 ⟨fs, hz, hl, hs⟩ => ?_⟩
  subst hz
  cases r1 with
  | @ins a _ dx fv _ g1 g2 =>
    refine ⟨a, dx, fv, rfl, hid_sub _ _ _ _ g1, (RpF.lookup g2).2 hl, _, hs, R1, fun vs H2 ds Γ2 s2 f2 R2 r2 ⟨hlen, ha⟩ => ⟨r2.length.trans hlen, ?_⟩⟩
    exact asks_sp R2 (.cons ((Rp.ins g1 g2).mono f2.sub) (r2.pick ix)) (asks_px ha) fun v H3 d Γ3 s3 f3 R3 r3 hq => k v H3 d Γ3 ((s3.trans s2).trans s1) ((f1.trans f2).trans f3) R3 r3 hq
end
end Pdl
namespace Pdl
open PySem L2 PyProof.Rows
/-- isinstance of the class C among the three base classes and those of the language -/
structure BasK (K : PySem.W.Frag) (W1 W2 W3 C : Addr) (b1 b2 b3 : Bool) : Prop where
  k : ExK K C
  w1 : PySem.W.kitOne K (.ref C) (.ref W1) = some b1
  w2 : PySem.W.kitOne K (.ref C) (.ref W2) = some b2
  w3 : PySem.W.kitOne K (.ref C) (.ref W3) = some b3
  l1 : b1 = true → PySem.W.kitOne K (.ref C) (.type "ValueError") = some true
  l2 : b2 = true → PySem.W.kitOne K (.ref C) (.type "LookupError") = some true
  l3 : b3 = true → PySem.W.kitOne K (.ref C) (.type "ArithmeticError") = some true
def sBases (W1 W2 W3 : Addr) (K : PySem.W.Frag) : PSp := fun ds Q => ∃ C fs b1 b2 b3, ds = [.exc C fs] ∧ BasK K W1 W2 W3 C b1 b2 b3 ∧ Q (.lst [.bl b1, .bl b2, .bl b3])
section
variable {X : Cx}
theorem cd_reprI {i : Int} (h : i.natAbs.log2 < 1920) : CallD X (.builtin "repr") [.int i] (.str (shownD (.int i))) := .of SkE.call_repr_int fun vs H q m hm h1 k => by
  obtain ⟨v, rfl, r⟩ := h1.one
  cases r
  exact ⟨i, rfl, h, k _ H (Sub.refl H) (.str _)⟩
end
theorem od_neBs {X : Cx} (hu : X.A.units + 64 < cLine) {a b : List Bool} : OpD X (compareOp .NotEq) (.lst (a.map D.bl)) (.lst (b.map D.bl)) (.bl (!decide (a = b))) := by
  have h := od_neD (X := X) hu (ok_py _ (ok_bls a)) (ok_py _ (ok_bls b)) (shaped_ok (ok_bls a) (dp_bls a)) (shaped_ok (ok_bls b) (dp_bls b))
  have e : PyData.eqv (toPy (.lst (a.map D.bl))) (toPy (.lst (b.map D.bl))) = decide (a = b) := eqv_bl a b
  rw [e] at h
  exact h
theorem RmW.u64 {k : Nat} {A : Around} (r : RmW k A) : A.units + 64 < cLine := by have := r.un; omega
def sShownT (CT CA : Addr) : PSp := fun ds Q => (∃ y, ds = [.exc CT [("index", y)]] ∧ (y = .non ∨ ∃ k : Nat, y = .int k ∧ k ≤ 1000000) ∧ Q (.lst [.str "ties", .str (shownD y)])) ∨ (ds = [.exc CA []] ∧ Q (.lst [.str "apart", .str ""]))
end Pdl
namespace Pdl
open PySem L2 PyProof.Rows
theorem AnyL.of {xs : List D} (h : ∀ x ∈ xs, AnyK x) (hl : xs.length ≤ 100000) : AnyL (.tup xs) := ⟨.tup, fun ys e => by cases e; exact ⟨h, hl⟩⟩
theorem AnyL.lst {xs : List D} : AnyL (.lst xs) := ⟨.lst, fun ys e => by cases e⟩
theorem AnyL.str {l : List Nat} (h : l.length ≤ 1000) (hz : ∀ c ∈ l, c < 1000) : AnyL (.str (S l)) := ⟨.str l h hz, fun ys e => by cases e⟩
end Pdl
namespace Pdl
open PySem L2 PyProof.Rows
/-- the name that the code objects of a def's lambdas bear -/
def lamQ (x : Str) : Str := (envOfC x { kind := .function, names := [], isGenerator := false, isCoroutine := false } 0 0 .none).qual ++ "<lambda>"
end Pdl
namespace Pdl
open PySem L2 PyProof.Rows
/-- what is told of an error of ties is plain -/
theorem shown_small : ∀ k : Nat, k ≤ 10 → okD (.str (shownD (.int (k : Int)))) = true := by
  intro k hk
  match k, hk with
  | 0, _ => decide +kernel
  | 1, _ => decide +kernel
  | 2, _ => decide +kernel
  | 3, _ => decide +kernel
  | 4, _ => decide +kernel
  | 5, _ => decide +kernel
  | 6, _ => decide +kernel
  | 7, _ => decide +kernel
  | 8, _ => decide +kernel
  | 9, _ => decide +kernel
  | 10, _ => decide +kernel
  | n + 11, h => exact absurd h (by omega)
inductive Told (CT CA : Addr) : Xn → D → Prop
  | non : Told CT CA ⟨.ref CT, some [("index", .non)]⟩ (.lst [.str "ties", .str (shownD .non)])
  | int {k : Nat} (h : k ≤ 10) : Told CT CA ⟨.ref CT, some [("index", .int k)]⟩ (.lst [.str "ties", .str (shownD (.int k))])
  | apart : Told CT CA ⟨.ref CA, none⟩ (.lst [.str "apart", .str ""])
theorem Told.ok {CT CA : Addr} {x : Xn} {r : D} (h : Told CT CA x r) : okD r = true ∧ dpD r ≤ 3 := by
  cases h with
  | non => exact ⟨by decide +kernel, by decide +kernel⟩
  | @int k hk =>
    refine ⟨?_, by simp [dpD, dpL]⟩
    have := shown_small k hk
    rw [okD, okL, okL, okL, this]
    decide +kernel
  | apart => exact ⟨by decide +kernel, by decide +kernel⟩
theorem Told.shown {CT CA : Addr} {x : Xn} {r : D} (h : Told CT CA x r) : ∃ C, x.cls = .ref C ∧ (C = CT ∨ C = CA) ∧ ∀ Qc : D → Prop, Qc r → sShownT CT CA [.exc C (x.fs.getD [])] Qc := by
  cases h with
  | non => exact ⟨CT, rfl, .inl rfl, fun Qc hq => .inl ⟨_, rfl, .inl rfl, hq⟩⟩
  | @int k hk => exact ⟨CT, rfl, .inl rfl, fun Qc hq => .inl ⟨_, rfl, .inr ⟨k, rfl, by omega⟩, hq⟩⟩
  | apart => exact ⟨CA, rfl, .inr rfl, fun Qc hq => .inr ⟨rfl, hq⟩⟩
end Pdl
namespace Pdl
open PySem L2 PyProof.Rows PySem.Spec
def oexP (K : PySem.W.Frag) (C : Addr) (newId : String) (ok : List Value → Bool) : Bool := match K.lookup C with
  | some ⟨.type "type", _, .cls cd, sl⟩ => (match cd.mro, sl.toList with
    | .ref C' :: bm, [_, _, _, _, some (.builtin n), _] => C' == C && n == newId && !cd.hasDel && cd.hasDict && ok bm
    | _, _ => false)
  | _ => false
theorem oexP_ok {K : PySem.W.Frag} {C : Addr} {newId : String} {ok : List Value → Bool} (q : oexP K C newId ok = true) :
    ∃ nm qn N bs bm sn sub ab col dd k0 k1 k2 k3 k5, K.lookup C = some (excClassObj nm qn C N bs bm true sn sub ab col dd k0 k1 k2 k3 k5 newId) ∧ ok bm = true := by
  unfold oexP at q
  split at q
  · rename_i dd cd sl ho
    split at q
    · rename_i C' bm k0 k1 k2 k3 n k5 hm hs
      simp only [Bool.and_eq_true, beq_iff_eq, Bool.not_eq_true'] at q
      obtain ⟨⟨⟨⟨rfl, rfl⟩, hdel⟩, hdct⟩, ht⟩ := q
      obtain ⟨nm, bs, mro, ns, qn, hd, sn, sub, ab, col, del⟩ := cd
      dsimp only at hm hdel hdct
      subst hm hdel hdct
      have hsl : sl = #[k0, k1, k2, k3, some (.builtin n), k5] := by
        obtain ⟨l⟩ := sl
        simp only at hs
        rw [hs]
      subst hsl
      exact ⟨nm, qn, ns, bs, bm, sn, sub, ab, col, dd, k0, k1, k2, k3, k5, ho, ht⟩
    · cases q
  · cases q
/-- what all own errors show -/
def ownB (K : PySem.W.Frag) (C : Addr) : Bool := decide (PySem.W.subIn K (.ref C) (.type "BaseException") = some true) && (decide (PySem.W.typeIn K (.ref C) = some (.type "type")) && PySem.W.keepIn K (.ref C))
theorem ownB_ok {K : PySem.W.Frag} {C : Addr} (h : ownB K C = true) : PySem.W.subIn K (.ref C) (.type "BaseException") = some true ∧ PySem.W.typeIn K (.ref C) = some (.type "type") ∧ PySem.W.keepIn K (.ref C) = true := by
  obtain ⟨h1, h⟩ := Bool.and_eq_true_iff.mp h
  obtain ⟨h2, h3⟩ := Bool.and_eq_true_iff.mp h
  exact ⟨of_decide_eq_true h1, of_decide_eq_true h2, h3⟩
def saB (K : PySem.W.Frag) (C : Addr) : Bool := vO (PySem.W.findIn K (.ref C) "__setattr__") (some (some (.builtin "object.__setattr__")))
def leTail : List Value := [.type "LookupError", .type "Exception", .type "BaseException", .type "object"]
def aeTail : List Value := [.type "ArithmeticError", .type "Exception", .type "BaseException", .type "object"]
def fOex (x : Str) : FB := fun K => oexP K (gA x K) "ValueError.__new__" PySem.HandSPX.refsVE && (saB K (gA x K) && ownB K (gA x K))
def fOexL (x : Str) : FB := fun K => oexP K (gA x K) "LookupError.__new__" (refsT leTail) && (saB K (gA x K) && ownB K (gA x K))
def fOexA (x : Str) : FB := fun K => oexP K (gA x K) "ArithmeticError.__new__" (refsT aeTail) && (saB K (gA x K) && ownB K (gA x K))
def fNoF (x f : Str) : FB := fun K => vO (PySem.W.findIn K (.ref (gA x K)) f) (some none)
def fIni (x : Str) : FB := fun K => vO (PySem.W.findIn K (.ref (gA x K)) "__init__") (some (some (.ref (mA x "__init__" K)))) && decide (PySem.W.typeIn K (.ref (mA x "__init__" K)) = some (.type "function"))
def fExk (x : Str) : FB := fun K => exkB K (gA x K)
def fKit (x y : Str) (b : Bool) : FB := fun K => decide (PySem.W.kitOne K (.ref (gA x K)) (.ref (gA y K)) = some b)
def fKitL (x : Str) (n : String) : FB := fun K => decide (PySem.W.kitOne K (.ref (gA x K)) (.type n) = some true)
def fExm (x a b c : Str) : FB := fun K => decide (PySem.W.exmAny K (.ref (gA x K)) [.ref (gA a K), .ref (gA b K), .ref (gA c K)] = some true)
section
variable {T : Wd} {h : Heap} {x f qual : Str} {st : Stmt} {ps : List Str}
theorem errc_at (KX : T.K.In h) (G : h.Ns mainGlobals T.mg) (a : fGlo x T.K = true) (o : fOex x T.K = true) (n : fNoF x f T.K = true) (i : fIni x T.K = true) (fo : ∃ fd, Fun T.K "__init__" qual st (mA x "__init__" T.K) fd)
    (hin : ∀ fd, Fun T.K "__init__" qual st (mA x "__init__" T.K) fd → FnOk T.P T.w T.K T.mg T.base CX0 1 (mA x "__init__" T.K) fd ps (spGv T.K f))
    (b : ∀ (kV doc pm : Value) (an : Option Addr) (cdv ct : Value) (us : List Value), us.length = ps.length → bindArgs (PySem.W.fnOf "__init__" qual (defArgs st) (defBody st) (defScope st) .none kV doc pm an cdv ct) ⟨us, []⟩ = pure (ps.zip us)) : ErrC T x (gA x T.K) f := by
  obtain ⟨o1, o⟩ := Bool.and_eq_true_iff.mp o
  obtain ⟨o2, o3⟩ := Bool.and_eq_true_iff.mp o
  obtain ⟨z1, z2, z3⟩ := ownB_ok o3
  obtain ⟨i1, i2⟩ := Bool.and_eq_true_iff.mp i
  obtain ⟨nm, qn, N, bs, bm, sn, sub, ab, col, dd, k0, k1, k2, k3, k5, hC, hb⟩ := oexP_ok o1
  obtain ⟨fd, F⟩ := fo
  exact ⟨⟨⟨nm, qn, N, bs, bm, sn, sub, ab, col, dd, k0, k1, k2, k3, k5, hC, hb⟩, He.eqO_ok o2, z1, z2, z3⟩, glo_mg KX G a, He.eqO_ok n, ⟨_, fd, ps, He.eqO_ok i1, of_decide_eq_true i2, hin fd F, F.binds b⟩⟩
theorem errt_at {B newId initId : String} {tl : List Value} (EF : ExcBaseFacts B newId initId tl) (SF : StoreFacts B tl "object.__setattr__" "object") (KX : T.K.In h) (G : h.Ns mainGlobals T.mg) (a : fGlo x T.K = true) (o : (oexP T.K (gA x T.K) newId (refsT tl) && (saB T.K (gA x T.K) && ownB T.K (gA x T.K))) = true) (n : fNoF x f T.K = true) (i : fIni x T.K = true)
    (fo : ∃ fd, Fun T.K "__init__" qual st (mA x "__init__" T.K) fd)
    (hin : ∀ fd, Fun T.K "__init__" qual st (mA x "__init__" T.K) fd → FnOk T.P T.w T.K T.mg T.base CX0 1 (mA x "__init__" T.K) fd ps (spGvT T.K f))
    (b : ∀ (kV doc pm : Value) (an : Option Addr) (cdv ct : Value) (us : List Value), us.length = ps.length → bindArgs (PySem.W.fnOf "__init__" qual (defArgs st) (defBody st) (defScope st) .none kV doc pm an cdv ct) ⟨us, []⟩ = pure (ps.zip us)) : ErrT T x (gA x T.K) f := by
  obtain ⟨o1, o⟩ := Bool.and_eq_true_iff.mp o
  obtain ⟨o2, o3⟩ := Bool.and_eq_true_iff.mp o
  obtain ⟨z1, z2, z3⟩ := ownB_ok o3
  obtain ⟨i1, i2⟩ := Bool.and_eq_true_iff.mp i
  obtain ⟨nm, qn, N, bs, bm, sn, sub, ab, col, dd, k0, k1, k2, k3, k5, hC, hb⟩ := oexP_ok o1
  obtain ⟨fd, F⟩ := fo
  exact ⟨⟨⟨B, newId, initId, tl, EF, SF, nm, qn, N, bs, bm, sn, sub, ab, col, dd, k0, k1, k2, k3, k5, hC, hb⟩, He.eqO_ok o2, z1, z2, z3⟩, glo_mg KX G a, He.eqO_ok n, ⟨_, fd, ps, He.eqO_ok i1, of_decide_eq_true i2, hin fd F, F.binds b⟩⟩
theorem kit_of {y : Str} {b : Bool} (o : fKit x y b T.K = true) : PySem.W.kitOne T.K (.ref (gA x T.K)) (.ref (gA y T.K)) = some b := of_decide_eq_true o
theorem exm_of {a b c : Str} (o : fExm x a b c T.K = true) : PySem.W.exmAny T.K (.ref (gA x T.K)) [.ref (gA a T.K), .ref (gA b T.K), .ref (gA c T.K)] = some true := of_decide_eq_true o
/-- an error of single values -/
theorem basV_of (e : fExk x T.K = true) (a : fKit x "WrongValue" true T.K = true) (b : fKit x "WrongName" false T.K = true) (c : fKit x "NotPossible" false T.K = true) (l : fKitL x "ValueError" T.K = true) : BasK T.K (gA "WrongValue" T.K) (gA "WrongName" T.K) (gA "NotPossible" T.K) (gA x T.K) true false false :=
  ⟨exkB_ok e, kit_of a, kit_of b, kit_of c, fun _ => of_decide_eq_true l, (fun z => by cases z), fun z => by cases z⟩
theorem basP_of (e : fExk x T.K = true) (a : fKit x "WrongValue" false T.K = true) (b : fKit x "WrongName" false T.K = true) (c : fKit x "NotPossible" true T.K = true) (l : fKitL x "ArithmeticError" T.K = true) : BasK T.K (gA "WrongValue" T.K) (gA "WrongName" T.K) (gA "NotPossible" T.K) (gA x T.K) false false true :=
  ⟨exkB_ok e, kit_of a, kit_of b, kit_of c, (fun z => by cases z), (fun z => by cases z), fun _ => of_decide_eq_true l⟩
end
end Pdl
namespace Pdl
open PySem L2 PyProof.Rows
def toPyA : D → PyData
  | .dct kvs => .dict (kvs.map fun kv => ((match kv.1 with | .inl i => .int i | .inr x => .str x), toPy kv.2))
  | d => toPy d
def shownA (d : D) : Str := (toPyA d).shown
section
variable {X : Cx} {pins : List (Addr × Obj)} {σ : L2.St} {H : Hp} {s : Shared} {a : Addr}
theorem call_repr_str : CallR X (.builtin "repr") (fun xs H Q => ∃ z : Str, xs = [.str z] ∧ (reprText z).length ≤ sizeLine ∧ Q (.str (reprText z)) H) := by
  intro pins s σ H xs us Q I r h
  obtain ⟨z, rfl, hz, q⟩ := h
  obtain ⟨u, rfl, t, rfl⟩ := vals1 r
  exact PySem.P.repr_of_str ⟨.str _, H, I.tok _, ⟨_, rfl⟩, q⟩ hz
theorem cd_reprS {l : List Nat} (h : l.length ≤ 1000) (hz : ∀ c ∈ l, c < 1000) : CallD X (.builtin "repr") [.str (S l)] (.str (shownA (.str (S l)))) := .of call_repr_str fun vs H q m hm h1 k => by
  obtain ⟨v, rfl, r⟩ := h1.one
  cases r
  refine ⟨_, rfl, ?_, k _ H (Sub.refl H) (.str _)⟩
  have := StrLaws.reprText_len (S l) fun c hc => by
    rw [S_cps] at hc
    have := hz c hc
    exact Nat.lt_trans this (by decide)
  rw [S_len] at this
  exact Nat.le_trans this (Nat.le_trans (show 10 * l.length + 2 ≤ 10002 by omega) (by decide))
end
theorem rc39 : ∀ c, c < 1000 → ((Builtin.Str.reprChar 39 c).all fun d => decide (d < 1000)) = true := by decide +kernel
theorem rc34 : ∀ c, c < 1000 → ((Builtin.Str.reprChar 34 c).all fun d => decide (d < 1000)) = true := by decide +kernel
def Lt1 (x : Str) : Prop := ∀ c ∈ x.cps.toList, c < 1000
theorem Lt1.app {a b : Str} (h1 : Lt1 a) (h2 : Lt1 b) : Lt1 (a ++ b) := fun c hc => by
  have hc : c ∈ (a.cps ++ b.cps).toList := hc
  rw [Array.toList_append] at hc
  exact (List.mem_append.mp hc).elim (h1 c) (h2 c)
theorem lt1_dec {x : Str} (h : (x.cps.toList.all fun c => decide (c < 1000)) = true) : Lt1 x := fun c hc => of_decide_eq_true (List.all_eq_true.mp h c hc)
theorem Lt1.ok {x : Str} (h : Lt1 x) : okD (.str x) = true := by
  rw [okD]
  exact List.all_eq_true.mpr fun c hc => decide_eq_true (h c hc)
theorem foldl_lt {q : Nat} (hq : q = 39 ∨ q = 34) : ∀ (l : List Nat) (acc : Array Nat), (∀ c ∈ l, c < 1000) → (∀ c ∈ acc.toList, c < 1000) → ∀ c ∈ (l.foldl (fun out c => out ++ (Builtin.Str.reprChar q c).toArray) acc).toList, c < 1000
  | [], acc, _, h => h
  | x :: r, acc, h1, h2 => by
    refine foldl_lt hq r _ (fun c hc => h1 c (List.mem_cons_of_mem _ hc)) fun c hc => ?_
    rw [Array.toList_append] at hc
    rcases List.mem_append.mp hc with z | z
    · exact h2 c z
    · have hx := h1 x (by simp)
      have ha : ((Builtin.Str.reprChar q x).all fun d => decide (d < 1000)) = true := by
        rcases hq with rfl | rfl
        · exact rc39 x hx
        · exact rc34 x hx
      exact of_decide_eq_true (List.all_eq_true.mp ha c (by simpa using z))
theorem quote_or (x : Str) : reprQuote x = 39 ∨ reprQuote x = 34 := by
  unfold reprQuote
  split
  · exact .inr rfl
  · exact .inl rfl
theorem lt1_repr {x : Str} (h : Lt1 x) : Lt1 (reprText x) := fun c hc => by
  unfold reprText at hc
  have hc : c ∈ ((x.cps.foldl (fun out c => out ++ (Builtin.Str.reprChar (reprQuote x) c).toArray) #[reprQuote x]).push (reprQuote x)).toList := hc
  have hq := quote_or x
  have hq2 : reprQuote x < 1000 := by omega
  rw [Array.toList_push, ← Array.foldl_toList] at hc
  rcases List.mem_append.mp hc with z | z
  · exact foldl_lt hq x.cps.toList #[reprQuote x] h (fun d hd => by
      have : d = reprQuote x := by simpa using hd
      omega) c z
  · have : c = reprQuote x := by simpa using z
    omega
end Pdl
namespace Pdl
open PySem L2 PyProof.Rows
section
variable {X : Cx}
theorem mt_count : MtR X "list.count" (fun x xs H Q => ∃ (a : Addr) (ys : List V) (y : V), x = V.ref a ∧ xs = [y] ∧ SqL X.K H a ys ∧ flatV y = true ∧ ys.all flatV = true ∧ Q (.int (ys.countP fun z => eqV z y : Nat)) H) := by
  intro pins s σ H x xs v us Q I rx rxs h
  obtain ⟨a, ys, y, rfl, rfl, hs, fy, fys, q⟩ := h
  cases rx
  cases rxs with
  | cons ry rt =>
    rename_i uy ut
    cases rt
    obtain ⟨its, rv, ⟨⟨cls, dd, data, sl⟩, n, ho, hc, hdn, hd⟩, hlen⟩ := I.list hs
    simp only at hc hd
    subst hc hd
    have hcount : ∀ {zs : List V} {ws : List Value}, Vals zs ws → zs.all flatV = true → ws.countP (eqU y) = zs.countP fun z => eqV z y := by
      intro zs ws rz
      induction rz with
      | nil => intro _; rfl
      | @cons z w zs ws r t ih =>
        intro hf
        rw [List.all_cons, Bool.and_eq_true] at hf
        rw [List.countP_cons, List.countP_cons, ih hf.2, eqU_of r hf.1]
    refine call_meets PySem.F.slot_list_count ⟨_, ho, rfl⟩ PySem.F.entry_list_count (PySem.F.args_list_count_2 _ _)
      (SeqAt.list_countAt a its.toArray n dd sl uy (eqU y)) ⟨ho, fun u' hu' => mem_eqAt ry fy rv fys u' (by simpa using hu'), ?_⟩
    have e : its.toArray.toList.countP (eqU y) = ys.countP fun z => eqV z y := hcount rv fys
    rw [e]
    exact ⟨.int _, H, I.tok _, ⟨_, rfl⟩, q⟩
theorem RpA.bls {G : Hp} : ∀ {bs : List Bool} {vs : List V}, RpA X.K G vs (bs.map D.bl) → vs = bs.map V.bl
  | [], _, .nil => rfl
  | b :: bs, _, .cons h t => by
    cases h
    rw [RpA.bls t]
    all_goals rfl
theorem md_countB {bs : List Bool} {b : Bool} : MtD X "list.count" (.lst (bs.map D.bl)) [.bl b] (.int (bs.countP fun z => z == b : Nat)) := .of mt_count fun v vs H q m hm h1 h2 k => by
  obtain ⟨u, rfl, ru⟩ := h2.one
  cases ru
  cases h1 with
  | @lst a us _ t1 q1 =>
    have e := q1.bls
    subst e
    refine ⟨a, _, .bl b, rfl, rfl, (hid_sub _ _).sqL t1, rfl, by rw [List.all_map]; exact List.all_eq_true.mpr fun _ _ => rfl, ?_⟩
    have ec : (bs.map V.bl).countP (fun z => eqV z (.bl b)) = bs.countP fun z => z == b := by
      rw [List.countP_map]
      rfl
    rw [ec]
    exact k _ H (Sub.refl H) (.int _)
theorem md_indexB {bs : List Bool} {b : Bool} {j : Nat} (hj : bs[j]? = some b) (hno : ∀ i < j, bs[i]? ≠ some b) : MtD X "list.index" (.lst (bs.map D.bl)) [.bl b] (.int (j : Nat)) := .of mt_index fun v vs H q m hm h1 h2 k => by
  obtain ⟨u, rfl, ru⟩ := h2.one
  cases ru
  cases h1 with
  | @lst a us _ t1 q1 =>
    have e := q1.bls
    subst e
    refine ⟨a, _, .bl b, j, .bl b, rfl, rfl, (hid_sub _ _).sqL t1, rfl, by rw [List.all_map]; exact List.all_eq_true.mpr fun _ _ => rfl, by rw [List.getElem?_map, hj]; rfl, by simp [eqV], fun i z hi hz => ?_, k _ H (Sub.refl H) (.int _)⟩
    rw [List.getElem?_map] at hz
    obtain ⟨c, hc, rfl⟩ := Option.map_eq_some_iff.mp hz
    have hne : c ≠ b := fun e => hno i hi (by rw [hc, e])
    show (c == b) = false
    exact beq_eq_false_iff_ne.mpr hne
end
end Pdl
namespace Pdl
open PySem L2 PyProof.Rows
structure ValOk (d : D) : Prop where
  any : AnyK d
  rep : ∀ X : Cx, X.A.guards = some [] → X.A.units + 64 < cLine → CallD X (.builtin "repr") [d] (.str (shownA d))
  lt : Lt1 (shownA d)
theorem ValOk.ok {d : D} (h : ValOk d) {w : Str} (hw : okD (.str w) = true) : okD (.lst [.str w, .str (shownA d)]) = true := by
  rw [okD, okL, okL, okL, hw, h.lt.ok]
  rfl
theorem dp_tw2 {a b : Str} : dpD (.lst [.str a, .str b]) ≤ 3 := by simp [dpD, dpL]
theorem val_str {l : List Nat} (h : l.length ≤ 1000) (hz : ∀ c ∈ l, c < 1000) : ValOk (.str (S l)) :=
  ⟨.str l h hz, fun X _ _ => cd_reprS h hz, lt1_repr fun c hc => by rw [S_cps] at hc; exact hz c hc⟩
theorem val_int {i : Int} (h : i.natAbs.log2 < 1920) (hz : ((shownA (.int i)).cps.toList.all fun c => decide (c < 1000)) = true) : ValOk (.int i) := ⟨.int, fun X _ _ => cd_reprI h, lt1_dec hz⟩
/-- an error that keeps what it was given -/
def givX (C : Addr) (d : D) : Xn := ⟨.ref C, some [("given", d)]⟩
def isPl (ls : List (List Nat)) (d : D) : Prop := ∃ p, d = .str (S [p]) ∧ p ∈ ls.flatten
def sChkPlaceX (Cw CU : Addr) : PSx := fun ds Q E => ∃ ls d, ds = [webD Cw ls, d] ∧ Ties ls ∧ AnyK d ∧ (isPl ls d → Q .non) ∧ (¬ isPl ls d → E (givX CU d))
end Pdl
namespace Pdl
open PySem L2 PyProof.Rows
theorem PET.imp {X : Cx} {e : Expr} {t u : TE} (h : PET X e t) (i : ∀ σ H Q, u σ H Q → t σ H Q) : PET X e u := fun pins s σ H Q h0 I q => h pins s σ H Q h0 I (i _ _ _ q)
theorem PAT.imp {X : Cx} {e : List Expr} {t u : TA} (h : PAT X e t) (i : ∀ σ H Q, u σ H Q → t σ H Q) : PAT X e u := fun pos pins s σ H Q h0 I q => h pos pins s σ H Q h0 I (i _ _ _ q)
def XET (X : Cx) (μ : Md) (e : Expr) (Γ : En) (Q : QE) : Prop := PET X e (tD X.K μ Γ Q)
section
variable {X : Cx} {μ : Md} {Γ : En} {Q : QE} {a b e o : Expr} {es : List Expr} {pos : Pos} {P : Po} {st : Stmt} {sts : List Stmt}
theorem XET.of (h : XE X μ e Γ Q) : XET X μ e Γ Q := CwR.PET.of h
def PA1 (X : Cx) (es : List Expr) (t : TA) : Prop :=
  ∀ (pos : Pos) (pins : List (Addr × Obj)) (s : Shared) (σ : L2.St) (H : Hp) (Q : List V → Hp → Prop), Inv X pins σ H s → t σ H Q → wpAny (model X.prog X.w) X.A (spliced (backTo pos (starEach es X.env))) (fun us s' => 1 ≤ s'.toks ∧ AP X pins σ Q us s') X.xe s
def u1 (X : Cx) (e : Expr) : TE := fun σ H Q => ∃ t, PE1 X e t ∧ t σ H Q
theorem PA1.imp {X : Cx} {e : List Expr} {t u : TA} (h : PA1 X e t) (i : ∀ σ H Q, u σ H Q → t σ H Q) : PA1 X e u := fun pos pins s σ H Q I q => h pos pins s σ H Q I (i _ _ _ q)
end
/-- no text of a web -/
def NoW (CT CA : Addr) (d : D) : Prop := NoStr d ∨ ∃ l x, d = .str (S l) ∧ TErr CT CA (.tup (SL (TL.spl [32] 0 [] l))) x
theorem NoW.no {CT CA : Addr} {ls : List (List Nat)} (ht : Ties ls) (h : NoW CT CA (.str (S (txt ls)))) : False := by
  rcases h with h | ⟨l, x, e, hx⟩
  · cases h
  · have : l = txt ls := by
      injection e with e
      have := congrArg (fun z : Str => z.cps.toList) e
      simp only [S_cps] at this
      exact this.symm
    subst this
    rw [spl_ties ht] at hx
    exact hx.no ht
end Pdl
namespace Pdl
open PySem L2 PyProof.Rows
/-- an arrow's tie; what is no arrow has none -/
def pairD (d : D) : D := if onS twL d = true then .str (S (pr2 (textOf d))) else .non
def pairT : D → D
  | .tup xs => .tup (xs.map pairD)
  | d => d
def AErr (CI CA CR : Addr) (d : D) (x : Xn) : Prop := TErr CI CA (pairT d) x ∨ ∃ as, d = .tup (SL as) ∧ (∀ l ∈ as, twL l = true) ∧ Ties (as.map pr2) ∧ rkB as = false ∧ x = ⟨.ref CR, none⟩
theorem pairD_tw {l : List Nat} (h : twL l = true) : pairD (.str (S l)) = .str (S (pr2 l)) := by unfold pairD; rw [onS_S, if_pos h, textOf_S]
theorem pairD_SL : ∀ {as : List (List Nat)}, (∀ l ∈ as, twL l = true) → (SL as).map pairD = SL (as.map pr2)
  | [], _ => rfl
  | l :: as, h => by
    show pairD (.str (S l)) :: (SL as).map pairD = _
    rw [pairD_tw (h l (by simp)), pairD_SL fun k hk => h k (List.mem_cons_of_mem _ hk)]
    rfl
theorem dS_inj {a b : List Nat} (h : D.str (S a) = .str (S b)) : a = b := by
  injection h with h
  have := congrArg (fun z : Str => z.cps.toList) h
  simp only [S_cps] at this
  exact this
theorem Arrs.tw {as : List (List Nat)} (h : Arrs as) : ∀ l ∈ as, twL l = true := fun l hl => by
  obtain ⟨a, b, rfl, h1, h2, h3⟩ := h.pr l hl
  exact decide_eq_true ⟨h1, h2, h3⟩
theorem SL_inj {a b : List (List Nat)} (e : D.tup (SL a) = .tup (SL b)) : a = b := by
  injection e with e
  have := congrArg (List.map textOf) e
  rw [SL_text, SL_text] at this
  exact this
theorem AErr.no {CI CA CR : Addr} {as : List (List Nat)} {x : Xn} (ha : Arrs as) (h : AErr CI CA CR (.tup (SL as)) x) : False := by
  rcases h with h | ⟨bs, e, u1, u2, u3, rfl⟩
  · have hx : TErr CI CA (.tup ((SL as).map pairD)) x := h
    rw [pairD_SL ha.tw] at hx
    exact hx.no ha.ties
  · cases SL_inj e
    rw [rkB_t ha.two ha.rk] at u3
    cases u3
def sShownA (CI CA CR : Addr) : PSp := fun ds Q => (∃ y, ds = [.exc CI [("index", y)]] ∧ (y = .non ∨ ∃ k : Nat, y = .int k ∧ k ≤ 1000000) ∧ Q (.lst [.str "arrows", .str (shownD y)])) ∨ (ds = [.exc CA []] ∧ Q (.lst [.str "apart", .str ""])) ∨ (ds = [.exc CR []] ∧ Q (.lst [.str "ringed", .str ""]))
inductive ToldA (CI CA CR : Addr) : Xn → D → Prop
  | non : ToldA CI CA CR ⟨.ref CI, some [("index", .non)]⟩ (.lst [.str "arrows", .str (shownD .non)])
  | int {k : Nat} (h : k ≤ 10) : ToldA CI CA CR ⟨.ref CI, some [("index", .int k)]⟩ (.lst [.str "arrows", .str (shownD (.int k))])
  | apart : ToldA CI CA CR ⟨.ref CA, none⟩ (.lst [.str "apart", .str ""])
  | ringed : ToldA CI CA CR ⟨.ref CR, none⟩ (.lst [.str "ringed", .str ""])
theorem ToldA.ok {CI CA CR : Addr} {x : Xn} {r : D} (h : ToldA CI CA CR x r) : okD r = true ∧ dpD r ≤ 3 := by
  cases h with
  | non => exact ⟨by decide +kernel, by decide +kernel⟩
  | @int k hk =>
    refine ⟨?_, by simp [dpD, dpL]⟩
    have := shown_small k hk
    rw [okD, okL, okL, okL, this]
    decide +kernel
  | apart => exact ⟨by decide +kernel, by decide +kernel⟩
  | ringed => exact ⟨by decide +kernel, by decide +kernel⟩
theorem ToldA.shown {CI CA CR : Addr} {x : Xn} {r : D} (h : ToldA CI CA CR x r) : ∃ C, x.cls = .ref C ∧ (C = CI ∨ C = CA ∨ C = CR) ∧ ∀ Qc : D → Prop, Qc r → sShownA CI CA CR [.exc C (x.fs.getD [])] Qc := by
  cases h with
  | non => exact ⟨CI, rfl, .inl rfl, fun Qc hq => .inl ⟨_, rfl, .inl rfl, hq⟩⟩
  | @int k hk => exact ⟨CI, rfl, .inl rfl, fun Qc hq => .inl ⟨_, rfl, .inr ⟨k, rfl, by omega⟩, hq⟩⟩
  | apart => exact ⟨CA, rfl, .inr (.inl rfl), fun Qc hq => .inr (.inl ⟨rfl, hq⟩)⟩
  | ringed => exact ⟨CR, rfl, .inr (.inr rfl), fun Qc hq => .inr (.inr ⟨rfl, hq⟩)⟩
end Pdl
namespace Pdl
open PySem L2 PyProof.Rows
def NoY (CI CA CR : Addr) (d : D) : Prop := NoStr d ∨ ∃ l x, d = .str (S l) ∧ AErr CI CA CR (.tup (SL (TL.spl [32] 0 [] l))) x
theorem NoY.no {CI CA CR : Addr} {as : List (List Nat)} (ha : Arrs as) (h : NoY CI CA CR (.str (S (txt as)))) : False := by
  rcases h with h | ⟨l, x, e, hx⟩
  · cases h
  · rw [← dS_inj e, spl_txt ha] at hx
    exact hx.no ha
end Pdl
namespace Pdl
open PySem L2 PyProof.Rows
theorem exch_ranked_back {as : List (List Nat)} {p : Nat} (h2 : Two as) (hr : Ranked as) (hg : Takes as p) : Ranked (exch as p) := by
  obtain ⟨r, h⟩ := hr
  have hl : NoLoop as := Ranked.noLoop ⟨r, h⟩
  refine ⟨fun x => if x = p then 0 else r x + 1, fun a b hab => ?_⟩
  show (if a = p then 0 else r a + 1) < (if b = p then 0 else r b + 1)
  rcases (mem_exch h2).mp hab with ⟨h1, h3⟩ | ⟨h1, h3⟩
  · have h4 : ¬ p = b := fun e => hg a (e ▸ h3)
    have h5 : p = a := h1.resolve_right h4
    rw [if_pos h5.symm, if_neg fun e => h4 e.symm]
    omega
  · have := h a b h3
    rw [if_neg fun e => h1 (.inl e.symm), if_neg fun e => h1 (.inr e.symm)]
    omega
theorem back_arrs {as : List (List Nat)} {p : Nat} (h : Arrs as) (hg : Takes as p) : Arrs (exch as p) := exch_arrs h (exch_ranked_back h.two h.rk hg)
/-- the word of an error with what its field holds -/
def sShownF (ws : List (Addr × Str × Str)) : PSp := fun ds Q => ∃ C w f y, ds = [.exc C [(f, y)]] ∧ (C, w, f) ∈ ws ∧ ValOk y ∧ Q (.lst [.str w, .str (shownA y)])
end Pdl
namespace GQ2
open PySem PySem.SeqAt
open AutoSeq1 (wpAny_loadPart')
open MeetsSeq MeetsSeq2 MeetsSeq3 SeqRoads2
open GQ (FinOf call_here)
section
variable {prog : Program} {w : World} {A : Around} {R : Result → Shared → Prop}
/-- at each turn the two lists are read anew, the i-th two are equal -/
def ListJ (prog : Program) (w : World) (A : Around) (E : Value → Shared → Prop) (l b : Addr) (N : Nat) (I : Nat → Shared → Prop) : Prop :=
  ∀ i s, I i s → ∃ (items items2 : Array Value), s.heap.IsList l items ∧ s.heap.IsList b items2 ∧ items.size = N ∧ items2.size = N ∧
    ∀ (h1 : i < items.size) (h2 : i < items2.size), wpAny (model prog w) A.in1 (eqBool items[i] items2[i]) (fun r s' => r = true ∧ I (i + 1) s') E s
theorem eq_loopJ (l b : Addr) (N : Nat) (I : Nat → Shared → Prop) (hl : ListJ prog w A (fun e s' => R (.error e) s') l b N I)
    (fin : ∀ s, I N s → R (.ok (.ret (.bool true))) s) (k : Nat) :
    ∀ i : Nat, N - i = k → i ≤ N → ∀ s, I i s →
      wpAny (model prog w) A.in1 (Builtin.«list.__eq__.loop» ⟨[.ref l, .ref b, rawInt i, rawInt 2], []⟩) (FinOf prog w A R) (fun e s' => R (.error e) s') s := by
  induction k with
  | zero =>
    intro i hk hi s h
    obtain ⟨items, items2, hl0, hb0, hs1, hs2, _⟩ := hl _ _ h
    obtain ⟨⟨cls, dd, data, sl⟩, hl1, hc, n, hd⟩ := id hl0
    obtain ⟨⟨cls2, dd2, data2, sl2⟩, hb1, hc2, n2, hd2⟩ := id hb0
    simp only at hc hd hc2 hd2
    subst hc hd hc2 hd2
    have hi' : i = N := by omega
    have hR : R (.ok (.ret (.bool true))) s := fin s (hi' ▸ h)
    clear hl0 hb0
    obtain ⟨hp, g, d, tk, os⟩ := s
    wp_walk using wpAny_loadPart' hl1, wpAny_loadPart' hb1
    have hi1 : items[((i : Nat) : Int).toNat]? = none := by simp; omega
    have hi2 : items2[((i : Nat) : Int).toNat]? = none := by simp; omega
    rw [hi1, hi2]
    wp_walk using wpAny_loadPart' hl1, wpAny_loadPart' hb1
    show R (.ok (.ret (.bool (items.size == items2.size)))) _
    rw [hs1, hs2]
    simpa using hR
  | succ k ih =>
    intro i hk hi s h
    obtain ⟨items, items2, hl0, hb0, hs1, hs2, turn⟩ := hl _ _ h
    obtain ⟨⟨cls, dd, data, sl⟩, hl1, hc, n, hd⟩ := id hl0
    obtain ⟨⟨cls2, dd2, data2, sl2⟩, hb1, hc2, n2, hd2⟩ := id hb0
    simp only at hc hd hc2 hd2
    subst hc hd hc2 hd2
    have hlt : i < items.size := by omega
    have hlt2 : i < items2.size := by omega
    have ht := turn hlt hlt2
    clear hl0 hb0
    obtain ⟨hp, g, d, tk, os⟩ := s
    wp_walk using wpAny_loadPart' hl1, wpAny_loadPart' hb1
    have hi1 : items[((i : Nat) : Int).toNat]? = some items[i] := by simp [hlt]
    have hi2 : items2[((i : Nat) : Int).toNat]? = some items2[i] := by simp [hlt2]
    have hc : ((i : Int) + 1) = ((i + 1 : Nat) : Int) := by omega
    rw [hi1, hi2]
    refine wpAny_bind (wpAny_mono ht (fun r s2 h2 => ?_) fun _ _ x => x)
    obtain ⟨hr, h2⟩ := h2
    subst hr
    have hrec := ih (i + 1) (by omega) (by omega) s2 h2
    obtain ⟨hp2, g2, d2, tk2, os2⟩ := s2
    wp_walk
    rw [hc]
    exact ⟨plainId_quiet plain_eq_loop _, codeAny_builtin entry_eq_loop (by
      rw [Around.under_plainId plain_eq_loop _]
      exact hrec)⟩
theorem ne_loopJ (l b : Addr) (N : Nat) (I : Nat → Shared → Prop) (hl : ListJ prog w A (fun e s' => R (.error e) s') l b N I)
    (fin : ∀ s, I N s → R (.ok (.ret (.bool false))) s) (k : Nat) :
    ∀ i : Nat, N - i = k → i ≤ N → ∀ s, I i s →
      wpAny (model prog w) A.in1 (Builtin.«list.__eq__.loop» ⟨[.ref l, .ref b, rawInt i, rawInt 3], []⟩) (FinOf prog w A R) (fun e s' => R (.error e) s') s := by
  induction k with
  | zero =>
    intro i hk hi s h
    obtain ⟨items, items2, hl0, hb0, hs1, hs2, _⟩ := hl _ _ h
    obtain ⟨⟨cls, dd, data, sl⟩, hl1, hc, n, hd⟩ := id hl0
    obtain ⟨⟨cls2, dd2, data2, sl2⟩, hb1, hc2, n2, hd2⟩ := id hb0
    simp only at hc hd hc2 hd2
    subst hc hd hc2 hd2
    have hi' : i = N := by omega
    have hR : R (.ok (.ret (.bool false))) s := fin s (hi' ▸ h)
    clear hl0 hb0
    obtain ⟨hp, g, d, tk, os⟩ := s
    wp_walk using wpAny_loadPart' hl1, wpAny_loadPart' hb1
    have hi1 : items[((i : Nat) : Int).toNat]? = none := by simp; omega
    have hi2 : items2[((i : Nat) : Int).toNat]? = none := by simp; omega
    rw [hi1, hi2]
    wp_walk using wpAny_loadPart' hl1, wpAny_loadPart' hb1
    show R (.ok (.ret (.bool (items.size != items2.size)))) _
    rw [hs1, hs2]
    simpa using hR
  | succ k ih =>
    intro i hk hi s h
    obtain ⟨items, items2, hl0, hb0, hs1, hs2, turn⟩ := hl _ _ h
    obtain ⟨⟨cls, dd, data, sl⟩, hl1, hc, n, hd⟩ := id hl0
    obtain ⟨⟨cls2, dd2, data2, sl2⟩, hb1, hc2, n2, hd2⟩ := id hb0
    simp only at hc hd hc2 hd2
    subst hc hd hc2 hd2
    have hlt : i < items.size := by omega
    have hlt2 : i < items2.size := by omega
    have ht := turn hlt hlt2
    clear hl0 hb0
    obtain ⟨hp, g, d, tk, os⟩ := s
    wp_walk using wpAny_loadPart' hl1, wpAny_loadPart' hb1
    have hi1 : items[((i : Nat) : Int).toNat]? = some items[i] := by simp [hlt]
    have hi2 : items2[((i : Nat) : Int).toNat]? = some items2[i] := by simp [hlt2]
    have hc : ((i : Int) + 1) = ((i + 1 : Nat) : Int) := by omega
    rw [hi1, hi2]
    refine wpAny_bind (wpAny_mono ht (fun r s2 h2 => ?_) fun _ _ x => x)
    obtain ⟨hr, h2⟩ := h2
    subst hr
    have hrec := ih (i + 1) (by omega) (by omega) s2 h2
    obtain ⟨hp2, g2, d2, tk2, os2⟩ := s2
    wp_walk
    rw [hc]
    exact ⟨plainId_quiet plain_eq_loop _, codeAny_builtin entry_eq_loop (by
      rw [Around.under_plainId plain_eq_loop _]
      exact hrec)⟩
theorem list_eqJ (l b : Addr) (N : Nat) (I : Nat → Shared → Prop) (hl : ListJ prog w A (fun e s' => R (.error e) s') l b N I)
    (fin : ∀ s, I N s → R (.ok (.ret (.bool true))) s) {s : Shared} (h : I 0 s) :
    wpAny (model prog w) A.in1 (Builtin.«list.__eq__» ⟨[.ref l, .ref b], []⟩) (FinOf prog w A R) (fun e s' => R (.error e) s') s := by
  obtain ⟨items, items2, hl0, hb0, hs1, hs2, _⟩ := hl _ _ h
  obtain ⟨⟨cls, dd, data, sl⟩, hl1, hc, n, hd⟩ := id hl0
  obtain ⟨⟨cls2, dd2, data2, sl2⟩, hb1, hc2, n2, hd2⟩ := id hb0
  simp only at hc hd hc2 hd2
  subst hc hd hc2 hd2
  have hrec := eq_loopJ (A := A) (R := R) l b N I hl fin _ 0 rfl (Nat.zero_le _) s h
  clear hl0 hb0
  obtain ⟨hp, g, d, tk, os⟩ := s
  have f3 := AutoSeq1.sub_list_list
  have hne : ¬ (items.size != items2.size) = true := by simp [hs1, hs2]
  wp_walk using wpAny_loadPart' hl1, wpAny_loadPart' hb1
  exact ⟨plainId_quiet plain_eq_loop _, codeAny_builtin entry_eq_loop (by
    rw [Around.under_plainId plain_eq_loop _]
    exact hrec)⟩
theorem list_neJ (l b : Addr) (N : Nat) (I : Nat → Shared → Prop) (hl : ListJ prog w A (fun e s' => R (.error e) s') l b N I)
    (fin : ∀ s, I N s → R (.ok (.ret (.bool false))) s) {s : Shared} (h : I 0 s) :
    wpAny (model prog w) A.in1 (Builtin.«list.__ne__» ⟨[.ref l, .ref b], []⟩) (FinOf prog w A R) (fun e s' => R (.error e) s') s := by
  obtain ⟨items, items2, hl0, hb0, hs1, hs2, _⟩ := hl _ _ h
  obtain ⟨⟨cls, dd, data, sl⟩, hl1, hc, n, hd⟩ := id hl0
  obtain ⟨⟨cls2, dd2, data2, sl2⟩, hb1, hc2, n2, hd2⟩ := id hb0
  simp only at hc hd hc2 hd2
  subst hc hd hc2 hd2
  have hrec := ne_loopJ (A := A) (R := R) l b N I hl fin _ 0 rfl (Nat.zero_le _) s h
  clear hl0 hb0
  obtain ⟨hp, g, d, tk, os⟩ := s
  have f3 := AutoSeq1.sub_list_list
  have hne : ¬ (items.size != items2.size) = true := by simp [hs1, hs2]
  wp_walk using wpAny_loadPart' hl1, wpAny_loadPart' hb1
  exact ⟨plainId_quiet plain_eq_loop _, codeAny_builtin entry_eq_loop (by
    rw [Around.under_plainId plain_eq_loop _]
    exact hrec)⟩
end
section
variable {prog : Program} {w : World} {A : Around} {E : Value → Shared → Prop} {s : Shared}
theorem rc_listJ {l b : Addr} {N : Nat} {Q : Value → Shared → Prop} (hu : A.units < cLine) (I : Nat → Shared → Prop) (hl : ListJ prog w A E l b N I)
    (fin : ∀ s, I N s → Q (.bool true) s) (h : I 0 s) : wpAny (model prog w) A (richCompare .Eq (.ref l) (.ref b)) Q E s := by
  obtain ⟨items, items2, hl0, hb0, _, _, _⟩ := hl _ _ h
  obtain ⟨o, hl1, hc, _⟩ := id hl0
  obtain ⟨o2, hb1, hc2, _⟩ := id hb0
  refine wpAny_richCompare_same_room (op := .Eq) ⟨_, hl1, hc⟩ ⟨_, hb1, hc2⟩ F.slot_list_eq (call_here F.slot_list_eq ⟨_, hl1, hc⟩ F.entry_list_eq (F.args_list_eq_2 _ _) ?_) hu
  exact list_eqJ (R := wants (fun v s' => v ≠ .notImplemented ∧ Q v s') E) l b N I hl (fun s' q => ⟨(fun x => nomatch x), fin s' q⟩) h
theorem rn_listJ {l b : Addr} {N : Nat} {Q : Value → Shared → Prop} (hu : A.units < cLine) (I : Nat → Shared → Prop) (hl : ListJ prog w A E l b N I)
    (fin : ∀ s, I N s → Q (.bool false) s) (h : I 0 s) : wpAny (model prog w) A (richCompare .NotEq (.ref l) (.ref b)) Q E s := by
  obtain ⟨items, items2, hl0, hb0, _, _, _⟩ := hl _ _ h
  obtain ⟨o, hl1, hc, _⟩ := id hl0
  obtain ⟨o2, hb1, hc2, _⟩ := id hb0
  refine wpAny_richCompare_same_room (op := .NotEq) ⟨_, hl1, hc⟩ ⟨_, hb1, hc2⟩ F.slot_list_ne (call_here F.slot_list_ne ⟨_, hl1, hc⟩ F.entry_list_ne (F.args_list_ne_2 _ _) ?_) hu
  exact list_neJ (R := wants (fun v s' => v ≠ .notImplemented ∧ Q v s') E) l b N I hl (fun s' q => ⟨(fun x => nomatch x), fin s' q⟩) h
end
end GQ2
namespace Pdl
open PySem L2 PyProof.Rows
def DListQ (K : PySem.W.Frag) (D : Eqv) : Eqv := fun x y H => ∃ a b xs ys, x = .ref a ∧ y = .ref b ∧ SqL K H a xs ∧ SqL K H b ys ∧ Prs D xs ys H
section
variable {X : Cx} {n : Nat} {D : Eqv}
theorem listJ_of (hD : Mon D) (h : EqG X n D) {A : Around} {pins : List (Addr × Obj)} {σ : L2.St} {H : Hp} {a b : Addr} {xs ys : List V} (sb : L2.Sub X (n + 1) A) (ha : SqL X.K H a xs) (hb : SqL X.K H b ys) (p : Prs D xs ys H) :
    GQ2.ListJ X.prog X.w A X.xe a b xs.length (fun _ s' => LoopI X pins σ H s') := fun i s' q => by
  obtain ⟨H1, I1, e1⟩ := id q
  obtain ⟨its, r, e, _⟩ := I1.list (SqL.ext ha e1)
  obtain ⟨its2, r2, e2, _⟩ := I1.list (SqL.ext hb e1)
  exact ⟨its.toArray, its2.toArray, e.isList, e2.isList, by rw [List.size_toArray, ← r.length], by rw [List.size_toArray, ← r2.length, ← p.1], fun h1 h2 => turnG hD h sb p r r2 i h1 h2 s' q⟩
theorem rcG_listQ (hD : Mon D) (h : EqG X n D) : RcG X (n + 1) (DListQ X.K D) := by
  intro A pins s σ H x y u v sb I rx ry d
  obtain ⟨a, b, xs, ys, rfl, rfl, ha, hb, p⟩ := d
  cases rx
  cases ry
  exact GQ2.rc_listJ (N := xs.length) sb.room.units0 (fun _ s' => LoopI X pins σ H s') (listJ_of hD h sb ha hb p) (fun s' q => ⟨rfl, q⟩) ⟨H, I, Ext.rfl'⟩
theorem op_neQ (hD : Mon D) (h : EqG X n D) (hr : Room (n + 1) X.A) : OpR X (compareOp .NotEq) (fun x y H Q => DListQ X.K D x y H ∧ ∀ H', Ext H H' → Q (.bl false) H') := by
  intro pins s σ H x y v u Q I rx ry hq
  obtain ⟨⟨a, b, xs, ys, rfl, rfl, ha, hb, p⟩, q⟩ := hq
  cases rx
  cases ry
  show wpAny (model X.prog X.w) X.A (richCompare .NotEq (.ref a) (.ref b)) (EP X pins σ Q) X.xe s
  refine GQ2.rn_listJ (N := xs.length) hr.units0 (fun _ s' => LoopI X pins σ H s') (listJ_of hD h ⟨hr, rfl⟩ ha hb p) (fun s' q1 => ?_) ⟨H, I, Ext.rfl'⟩
  obtain ⟨H', I', e⟩ := q1
  exact ⟨.bl false, H', I', rfl, q H' e⟩
end
def fltD : D → Bool
  | .non => true
  | .bl _ => true
  | .int _ => true
  | .str _ => true
  | _ => false
/-- data of nested lists with own objects of one class, of so great a depth -/
inductive OwnQ (C : Addr) (Ok : List (Str × D) → Prop) : Nat → D → Prop
  | flat {n : Nat} {d : D} (h : fltD d = true) : OwnQ C Ok n d
  | ins {n : Nat} {fs : List (Str × D)} (h : Ok fs) : OwnQ C Ok n (.ins C fs)
  | lst {n : Nat} {xs : List D} (h : ∀ x ∈ xs, OwnQ C Ok n x) : OwnQ C Ok (n + 1) (.lst xs)
/-- two values of the same data -/
def SameQ (K : PySem.W.Frag) (P : D → Prop) : Eqv := fun x y H => ∃ d, P d ∧ Rp K H x d ∧ Rp K H y d
theorem mon_same {K : PySem.W.Frag} {P : D → Prop} : Mon (SameQ K P) := fun x y H H' e ⟨d, h, r1, r2⟩ => ⟨d, h, r1.mono e, r2.mono e⟩
/-- an own == that says True of the same data -/
abbrev SelfQ (S : PSp) (C : Addr) (fs : List (Str × D)) : Prop := ∀ Qc : D → Prop, Qc (.bl true) → S [.ins C fs, .ins C fs] Qc
theorem prs_same {K : PySem.W.Frag} {P : D → Prop} {H : Hp} : ∀ {ds : List D} {xs ys : List V}, (∀ d ∈ ds, P d) → RpA K H xs ds → RpA K H ys ds → Prs (SameQ K P) xs ys H
  | [], _, _, _, r1, r2 => by cases r1; cases r2; exact .nil
  | d :: ds, _, _, h, r1, r2 => by
    cases r1 with
    | cons a1 b1 =>
      cases r2 with
      | cons a2 b2 => exact .cons ⟨d, h d (by simp), a1, a2⟩ (prs_same (fun x hx => h x (List.mem_cons_of_mem _ hx)) b1 b2)
section
variable {X : Cx} {C : Addr} {k : Nat} {S : PSp}
theorem eqG_own (M : EqD X.prog X.w X.K X.mg X.base C k S) : ∀ n, EqG X (k + n) (SameQ X.K (OwnQ C (SelfQ S C) n)) := by
  intro n
  induction n with
  | zero =>
    obtain ⟨f, fd, ps, F, _, _, hs, hf, hb⟩ := M
    let R : Addr → Addr → Hp → Prop := fun a b H => ∃ fs, SelfQ S C fs ∧ Rp X.K H (.ref a) (.ins C fs) ∧ Rp X.K H (.ref b) (.ins C fs)
    have F' : FnOk X.prog X.w X.K X.mg X.base CX0 k f fd ps (spEq R) := F.imp fun vs H Q E ⟨a, b, hv, ⟨fs, ok, r1, r2⟩, q⟩ => by
      subst hv
      have eh : hid (tot (fun _ => false) []) H = H := by
        funext a
        simp [hid, tot, inC]
      refine ⟨fun _ => false, [.ins C fs, .ins C fs], [], ⟨fun a h => (by cases h), List.nodup_nil, fun p hp => (by cases hp), fun p hp => (by cases hp)⟩, by rw [eh]; exact .cons r1 (.cons r2 .nil), rfl, ok _ fun v H' fw co rv => ?_⟩
      cases rv
      exact q H' (fw_nil fw)
    refine EqG.imp (EqG.or (eqG_flat.mono (Nat.zero_le k)) (eqG_ins (E := fun _ _ _ => False) F' hs hf hb pass0')) fun x y H ⟨d, hd, r1, r2⟩ => ?_
    cases hd with
    | flat h =>
      refine .inl ?_
      cases d with
      | non => cases r1; cases r2; exact ⟨rfl, rfl, rfl⟩
      | bl b => cases r1; cases r2; exact ⟨rfl, rfl, by cases b <;> rfl⟩
      | int i => cases r1; cases r2; exact ⟨rfl, rfl, by simp [eqV]⟩
      | str z => cases r1; cases r2; exact ⟨rfl, rfl, by simp [eqV]⟩
      | _ => cases h
    | ins ok =>
      refine .inr ?_
      have t1 := r1; have t2 := r2
      cases r1 with
      | @ins a1 _ dx fv _ s1 q1 =>
        cases r2 with
        | @ins a2 _ dy gv _ s2 q2 => exact ⟨a1, a2, dx, dy, fv, gv, rfl, rfl, s1, s2, _, ok, t1, t2⟩
  | succ n ih =>
    refine EqG.imp (EqG.or (ih.mono (Nat.le_succ _)) ((rcG_listQ mon_same ih).eqG fun x y H ⟨a, b, _, _, hx, hy, _⟩ => ⟨a, b, hx, hy⟩)) fun x y H ⟨d, hd, r1, r2⟩ => ?_
    cases hd with
    | flat h => exact .inl ⟨d, .flat h, r1, r2⟩
    | ins ok => exact .inl ⟨_, .ins ok, r1, r2⟩
    | lst h =>
      refine .inr ?_
      cases r1 with
      | @lst a1 vs _ s1 q1 =>
        cases r2 with
        | @lst a2 ws _ s2 q2 => exact ⟨a1, a2, vs, ws, rfl, rfl, s1, s2, prs_same h q1 q2⟩
variable {n N : Nat} {xs : List D}
theorem same_lst {m : Addr → Bool} {H : Hp} {a b : V} {P : D → Prop} (h : ∀ x ∈ xs, P x) (h1 : Rp X.K (hid m H) a (.lst xs)) (h2 : Rp X.K (hid m H) b (.lst xs)) : DListQ X.K (SameQ X.K P) a b H := by
  cases h1.mono (hid_sub m H) with
  | @lst a1 vs _ s1 q1 =>
    cases h2.mono (hid_sub m H) with
    | @lst a2 ws _ s2 q2 => exact ⟨a1, a2, vs, ws, rfl, rfl, s1, s2, prs_same h q1 q2⟩
theorem od_eqLs (M : EqD X.prog X.w X.K X.mg X.base C k S) (hr : Room N X.A) (hn : k + n + 1 ≤ N) (h : ∀ x ∈ xs, OwnQ C (SelfQ S C) n x) : OpD X (compareOp .Eq) (.lst xs) (.lst xs) (.bl true) :=
  .of (op_eqG (rcG_listQ mon_same (eqG_own M n)) (hr.mono hn)) fun a b H q m hm h1 h2 kq => ⟨same_lst h h1 h2, fun H' e => kq _ H' e (.bl _)⟩
theorem od_neLs (M : EqD X.prog X.w X.K X.mg X.base C k S) (hr : Room N X.A) (hn : k + n + 1 ≤ N) (h : ∀ x ∈ xs, OwnQ C (SelfQ S C) n x) : OpD X (compareOp .NotEq) (.lst xs) (.lst xs) (.bl false) :=
  .of (op_neQ mon_same (eqG_own M n) (hr.mono hn)) fun a b H q m hm h1 h2 kq => ⟨same_lst h h1 h2, fun H' e => kq _ H' e (.bl _)⟩
end
end Pdl
namespace Pdl
open PySem L2 PyProof.Rows
theorem lessL_mem {ls : List (List Nat)} {a b : Nat} {t : List Nat} : t ∈ lessL ls a b ↔ t ∈ ls ∧ t ≠ [a, b] := by unfold lessL; rw [List.mem_filter, decide_eq_true_iff]
theorem lessL_near {ls : List (List Nat)} {a b : Nat} (h : Ties ls) (hne : lessL ls a b ≠ []) : NearT (lessL ls a b) := by
  refine ⟨hne, Nat.le_trans (List.length_filter_le _ _) h.len, fun l hl => h.pr l (lessL_mem.mp hl).1, h.asc.filter _, ?_⟩
  refine Nat.le_trans (nodup_len (us_nodup _) (m := us ls.flatten) fun x hx => ?_) h.few
  obtain ⟨l, hl, hx⟩ := List.mem_flatten.mp (mem_us.mp hx)
  exact mem_us.mpr (List.mem_flatten.mpr ⟨l, (lessL_mem.mp hl).1, hx⟩)
def Joi (ls : List (List Nat)) (a b : Nat) : Prop := lessL ls a b ≠ [] ∧ us (lessL ls a b).flatten = us ls.flatten ∧ Conn (lessL ls a b)
theorem Joi.ties {ls : List (List Nat)} {a b : Nat} (h : Ties ls) (hj : Joi ls a b) : Ties (lessL ls a b) := (lessL_near h hj.1).ties hj.2.2
end Pdl
namespace PySem
namespace HandSPX
end HandSPX
end PySem
namespace Pdl
open PySem L2 PyProof.Rows PySem.Spec
/-- the tracked part: the script, two tables -/
def scrT2 (K : PySem.W.Frag) (P1 P2 a : Addr) (vs : List Value) (ns : List Int) : Hp := fun b => if b = P1 ∨ b = P2 then some (.tbl #[]) else scr K a vs ns b
section
variable {P : Program} {w : World} {K : PySem.W.Frag} {mg mb : Str → Option Value} {k : Nat} {fa a c1 c2 P1 P2 : Addr} {fd : FuncData} {x : Str} {sp : Sp} {s₁ : Shared} {vs : List Value} {ns : List Int}
theorem law_callGT2 (kin : K.In s₁.heap) (nsm : s₁.heap.Ns mainGlobals mg) (nsb : s₁.heap.Ns builtinsNs mb) (bb : ∀ x : Str, x ≠ "__name__" → mb x = bootBuiltins x) (nol : s₁.heap.NoLimit) (gen : s₁.gens = #[])
    (atP1 : s₁.heap.get? P1 = some { cls := .none, data := .fields #[] }) (outP1 : K.lookup P1 = none) (hd1 : PySem.W.CodeHd s₁.heap c1 P1) (atP2 : s₁.heap.get? P2 = some { cls := .none, data := .fields #[] }) (outP2 : K.lookup P2 = none) (hd2 : PySem.W.CodeHd s₁.heap c2 P2)
    (bmain : ∃ (bm : Addr) (ob : Obj), mg "__builtins__" = some (.ref bm) ∧ bm ≠ builtinsNs ∧ s₁.heap.get? bm = some ob ∧ ob.cls = .type "module" ∧ ob.dict = some builtinsNs ∧ ob.data = .plain)
    (at_a : s₁.heap.get? a = some { cls := .type "list", data := .seq vs.toArray }) (hin : IntsAre vs ns) (few : ns.length ≤ sizeLine) (room : Room k callerA)
    (F : ∀ base : Heap, K.In base → base.Ns mainGlobals mg → LamX.TabB base mg c1 P1 → LamX.TabB base mg c2 P2 → FnG P w K mg base k fa fd [x] sp) (bind : ∀ (s : Shared) (u : Value), BindsTo s fd ⟨[u], []⟩ [(x, u)])
    (pro : ∀ H : Hp, H P1 = some (.tbl #[]) → H P2 = some (.tbl #[]) → SqL K H a (ns.map V.int) → sp [.ref a] H (fun v _ => v = .bl true) fun _ _ _ => False) :
    codeAny (model P w) callerA (.call (.ref fa) ⟨[.ref a], []⟩) (fun r s' => r = .ok (.ret (.bool true)) ∧ OldK s₁.heap s'.heap ∧ s'.os = s₁.os ∧ AllBare s'.gens) s₁ := by
  have rel := vals_ints hin
  have atP : ∀ {b : Addr}, b = P1 ∨ b = P2 → s₁.heap.get? b = some { cls := .none, data := .fields #[] } := fun h => by
    rcases h with rfl | rfl
    · exact atP1
    · exact atP2
  have naP : ¬ (a = P1 ∨ a = P2) := fun z => by
    rw [atP z] at at_a
    cases at_a
  have cases3 : ∀ b, scrT2 K P1 P2 a vs ns b = none ∨ ((b = P1 ∨ b = P2) ∧ scrT2 K P1 P2 a vs ns b = some (.tbl #[])) ∨ (b = a ∧ K.lookup a = none ∧ scrT2 K P1 P2 a vs ns b = some (.frz { cls := .type "list", data := .seq vs.toArray } (.lst (ns.map V.int)))) := fun b => by
    by_cases hb : b = P1 ∨ b = P2
    · exact .inr (.inl ⟨hb, if_pos hb⟩)
    · have e : scrT2 K P1 P2 a vs ns b = scr K a vs ns b := if_neg hb
      rw [e]
      rcases scr_cases (K := K) (a := a) (vs := vs) (ns := ns) b with h | h
      · exact .inl h
      · exact .inr (.inr h)
  have inB : ∀ {b : Addr} {o : Obj}, s₁.heap.get? b = some o → scrT2 K P1 P2 a vs ns b = none → (hidT s₁.heap (scrT2 K P1 P2 a vs ns)).get? b = some o := hidT_get
  -- what is neither a list nor an empty record is not tracked
  have offB : ∀ {b : Addr} {o : Obj}, s₁.heap.get? b = some o → o.data ≠ .seq vs.toArray → o.data ≠ .fields #[] → scrT2 K P1 P2 a vs ns b = none := by
    intro b o e d1 d2
    rcases cases3 b with h | ⟨hp, _⟩ | ⟨rfl, _, _⟩
    · exact h
    · rw [atP hp] at e
      cases e
      exact absurd rfl d2
    · rw [at_a] at e
      cases e
      exact absurd rfl d1
  have dictB : ∀ {b : Addr} {o : Obj} {es : Array DictEntry} {ep : Nat}, s₁.heap.get? b = some o → o.data = .dict es ep → scrT2 K P1 P2 a vs ns b = none := fun e d => offB e (fun z => by rw [d] at z; cases z) fun z => by rw [d] at z; cases z
  have spaceB : ∀ {b : Addr} {m : Str → Option Value}, s₁.heap.Ns b m → (hidT s₁.heap (scrT2 K P1 P2 a vs ns)).Ns b m := by
    rintro b m ⟨o, es, ep, e, d, r⟩
    exact ⟨o, es, ep, inB e (dictB e d), d, r⟩
  have kinB : K.In (hidT s₁.heap (scrT2 K P1 P2 a vs ns)) := by
    intro b o e
    refine inB (kin b o e) ?_
    rcases cases3 b with h | ⟨hp, _⟩ | ⟨rfl, h, _⟩
    · exact h
    · rcases hp with rfl | rfl
      · rw [outP1] at e
        cases e
      · rw [outP2] at e
        cases e
    · rw [h] at e
      cases e
  have modB : Mod K mg (hidT s₁.heap (scrT2 K P1 P2 a vs ns)) := by
    obtain ⟨mc, n1, n2⟩ := nol
    exact ⟨kinB, spaceB nsm, ⟨mb, spaceB nsb, bb⟩, ⟨mc, spaceB n1, n2⟩⟩
  have okB : HOk P w (scrT2 K P1 P2 a vs ns) s₁.heap := by
    intro b u e
    rcases cases3 b with h | ⟨hp, h⟩ | ⟨rfl, _, h⟩
    · rw [h] at e
      cases e
    · rw [h] at e
      cases e
      exact atP hp
    · rw [h] at e
      cases e
      refine ⟨at_a, ?_, vs, _, rel, at_a⟩
      rw [List.length_map]
      exact few
  have seqB : SqL K (scrT2 K P1 P2 a vs ns) a (ns.map V.int) := by
    cases hk : K.lookup a with
    | none =>
      refine .inl (.inr ⟨{ cls := .type "list", data := .seq vs.toArray }, ?_⟩)
      have e : scrT2 K P1 P2 a vs ns a = scr K a vs ns a := if_neg naP
      rw [e]
      exact if_pos ⟨rfl, hk⟩
    | some o =>
      have e := kin a o hk
      rw [at_a] at e
      cases e
      refine .inr ⟨_, vs.toArray, _, hk, rfl, rfl, rfl, ?_, by simpa using rel⟩
      rw [List.size_toArray, hin.length]
      exact few
  have tabB : ∀ {c Pt : Addr}, (Pt = P1 ∨ Pt = P2) → PySem.W.CodeHd s₁.heap c Pt → LamX.TabB (hidT s₁.heap (scrT2 K P1 P2 a vs ns)) mg c Pt := fun {c Pt} hpt hd => by
    have nG : mainGlobals ≠ Pt := fun z => by
      obtain ⟨o, es, ep, e, dd, _⟩ := nsm
      rw [z, atP hpt] at e
      cases e
      cases dd
    refine ⟨?_, ?_, nG⟩
    · obtain ⟨o, us, file, tf, flags, tg, inF, text, tt, e1, r1, r2, r3, r4, r5, r6, r7, r8, hne⟩ := hd
      refine ⟨o, us, file, tf, flags, tg, inF, text, tt, inB e1 (offB e1 (fun z => ?_) fun z => ?_), r1, r2, r3, r4, r5, r6, r7, r8, hne⟩
      · rw [r2] at z
        cases z
      · rw [r2] at z
        cases z
        simp at r3
    · obtain ⟨bm, ob, b1, b2, b3, b4, b5, b6⟩ := bmain
      have n1 : bm ≠ mainGlobals := fun q => by
        obtain ⟨o, es, ep, e, dd, _⟩ := nsm
        rw [q, e] at b3
        cases b3
        rw [dd] at b6
        cases b6
      have n2 : bm ≠ Pt := fun q => by
        rw [q, atP hpt] at b3
        cases b3
        cases b6
      exact ⟨bm, ob, b1, b2, n1, n2, inB b3 (offB b3 (fun z => by rw [b6] at z; cases z) fun z => by rw [b6] at z; cases z), b4, b5, b6⟩
  have envB : Env0 P w K mg (hidT s₁.heap (scrT2 K P1 P2 a vs ns)) callerA [] s₁ (scrT2 K P1 P2 a vs ns) := ⟨rfl, modB, fun b o e => of_hidT e, Nat.le_of_eq (hidT_size _ _), trivial, fun b hb => (by cases hb), okB, .of_eq gen⟩
  have go := (F _ kinB (spaceB nsm) (tabB (.inl rfl) hd1) (tabB (.inr rfl) hd2)).run callerA [] s₁ (scrT2 K P1 P2 a vs ns) ⟨[.ref a], []⟩ [.ref a] [.ref a] _ _ room rfl envB (bind s₁ (.ref a)) (.cons rfl .nil) (pro _ (if_pos (.inl rfl)) (if_pos (.inr rfl)) seqB)
  refine codeAny_mono go fun r s' done => ?_
  match r, done with
  | .ok (.ret u), ⟨v, H', os, bare, un, hok', rv, q⟩ =>
    have q : v = .bl true := q
    subst q
    obtain rfl : u = Value.bool true := rv
    have kept : ∀ b o, ¬ (b = P1 ∨ b = P2) → s₁.heap.get? b = some o → s'.heap.get? b = some o := fun b o hb e => by
      rcases cases3 b with h | ⟨h, _⟩ | ⟨_, _, h⟩
      · exact un.keep b o e h (fun z => by cases z) (fun z => by cases z)
      · exact absurd h hb
      · have e1 := (okB b _ h).1
        rw [e] at e1
        cases e1
        exact (hok' b _ (un.frzs b _ _ h)).1
    have hmP : ∀ {b : Addr}, (b = P1 ∨ b = P2) → ∃ more, s'.heap.get? b = some { cls := .none, data := .fields (#[] ++ more) } := fun {b} hb => by
      obtain ⟨more, hm⟩ := un.tbls b #[] (if_pos hb)
      exact ⟨more, hok' b _ hm⟩
    have tabs : ∀ {b : Addr}, (b = P1 ∨ b = P2) → ∃ c, PySem.W.CodeHd s₁.heap c b := fun {b} hb => by
      rcases hb with rfl | rfl
      · exact ⟨_, hd1⟩
      · exact ⟨_, hd2⟩
    refine ⟨rfl, ⟨fun b o e => ?_, fun b o e => ?_⟩, os, bare⟩
    · by_cases hb : b = P1 ∨ b = P2
      · rw [atP hb] at e
        cases e
        obtain ⟨more, hm⟩ := hmP hb
        obtain ⟨c, hd⟩ := tabs hb
        exact .inr (.inl ⟨(hd.tab (atP hb)).isCodeTable, rfl, #[], #[] ++ more, rfl, by rw [hm, Array.empty_append, Array.empty_append]⟩)
      · exact .inl (kept b o hb e)
    · by_cases hb : b = P1 ∨ b = P2
      · obtain ⟨more, hm⟩ := hmP hb
        exact ⟨_, hm⟩
      · exact ⟨o, kept b o hb e⟩
end
def tabZ2 (g : Addr → Option Obj) (x y : Str) (K : PySem.W.Frag) : Bool := tabZ g x K && (tabZ g y K && decide (tabA K x ≠ tabA K y))
def lookZ2 (n : Nat) (names : List Str) (fs : List FB) (ds : List DefX) (x y : Str) (g : Addr → Option Obj) : AlZ := (obsX fs ds (He.frT g (asN g names n)), tabZ2 g x y (He.frT g (asN g names n)))
structure SaysZ2 (fs : List FB) (ds : List DefX) (x y : Str) (h : Heap) (K : PySem.W.Frag) : Prop where
  all : SaysX fs ds K
  hd1 : PySem.W.codeHdIn K (codeA K x) (tabA K x) = true
  out1 : K.lookup (tabA K x) = none
  empty1 : h.get? (tabA K x) = some { cls := .none, data := .fields #[] }
  hd2 : PySem.W.codeHdIn K (codeA K y) (tabA K y) = true
  out2 : K.lookup (tabA K y) = none
  empty2 : h.get? (tabA K y) = some { cls := .none, data := .fields #[] }
  ne : tabA K x ≠ tabA K y
theorem tabZ_of {n : Nat} {names : List Str} {x : Str} {h : Heap} (e2 : tabZ h.get? x (He.frT h.get? (asN h.get? names n)) = true) :
    PySem.W.codeHdIn (He.frT h.get? (asN h.get? names n)) (codeA (He.frT h.get? (asN h.get? names n)) x) (tabA (He.frT h.get? (asN h.get? names n)) x) = true ∧ (He.frT h.get? (asN h.get? names n)).lookup (tabA (He.frT h.get? (asN h.get? names n)) x) = none ∧ h.get? (tabA (He.frT h.get? (asN h.get? names n)) x) = some { cls := .none, data := .fields #[] } := by
  obtain ⟨h3, h4⟩ := Bool.and_eq_true_iff.mp e2
  cases q : h.get? (tabA (He.frT h.get? (asN h.get? names n)) x) with
  | none =>
    rw [q] at h4
    cases h4
  | some o =>
    rw [q] at h4
    exact ⟨h3, He.frT_none q h4, by rw [He.emptyTab_eq h4]⟩
theorem saysZ2_of {n : Nat} {names : List Str} {fs : List FB} {ds : List DefX} {x y : Str} {h : Heap} (e : lookZ2 n names fs ds x y h.get? = (dueX ds, true)) : SaysZ2 fs ds x y h (He.frT h.get? (asN h.get? names n)) := by
  have e2 : tabZ2 h.get? x y (He.frT h.get? (asN h.get? names n)) = true := congrArg (fun z : AlZ => z.2) e
  obtain ⟨h1, h2⟩ := Bool.and_eq_true_iff.mp e2
  obtain ⟨h2, h3⟩ := Bool.and_eq_true_iff.mp h2
  obtain ⟨a1, a2, a3⟩ := tabZ_of h1
  obtain ⟨b1, b2, b3⟩ := tabZ_of h2
  exact ⟨congrArg (fun z : AlZ => z.1) e, a1, a2, a3, b1, b2, b3, of_decide_eq_true h3⟩
def hookZ2 (n : Nat) (names : List Str) (fs : List FB) (ds : List DefX) (x y : Str) : PySem.W.Hook where
  α := AlZ
  obs := fun s => lookZ2 n names fs ds x y s.heap.get?
  val := fun _ => (dueX ds, true)
  says := fun _ h => ∃ K : PySem.W.Frag, K.In h ∧ SaysZ2 fs ds x y h K
  of := fun _ _ e => ⟨_, He.frT_in, saysZ2_of e⟩
  keeps := fun _ _ _ ⟨K, hK, c⟩ k => ⟨K, PySem.W.Frag.In.keeps hK k, ⟨c.all, c.hd1, c.out1, k _ _ c.empty1, c.hd2, c.out2, k _ _ c.empty2, c.ne⟩⟩
theorem lookZ2_eq {n : Nat} {names : List Str} {fs : List FB} {ds : List DefX} {x y : Str} {g : Addr → Option Obj} {s : Shared} (h : ∀ a, g a = s.heap.get? a) : lookZ2 n names fs ds x y g = (hookZ2 n names fs ds x y).obs s := by
  obtain rfl : g = s.heap.get? := funext h
  rfl
/-- the law, called with both tables in hand -/
def sLawT2 (P1 : Addr) (q1 : Str) (P2 : Addr) (q2 : Str) : SpD := fun ds c Q _ => c = [(P1, .tbl q1), (P2, .tbl q2)] ∧ (∃ ns : List Int, ds = [.lst (ns.map D.int)] ∧ ns.length ≤ 1000) ∧ ∀ c', Q (.bl true) c'
theorem law_spT2 {K : PySem.W.Frag} {H : Hp} {a P1 P2 : Addr} {q1 q2 : Str} {ns : List Int} (hne : P1 ≠ P2) (hl : ns.length ≤ 63) (hP1 : H P1 = some (.tbl #[])) (hP2 : H P2 = some (.tbl #[])) (hS : SqL K H a (ns.map V.int)) : spD K (sLawT2 P1 q1 P2 q2) [.ref a] H (fun v _ => v = .bl true) fun _ _ _ => False := by
  have e : ∀ b o, H b = some o → b ≠ P1 → b ≠ P2 → hid (tot (fun _ => false) [(P1, Cell.tbl q1), (P2, Cell.tbl q2)]) H b = some o := fun b o ho h1 h2 => hid_some.mpr ⟨by simp [tot, inC]; exact ⟨fun z => h1 z.symm, fun z => h2 z.symm⟩, ho⟩
  refine ⟨fun _ => false, [.lst (ns.map D.int)], [(P1, .tbl q1), (P2, .tbl q2)], ⟨fun a h => (by cases h), by simpa using hne, fun p hp => rfl, fun p hp => ?_⟩, ?_, rfl, ⟨ns, rfl, by omega⟩, fun c' v H' _ _ rv => ?_⟩
  · have hp : p = (P1, Cell.tbl q1) ∨ p = (P2, Cell.tbl q2) := by simpa using hp
    rcases hp with rfl | rfl
    · exact ⟨#[], hP1, True.intro, fun pos cv z => by simp [codeAmong] at z⟩
    · exact ⟨#[], hP2, True.intro, fun pos cv z => by simp [codeAmong] at z⟩
  · refine .cons (.lst ?_ (RpA.ints ns)) .nil
    rcases hS with (h | ⟨o, h⟩) | h
    · exact .inl (.inl (e _ _ h (fun z => by rw [z, hP1] at h; cases h) fun z => by rw [z, hP2] at h; cases h))
    · exact .inl (.inr ⟨o, e _ _ h (fun z => by rw [z, hP1] at h; cases h) fun z => by rw [z, hP2] at h; cases h⟩)
    · exact .inr h
  · cases rv
    rfl
section
variable {l : PySem.W.OpenLaw} {q : Program} {loose : List Str} {XP : (Str → Option Value) → Heap → Prop} {fs : List FB} {ds : List DefX} {names : List Str} {n k : Nat} {d : DefRec} {y1 y2 qn1 qn2 : Str}
theorem walk_endGT2 {x : Str} (most : l.most = some 63) (nodef : d.params.defaults = []) (room : Room k callerA) (hname : d.name = ("law" : Str))
    (F : ∀ (w : World) (mg : Str → Option Value) (fa : Addr) (h : Heap) {K : PySem.W.Frag}, K.In h → h.Ns mainGlobals mg → mg "law" = some (.ref fa) → SaysX fs ds K → ∃ fd : FuncData, (∀ (s : Shared) (v : Value), BindsTo s fd ⟨[v], []⟩ [(x, v)]) ∧ ∀ base : Heap, K.In base → base.Ns mainGlobals mg → LamX.TabB base mg (codeA K y1) (tabA K y1) → LamX.TabB base mg (codeA K y2) (tabA K y2) →
      FnG l.prog w K mg base k fa fd [x] (spD K (sLawT2 (tabA K y1) qn1 (tabA K y2) qn2))) :
    PySem.W.WalkO q loose XP (hookZ2 n names fs ds y1 y2).says l.row.toRowW d [] (fun f vs => PySem.call f vs) := by
  refine Att.attach_call most nodef fun w s₀ s₁ mg mb fa o pm cd doc a vs ns G Y ho hd hcd hmg hobj hints hlen hg => ?_
  obtain ⟨K, KX, c⟩ := Y
  rw [hname] at hmg
  obtain ⟨fd, bind, hF⟩ := F w mg fa _ KX G.T.g hmg c.all
  exact law_callGT2 KX G.T.g G.T.b G.T.builtins G.T.nolimit hg c.empty1 c.out1 (PySem.W.codeHd_of_K KX c.hd1) c.empty2 c.out2 (PySem.W.codeHd_of_K KX c.hd2) G.T.bmain hobj hints (Nat.le_trans hlen (by decide)) room hF bind fun H hP1 hP2 hS => law_spT2 c.ne hlen hP1 hP2 hS
end
end Pdl
namespace Pdl
open PySem L2 PyProof.Rows
theorem ca_ofT {T : Wd} {x : Str} {st : Stmt} {N ps : List Str} {k : Nat} {S : SpD} {c0 : Addr} (df : DeT T x ps st c0) (sc : FnScope N ps (defScope st)) (len : ∀ ds c Q E, S ds c Q E → ds.length = ps.length)
    (hbody : N.Nodup → ∀ (f : Addr) (A : Around) (outer : List Env) (s : Shared) (H : Hp) (E0 : XK), Room k (cX T N x st f (.ref c0) A outer s H E0).A → (cX T N x st f (.ref c0) A outer s H E0).A.guards = some [] →
      ∀ m ds c (Q : D → Cs → Prop) E, S ds c Q E → XB (cX T N x st f (.ref c0) A outer s H E0) (mdOf m c H E) (defBody st) ⟨startD N ds, c⟩ (poOf Q)) : CaG T x (k + 1) S := by
  obtain ⟨f, fd, h1, h2, F, b, hcd⟩ := df
  refine ⟨ps, f, fd, h1, h2, ?_, b⟩
  obtain ⟨oc, od, kV, doc, pm, an, cdv, ct, osl, rfl, lk, hci⟩ := F.ex
  cases (show cdv = .ref c0 from hcd)
  refine ⟨fun vs H Q E h => ?_, fun A outer s₀ H₀ args us vs Q E room gd en bnd rel hsp => ?_⟩
  · obtain ⟨m, ds, c, _, r, hs⟩ := h
    rw [r.length]
    exact len _ _ _ _ hs
  have kin : T.K.In s₀.heap := en.mod.kin.keeps fun b o z => (en.bs b o z).1
  have nol : s₀.heap.NoLimit := en.mod.nolimit.keeps fun b o z => (en.bs b o z).1
  have kinds : ∀ z ∈ ps.zip us, (defScope st).names.lookup z.1 = some .local ∨ ((defScope st).names.lookup z.1 = some .cell ∧ ((cellsFrom (s₀.heap.objs.size + 1) (defScope st).names []).lookup z.1).isSome = true) := fun ⟨nm, vl⟩ hz => by
    rcases sc.par nm (List.of_mem_zip hz).1 with g | g
    · exact .inl g
    · exact .inr ⟨g, PySem.W.cellsFrom_some _ _ _ (.inl g)⟩
  refine codeAny_call_function room.depth (kin _ _ lk) rfl sc.co sc.gen rfl (PySem.W.codeRec_of kin hci) (bnd _ _ _ _ ?_)
  refine wpAny_newFunctionEnv_cells sc.kind kinds fun env he s₁ icl => ?_
  subst he
  refine ⟨nol.keeps icl.toInCall.keep, codeAny_func ?_⟩
  have hlen : vs.length = ps.length := by
    obtain ⟨m, ds, c, _, r, hs⟩ := id hsp
    rw [r.length]
    exact len _ _ _ _ hs
  obtain ⟨t, pt, ht⟩ := body_D (S := S) (N := N) (vs := vs) (H := H₀) (Q := Q) (E := E) (X := cX T N x st f (.ref c0) A outer s₀ H₀ E) rfl (fun m ds c Q' E' _ hs => hbody sc.nd f A outer s₀ H₀ E (room.deeper _) gd m ds c Q' E' hs) hsp
  have inv : Inv (cxOf CX0 T.P T.w T.K T.mg T.base N x (defScope st) f (.ref c0) A outer s₀ H₀ E) [] (L2.start N vs) H₀ s₁ := inv_start sc room.hd en hlen rel icl
  refine wpAny_mono (pt.nox.run [] s₁ (L2.start N vs) H₀ _ inv ht) (fun fl s₂ done => ?_) fun e s₂ z => z
  have close : ∀ {σ' : L2.St} {H' : Hp} {v : V} {u : Value}, Inv (cxOf CX0 T.P T.w T.K T.mg T.base N x (defScope st) f (.ref c0) A outer s₀ H₀ E) [] σ' H' s₂ → RelV v u → Q v H' → CE outer T.P T.w H₀ s₀ Q u s₂ :=
    fun {σ' H' v u} J rv q => ⟨v, H', J.os, J.bare, J.base, J.hok, rv, q⟩
  cases fl with
  | next =>
    obtain ⟨_, _, J, q⟩ := done
    exact close (v := V.non) (u := Value.none) J rfl q
  | ret u =>
    obtain ⟨_, _, _, J, rv, q⟩ := done
    exact close J rv q
  | brk => exact done.elim fun _ ⟨_, _, q⟩ => q.elim
  | cont => exact done.elim fun _ ⟨_, _, q⟩ => q.elim
/-- the cells of a law with two tables -/
abbrev cel2 (J P1 : Addr) (q1 : Str) (P2 : Addr) (q2 : Str) : Cs := [(J, .jar), (P1, .tbl q1), (P2, .tbl q2)]
/-- with a jar and two tables -/
def jtS2 (P1 : Addr) (q1 : Str) (P2 : Addr) (q2 : Str) (S : PSp) : SpD := fun ds c Q _ => ∃ J ds', ds = .ref J :: ds' ∧ c = cel2 J P1 q1 P2 q2 ∧ S ds' fun d => Q d (cel2 J P1 q1 P2 q2)
/-- the same cells, the jar not handed on -/
def ctS2 (P1 : Addr) (q1 : Str) (P2 : Addr) (q2 : Str) (S : PSp) : SpD := fun ds c Q _ => ∃ J, c = cel2 J P1 q1 P2 q2 ∧ S ds fun d => Q d (cel2 J P1 q1 P2 q2)
section
variable {X : Cx} {μ : Md} {Γ : En} {Q : QE} {k n : Nat} {x : Str} {p pos : Pos} {e : Expr} {es : List Expr} {P1 P2 : Addr} {q1 q2 : Str}
theorem xe_cjt2 {S : PSp} (C : CaG (wdX X) x k (jtS2 P1 q1 P2 q2 S)) (hr : Room n X.A) (gd : X.A.guards = some []) (hkn : k ≤ n) (hg : Gl X x) (h : XA X μ (e :: es) Γ fun ds Γ1 => ∃ J cs ds', ds = .ref J :: ds' ∧ Γ1.c = cel2 J P1 q1 P2 q2 ++ cs ∧ ∀ Qc : D → Prop, (∀ d, Q d Γ1 → Qc d) → S ds' Qc) (hdb : (x == ("__debug__" : Str)) = false := by decide)
    (he : starEach (e :: es) X.env = (false, eval e X.env) :: starEach es X.env := by rfl) (hpl : (backTo pos (starEach es X.env)).any (·.1) = false := by rfl) : XE X μ (.Call (.Name x p) (e :: es) [] pos) Γ Q := by
  obtain ⟨ps, C⟩ := C
  refine xe_callG C (hr.mono hkn) gd hg (PA.imp h fun σ H qq ⟨R, k⟩ => ⟨R, fun vs H' ds Γ' s' f' R' r' hq => k vs H' ds Γ' s' f' R' r' ?_⟩) hdb he hpl
  obtain ⟨J, cs, ds', rfl, hc, hq⟩ := hq
  refine ⟨cel2 J P1 q1 P2 q2, cs, hc, fun Qc Ec kq _ => ⟨J, ds', rfl, rfl, hq _ fun d hd => kq d _ ?_⟩⟩
  obtain ⟨sl, c⟩ := Γ'
  have hc : c = _ := hc
  subst hc
  exact hd
theorem xe_ct2 {S : PSp} (C : CaG (wdX X) x k (ctS2 P1 q1 P2 q2 S)) (hr : Room n X.A) (gd : X.A.guards = some []) (hkn : k ≤ n) (hg : Gl X x) (h : XA X μ (e :: es) Γ fun ds Γ1 => ∃ J cs, Γ1.c = cel2 J P1 q1 P2 q2 ++ cs ∧ ∀ Qc : D → Prop, (∀ d, Q d Γ1 → Qc d) → S ds Qc) (hdb : (x == ("__debug__" : Str)) = false := by decide)
    (he : starEach (e :: es) X.env = (false, eval e X.env) :: starEach es X.env := by rfl) (hpl : (backTo pos (starEach es X.env)).any (·.1) = false := by rfl) : XE X μ (.Call (.Name x p) (e :: es) [] pos) Γ Q := by
  obtain ⟨ps, C⟩ := C
  refine xe_callG C (hr.mono hkn) gd hg (PA.imp h fun σ H qq ⟨R, k⟩ => ⟨R, fun vs H' ds Γ' s' f' R' r' hq => k vs H' ds Γ' s' f' R' r' ?_⟩) hdb he hpl
  obtain ⟨J, cs, hc, hq⟩ := hq
  refine ⟨cel2 J P1 q1 P2 q2, cs, hc, fun Qc Ec kq _ => ⟨J, rfl, hq _ fun d hd => kq d _ ?_⟩⟩
  obtain ⟨sl, c⟩ := Γ'
  have hc : c = _ := hc
  subst hc
  exact hd
end
section
variable {X : Cx} {μ : Md} {Γ : En} {Q : QE} {c : Expr} {es1 es2 : List Expr} {pos ipos p1 p2 p3 : Pos}
theorem xe_repIf {k : Nat} {j} (hk : k ≤ 1000) (h : XT X μ c Γ fun x Γ1 => if x = true then XA X μ es1 Γ1 (fun xs Γ2 => xs.length ≤ 1000 ∧ Q (.lst (List.replicate k xs).flatten) Γ2) else XA X μ es2 Γ1 fun xs Γ2 => xs.length ≤ 1000 ∧ Q (.lst (List.replicate k xs).flatten) Γ2) :
    XE X μ (.BinOp (.IfExp c (.List es1 p1) (.List es2 p2) ipos) .Mult (.Constant (.int (k : Int)) j p3) pos) Γ Q :=
  PE.imp (pe_op op_rep (pe_ifExp h (pe_lst pa_u) (pe_lst pa_u)) pe_int) fun σ H q ⟨R, kk⟩ => ⟨R, fun H0 x Γ0 s0 f0 R0 hq0 => by
    have fin : ∀ (vs : List V) (H1 : Hp) (xs : List D) (Γ1 : En), Γ1.s = Γ0.s → Fw Γ0.c Γ1.c H0 H1 → Rel X.K μ H1 σ Γ1 → RpA X.K (Vw μ Γ1 H1) vs xs → (xs.length ≤ 1000 ∧ Q (.lst (List.replicate k xs).flatten) Γ1) → vs.length ≤ sizeLine ∧ ∀ p : Addr, H1 p = none → tC (.int (k : Int)) σ (upd H1 p (.lst vs)) fun y H2 => rRep (.ref p) y H2 q := fun vs H1 xs Γ1 s1 f1 R1 r1 ⟨hl, hq⟩ => by
      have hl' : vs.length ≤ 1000 := by rw [r1.length]; exact hl
      refine ⟨Nat.le_trans hl' (by decide), fun p hp => ⟨p, k, vs, rfl, rfl, upd_same, by omega, by omega, ?_, fun p2 hp2 => ?_⟩⟩
      · have : vs.length * k ≤ 1000 * 1000 := Nat.mul_le_mul hl' hk
        exact Nat.le_trans this (by decide)
      · have e1 := sub_upd (o := .lst vs) hp
        have e2 := sub_upd (o := .lst (List.replicate k vs).flatten) hp2
        have R2 := (R1.more e1).more e2
        have r2 : RpA X.K (Vw μ Γ1 (upd (upd H1 p (.lst vs)) p2 (.lst (List.replicate k vs).flatten))) vs xs := (r1.mono (sub_hid e1)).mono (sub_hid e2)
        have r3 : ∀ n : Nat, RpA X.K (Vw μ Γ1 (upd (upd H1 p (.lst vs)) p2 (.lst (List.replicate k vs).flatten))) (List.replicate n vs).flatten (List.replicate n xs).flatten := fun n => by
          induction n with
          | zero => exact .nil
          | succ n ih =>
            rw [List.replicate_succ, List.replicate_succ, List.flatten_cons, List.flatten_cons]
            exact r2.app ih
        exact kk _ _ _ Γ1 (s1.trans s0) (f0.trans (f1.trans (Fw.of_sub (e1.trans e2)))) R2 (.lst (.of (hid_upd ((R1.more e1).fresh hp2))) (r3 k)) hq
    cases x with
    | true =>
      rw [if_pos rfl] at hq0
      exact ⟨_, hq0, R0, fun vs H1 xs Γ1 s1 f1 R1 r1 z => fin vs H1 xs Γ1 s1 f1 R1 r1 z⟩
    | false =>
      rw [if_neg Bool.false_ne_true] at hq0
      exact ⟨_, hq0, R0, fun vs H1 xs Γ1 s1 f1 R1 r1 z => fin vs H1 xs Γ1 s1 f1 R1 r1 z⟩⟩
end
theorem takes_turned {as : List (List Nat)} {p : Nat} (h2 : Two as) (hn : NoLoop as) (hg : Gives as p) : Takes (exch as p) p := fun a h => by
  rcases (mem_exch h2).mp h with ⟨_, h3⟩ | ⟨h1, _⟩
  · exact hg a h3
  · exact h1 (.inl rfl)
theorem behind_arrs {pl : List Nat} : ∀ {row : List Nat} {as : List (List Nat)} {i : Nat}, Arrs as → slipR pl as row i = -1 → Arrs (behindR as row)
  | [], _, _, h, _ => h
  | p :: r, as, i, h, e => by
    have e : (if p ∈ pl ∧ givesB as p = true then slipR pl (exch as p) r (i + 1) else (i : Int)) = -1 := e
    split at e
    · next hc =>
      show Arrs (behindR (exch as p) r)
      exact behind_arrs (as := exch as p) (i := i + 1) (turn_arrs h ((givesB_iff h.two).mp hc.2)) e
    · omega
theorem slip_range {pl : List Nat} : ∀ {row : List Nat} {as : List (List Nat)} {i : Nat}, slipR pl as row i = -1 ∨ ∃ k : Nat, slipR pl as row i = (k : Int) ∧ k < i + row.length
  | [], _, _ => .inl rfl
  | p :: r, as, i => by
    show (if p ∈ pl ∧ givesB as p = true then slipR pl (exch as p) r (i + 1) else (i : Int)) = -1 ∨ ∃ k : Nat, (if p ∈ pl ∧ givesB as p = true then slipR pl (exch as p) r (i + 1) else (i : Int)) = (k : Int) ∧ _
    split
    · rcases slip_range (pl := pl) (row := r) (as := exch as p) (i := i + 1) with h | ⟨k, h1, h2⟩
      · exact .inl h
      · exact .inr ⟨k, h1, by simp; omega⟩
    · exact .inr ⟨i, rfl, by simp⟩
def sTurnW (Cy CG : Addr) : PSx := fun ds Q E => ∃ as p, ds = [wayD Cy as, .str (S [p])] ∧ Arrs as ∧ p ∈ (as.map pr2).flatten ∧ (givesB as p = true → Q (wayD Cy (exch as p))) ∧ (givesB as p = false → E (givX CG (.str (S [p]))))
def sBackW (Cy CT : Addr) : PSx := fun ds Q E => ∃ as p, ds = [wayD Cy as, .str (S [p])] ∧ Arrs as ∧ p ∈ (as.map pr2).flatten ∧ (takesB as p = true → Q (wayD Cy (exch as p))) ∧ (takesB as p = false → E (givX CT (.str (S [p]))))
def sBackN (Cy : Addr) : PSp := fun ds Q => ∃ as p, ds = [wayD Cy as, .str (S [p])] ∧ Arrs as ∧ p ∈ as.flatten ∧ Takes as p ∧ Q (wayD Cy (exch as p))
def idxX (C : Addr) (k : Nat) : Xn := ⟨.ref C, some [("index", .int (k : Int))]⟩
def sChkRowW (Cy CR : Addr) : PSx := fun ds Q E => ∃ as row, ds = [wayD Cy as, .str (S row)] ∧ Arrs as ∧ row.length ≤ 1000 ∧ (slipR (us as.flatten) as row 0 = -1 → Q .non) ∧ ∀ k : Nat, slipR (us as.flatten) as row 0 = (k : Int) → E (idxX CR k)
def sByW (Cy CR : Addr) : PSx := fun ds Q E => ∃ as row, ds = [wayD Cy as, .str (S row)] ∧ Arrs as ∧ row.length ≤ 1000 ∧ (slipR (us as.flatten) as row 0 = -1 → Q (wayD Cy (behindR as row))) ∧ ∀ k : Nat, slipR (us as.flatten) as row 0 = (k : Int) → E (idxX CR k)
def sRowDue : PSp := fun ds Q => ∃ as row, ds = [.tup (SL as), .str (S row)] ∧ Arrs as ∧ row.length ≤ 100 ∧ (slipR (us as.flatten) as row 0 = -1 → Q (.lst [.str "told", .tup (SL (behindR as row))])) ∧ ∀ k : Nat, slipR (us as.flatten) as row 0 = (k : Int) → Q (.lst [.str "row", .str (shownA (.int k))])
def sPlacesR (Cy : Addr) : PSp := fun ds Q => ∃ as p, ds = [wayD Cy as, .tup (SL as), .str (S [p])] ∧ Arrs as ∧ p ∈ (as.map pr2).flatten ∧ Q (.bl true)
theorem nat_small : ∀ k < 120, ((shownA (.int ((k : Nat) : Int))).cps.toList.all fun c => decide (c < 1000)) = true := by decide +kernel
theorem val_nat {k : Nat} (h : k < 120) : ValOk (.int (k : Int)) := val_int (by have := int_log (i := (k : Int)) (by omega); omega) (nat_small k h)
end Pdl
namespace Pdl
open PySem L2 PyProof.Rows
def top (i : Nat) : Stmt := PySem.Challenge.pw_pushdowns_k11_whole_ways_turned.main.body.getD i (.Pass ⟨0, 0, 0, 0⟩)
abbrev s_InvalidRow___init__ : Stmt := inClass (top 7) 0
theorem sc_InvalidRow___init__ : FnScope ["self", "index"] ["self", "index"] (defScope s_InvalidRow___init__) := ⟨rfl, rfl, rfl, by decide +kernel, rfl, by decide +kernel, by decide +kernel⟩
abbrev s_UnknownPlace___init__ : Stmt := inClass (top 9) 0
theorem sc_UnknownPlace___init__ : FnScope ["self", "given"] ["self", "given"] (defScope s_UnknownPlace___init__) := ⟨rfl, rfl, rfl, by decide +kernel, rfl, by decide +kernel, by decide +kernel⟩
abbrev s_NotGiving___init__ : Stmt := inClass (top 13) 0
theorem sc_NotGiving___init__ : FnScope ["self", "given"] ["self", "given"] (defScope s_NotGiving___init__) := ⟨rfl, rfl, rfl, by decide +kernel, rfl, by decide +kernel, by decide +kernel⟩
abbrev s_NotTaking___init__ : Stmt := inClass (top 14) 0
theorem sc_NotTaking___init__ : FnScope ["self", "given"] ["self", "given"] (defScope s_NotTaking___init__) := ⟨rfl, rfl, rfl, by decide +kernel, rfl, by decide +kernel, by decide +kernel⟩
abbrev s_is_place : Stmt := top 19
theorem sc_is_place : FnScope ["value"] ["value"] (defScope s_is_place) := ⟨rfl, rfl, rfl, by decide +kernel, rfl, by decide +kernel, by decide +kernel⟩
abbrev s_is_two : Stmt := top 20
theorem sc_is_two : FnScope ["value"] ["value"] (defScope s_is_two) := ⟨rfl, rfl, rfl, by decide +kernel, rfl, by decide +kernel, by decide +kernel⟩
abbrev s_is_pair : Stmt := top 21
theorem sc_is_pair : FnScope ["value"] ["value"] (defScope s_is_pair) := ⟨rfl, rfl, rfl, by decide +kernel, rfl, by decide +kernel, by decide +kernel⟩
abbrev s_pair_of : Stmt := top 22
theorem sc_pair_of : FnScope ["one", "other"] ["one", "other"] (defScope s_pair_of) := ⟨rfl, rfl, rfl, by decide +kernel, rfl, by decide +kernel, by decide +kernel⟩
abbrev s_places_in : Stmt := top 23
theorem sc_places_in : FnScope ["ties"] ["ties"] (defScope s_places_in) := ⟨rfl, rfl, rfl, by decide +kernel, rfl, by decide +kernel, by decide +kernel⟩
abbrev s_met_from : Stmt := top 24
abbrev n_met_from : List Str := ["ties", "places", "met", "later", "tie"]
theorem sc_met_from : FnScope ["ties", "places", "met", "later", "tie"] ["ties", "places"] (defScope s_met_from) := ⟨rfl, rfl, rfl, by decide +kernel, rfl, by decide +kernel, by decide +kernel⟩
abbrev s_do_hang : Stmt := top 25
theorem sc_do_hang : FnScope ["ties"] ["ties"] (defScope s_do_hang) := ⟨rfl, rfl, rfl, by decide +kernel, rfl, by decide +kernel, by decide +kernel⟩
abbrev s_check_ties : Stmt := top 26
theorem sc_check_ties : FnScope ["ties", "index"] ["ties"] (defScope s_check_ties) := ⟨rfl, rfl, rfl, by decide +kernel, rfl, by decide +kernel, by decide +kernel⟩
abbrev s_Web___init__ : Stmt := inClass (top 28) 0
theorem sc_Web___init__ : FnScope ["self", "ties"] ["self", "ties"] (defScope s_Web___init__) := ⟨rfl, rfl, rfl, by decide +kernel, rfl, by decide +kernel, by decide +kernel⟩
abbrev s_Web_places : Stmt := inClass (top 28) 3
theorem sc_Web_places : FnScope ["self"] ["self"] (defScope s_Web_places) := ⟨rfl, rfl, rfl, by decide +kernel, rfl, by decide +kernel, by decide +kernel⟩
abbrev s_check_place : Stmt := top 29
theorem sc_check_place : FnScope ["web", "value"] ["web", "value"] (defScope s_check_place) := ⟨rfl, rfl, rfl, by decide +kernel, rfl, by decide +kernel, by decide +kernel⟩
abbrev s_check_arrows : Stmt := top 32
theorem sc_check_arrows : FnScope ["arrows", "ties", "index"] ["arrows"] (defScope s_check_arrows) := ⟨rfl, rfl, rfl, by decide +kernel, rfl, by decide +kernel, by decide +kernel⟩
abbrev s_is_ringed : Stmt := top 33
abbrev n_is_ringed : List Str := ["arrows", "left", "later", "arrow", "other"]
theorem sc_is_ringed : FnScope ["arrows", "left", "later", "arrow", "other"] ["arrows"] (defScope s_is_ringed) := ⟨rfl, rfl, rfl, by decide +kernel, rfl, by decide +kernel, by decide +kernel⟩
abbrev s_Way___init__ : Stmt := inClass (top 35) 0
theorem sc_Way___init__ : FnScope ["self", "arrows"] ["self", "arrows"] (defScope s_Way___init__) := ⟨rfl, rfl, rfl, by decide +kernel, rfl, by decide +kernel, by decide +kernel⟩
abbrev s_Way_arrows : Stmt := inClass (top 35) 2
theorem sc_Way_arrows : FnScope ["self"] ["self"] (defScope s_Way_arrows) := ⟨rfl, rfl, rfl, by decide +kernel, rfl, by decide +kernel, by decide +kernel⟩
abbrev s_Way_web : Stmt := inClass (top 35) 3
theorem sc_Way_web : FnScope ["self"] ["self"] (defScope s_Way_web) := ⟨rfl, rfl, rfl, by decide +kernel, rfl, by decide +kernel, by decide +kernel⟩
abbrev s_Way___eq__ : Stmt := inClass (top 35) 5
theorem sc_Way___eq__ : FnScope ["self", "other"] ["self", "other"] (defScope s_Way___eq__) := ⟨rfl, rfl, rfl, by decide +kernel, rfl, by decide +kernel, by decide +kernel⟩
abbrev s_Way_turned : Stmt := inClass (top 35) 10
theorem sc_Way_turned : FnScope ["self", "place"] ["self", "place"] (defScope s_Way_turned) := ⟨rfl, rfl, rfl, by decide +kernel, rfl, by decide +kernel, by decide +kernel⟩
abbrev s_Way_back : Stmt := inClass (top 35) 11
theorem sc_Way_back : FnScope ["self", "place"] ["self", "place"] (defScope s_Way_back) := ⟨rfl, rfl, rfl, by decide +kernel, rfl, by decide +kernel, by decide +kernel⟩
abbrev s_Way_by : Stmt := inClass (top 35) 12
theorem sc_Way_by : FnScope ["self", "row"] ["self", "row"] (defScope s_Way_by) := ⟨rfl, rfl, rfl, by decide +kernel, rfl, by decide +kernel, by decide +kernel⟩
abbrev s_web_of : Stmt := top 36
abbrev n_web_of : List Str := ["arrows", "arrow"]
theorem sc_web_of : FnScope ["arrows", "arrow"] ["arrows"] (defScope s_web_of) := ⟨rfl, rfl, rfl, by decide +kernel, rfl, by decide +kernel, by decide +kernel⟩
abbrev s_does_give : Stmt := top 37
abbrev n_does_give : List Str := ["arrows", "place", "arrow"]
theorem sc_does_give : FnScope ["arrows", "place", "arrow"] ["arrows", "place"] (defScope s_does_give) := ⟨rfl, rfl, rfl, by decide +kernel, rfl, by decide +kernel, by decide +kernel⟩
abbrev s_does_take : Stmt := top 38
abbrev n_does_take : List Str := ["arrows", "place", "arrow"]
theorem sc_does_take : FnScope ["arrows", "place", "arrow"] ["arrows", "place"] (defScope s_does_take) := ⟨rfl, rfl, rfl, by decide +kernel, rfl, by decide +kernel, by decide +kernel⟩
abbrev s_exchanged : Stmt := top 39
abbrev n_exchanged : List Str := ["arrows", "place", "arrow"]
theorem sc_exchanged : FnScope ["arrows", "place", "arrow"] ["arrows", "place"] (defScope s_exchanged) := ⟨rfl, rfl, rfl, by decide +kernel, rfl, by decide +kernel, by decide +kernel⟩
abbrev s_row_slip : Stmt := top 40
theorem sc_row_slip : FnScope ["arrows", "row", "places", "here", "index"] ["arrows", "row"] (defScope s_row_slip) := ⟨rfl, rfl, rfl, by decide +kernel, rfl, by decide +kernel, by decide +kernel⟩
abbrev s_check_row : Stmt := top 41
theorem sc_check_row : FnScope ["way", "row", "slip"] ["way", "row"] (defScope s_check_row) := ⟨rfl, rfl, rfl, by decide +kernel, rfl, by decide +kernel, by decide +kernel⟩
abbrev s_arrows_behind : Stmt := top 42
theorem sc_arrows_behind : FnScope ["arrows", "row", "place"] ["arrows", "row"] (defScope s_arrows_behind) := ⟨rfl, rfl, rfl, by decide +kernel, rfl, by decide +kernel, by decide +kernel⟩
abbrev s_Ljar : Stmt := top 44
theorem sc_Ljar : FnScope ["_law_script", "_law_k", "_law_churned", "_law_cell", "_law_base", "_law_digits"] ["_law_script", "_law_k"] (defScope s_Ljar) := ⟨rfl, rfl, rfl, by decide +kernel, rfl, by decide +kernel, by decide +kernel⟩
abbrev s_Ldip : Stmt := top 45
theorem sc_Ldip : FnScope ["_law_jar_here", "_law_wide", "_law_digit", "_law_seed"] ["_law_jar_here", "_law_wide"] (defScope s_Ldip) := ⟨rfl, rfl, rfl, by decide +kernel, rfl, by decide +kernel, by decide +kernel⟩
abbrev s_Lpick : Stmt := top 46
theorem sc_Lpick : FnScope ["_law_jar_here", "_law_menu", "_law_at"] ["_law_jar_here", "_law_menu"] (defScope s_Lpick) := ⟨rfl, rfl, rfl, by decide +kernel, rfl, by decide +kernel, by decide +kernel⟩
abbrev s_Lpool : Stmt := top 47
theorem sc_Lpool : FnScope ["_law_jar_here", "_law_many", "_law_rest", "_law_found", "_law_k"] ["_law_jar_here", "_law_many"] (defScope s_Lpool) := ⟨rfl, rfl, rfl, by decide +kernel, rfl, by decide +kernel, by decide +kernel⟩
abbrev s_Ltwo : Stmt := top 48
theorem sc_Ltwo : FnScope ["_law_one", "_law_other"] ["_law_one", "_law_other"] (defScope s_Ltwo) := ⟨rfl, rfl, rfl, by decide +kernel, rfl, by decide +kernel, by decide +kernel⟩
abbrev s_Lties : Stmt := top 49
abbrev n_Lties : List Str := ["_law_jar_here", "_law_most", "_law_many", "_law_glyphs", "_law_found", "_law_k", "_law_every", "_law_one", "_law_turn", "_law_tie", "_law_other"]
theorem sc_Lties : FnScope ["_law_jar_here", "_law_most", "_law_many", "_law_glyphs", "_law_found", "_law_k", "_law_every", "_law_one", "_law_turn", "_law_tie", "_law_other"] ["_law_jar_here", "_law_most"] (defScope s_Lties) := ⟨rfl, rfl, rfl, by decide +kernel, rfl, by decide +kernel, by decide +kernel⟩
abbrev s_Llaid : Stmt := top 50
abbrev n_Llaid : List Str := ["_law_jar_here", "_law_ties_here", "_law_glyphs", "_law_rest", "_law_order", "_law_tie"]
theorem sc_Llaid : FnScope ["_law_jar_here", "_law_ties_here", "_law_glyphs", "_law_rest", "_law_order", "_law_tie"] ["_law_jar_here", "_law_ties_here", "_law_glyphs"] (defScope s_Llaid) := ⟨rfl, rfl, rfl, by decide +kernel, rfl, by decide +kernel, by decide +kernel⟩
abbrev s_Lglyphs_of : Stmt := top 51
theorem sc_Lglyphs_of : FnScope ["_law_ties_here"] ["_law_ties_here"] (defScope s_Lglyphs_of) := ⟨rfl, rfl, rfl, by decide +kernel, rfl, by decide +kernel, by decide +kernel⟩
abbrev s_Lbases : Stmt := top 52
abbrev n_Lbases : List Str := ["_law_e", "_law_found"]
theorem sc_Lbases : FnScope ["_law_e", "_law_found"] ["_law_e"] (defScope s_Lbases) := ⟨rfl, rfl, rfl, by decide +kernel, rfl, by decide +kernel, by decide +kernel⟩
abbrev s_Lcaught : Stmt := top 53
theorem sc_Lcaught : FnScope ["_law_act", "_law_told", "_law_e"] ["_law_act"] (defScope s_Lcaught) := ⟨rfl, rfl, rfl, by decide +kernel, rfl, by decide +kernel, by decide +kernel⟩
abbrev s_Lgives : Stmt := top 54
abbrev n_Lgives : List Str := ["_law_arrows_here", "_law_glyph", "_law_arrow"]
theorem sc_Lgives : FnScope ["_law_arrows_here", "_law_glyph", "_law_arrow"] ["_law_arrows_here", "_law_glyph"] (defScope s_Lgives) := ⟨rfl, rfl, rfl, by decide +kernel, rfl, by decide +kernel, by decide +kernel⟩
abbrev s_Lflip : Stmt := top 55
abbrev n_Lflip : List Str := ["_law_arrows_here", "_law_glyph", "_law_arrow"]
theorem sc_Lflip : FnScope ["_law_arrows_here", "_law_glyph", "_law_arrow"] ["_law_arrows_here", "_law_glyph"] (defScope s_Lflip) := ⟨rfl, rfl, rfl, by decide +kernel, rfl, by decide +kernel, by decide +kernel⟩
abbrev s_Lwalk : Stmt := top 56
abbrev n_Lwalk : List Str := ["_law_jar_here", "_law_arrows_here", "_law_most", "_law_row", "_law_glyphs", "_law_turn", "_law_glyph", "_law_each"]
theorem sc_Lwalk : FnScope ["_law_jar_here", "_law_arrows_here", "_law_most", "_law_row", "_law_glyphs", "_law_turn", "_law_glyph", "_law_each"] ["_law_jar_here", "_law_arrows_here", "_law_most"] (defScope s_Lwalk) := ⟨rfl, rfl, rfl, by decide +kernel, rfl, by decide +kernel, by decide +kernel⟩
abbrev s_Lshown : Stmt := top 57
abbrev n_Lshown : List Str := ["_law_e", "_law_sorts"]
theorem sc_Lshown : FnScope ["_law_e", "_law_sorts"] ["_law_e"] (defScope s_Lshown) := ⟨rfl, rfl, rfl, by decide +kernel, rfl, by decide +kernel, by decide +kernel⟩
abbrev s_Lrow_due : Stmt := top 58
theorem sc_Lrow_due : FnScope ["_law_arrows_here", "_law_row", "_law_k"] ["_law_arrows_here", "_law_row"] (defScope s_Lrow_due) := ⟨rfl, rfl, rfl, by decide +kernel, rfl, by decide +kernel, by decide +kernel⟩
abbrev s_Lplaces_right : Stmt := top 59
abbrev n_Lplaces_right : List Str := ["_law_mine", "_law_arrows_here", "_law_glyph", "_law_fresh", "_law_told", "_law_takes_here", "_law_due", "_law_arrow"]
theorem sc_Lplaces_right : FnScope ["_law_mine", "_law_arrows_here", "_law_glyph", "_law_fresh", "_law_told", "_law_takes_here", "_law_due", "_law_arrow"] ["_law_mine", "_law_arrows_here", "_law_glyph"] (defScope s_Lplaces_right) := ⟨rfl, rfl, rfl, by decide +kernel, rfl, by decide +kernel, by decide +kernel⟩
abbrev s_Lright : Stmt := top 60
abbrev n_Lright : List Str := ["_law_jar_here", "_law_turn", "_law_ties_here", "_law_glyphs", "_law_arrows_here", "_law_mine", "_law_again", "_law_row", "_law_at", "_law_bent", "_law_due", "_law_told", "_law_glyph"]
theorem sc_Lright : FnScope ["_law_jar_here", "_law_turn", "_law_ties_here", "_law_glyphs", "_law_arrows_here", "_law_mine", "_law_again", "_law_row", "_law_at", "_law_bent", "_law_due", "_law_told", "_law_glyph"] ["_law_jar_here"] (defScope s_Lright) := ⟨rfl, rfl, rfl, by decide +kernel, rfl, by decide +kernel, by decide +kernel⟩
abbrev s_law : Stmt := top 61
abbrev n_law : List Str := ["_law_script", "_law_k"]
theorem sc_law : FnScope ["_law_script", "_law_k"] ["_law_script"] (defScope s_law) := ⟨rfl, rfl, rfl, by decide +kernel, rfl, by decide +kernel, by decide +kernel⟩
theorem lit_0 : (Str.ofString "") = S [] := rfl
theorem lit_1 : (Str.ofString " ") = S [32] := rfl
theorem lit_2 : (Str.ofString "abcdefghijkmxyz") = S [97, 98, 99, 100, 101, 102, 103, 104, 105, 106, 107, 109, 120, 121, 122] := rfl
theorem lit_3 : (Str.ofString "told") = S [116, 111, 108, 100] := rfl
theorem lit_4 : (Str.ofString "odd") = S [111, 100, 100] := rfl
theorem lit_5 : (Str.ofString "gives") = S [103, 105, 118, 101, 115] := rfl
theorem lit_6 : (Str.ofString "takes") = S [116, 97, 107, 101, 115] := rfl
theorem lit_7 : (Str.ofString "row") = S [114, 111, 119] := rfl
theorem lit_8 : (Str.ofString "w") = S [119] := rfl
def fc_0 : List FB := [fFree "len", fFree "min", fFree "max", fFree "sorted", fFree "set", fFree "list", fFree "tuple", fFree "str", fFree "int", fFree "range", fFree "abs", fFree "divmod", fFree "any", fFree "all", fFree "isinstance", fFree "ArithmeticError", fFree "LookupError", fFree "ValueError", fFree "repr", fInt "MOST_PLACES" 7, fInt "MOST_TIES" 10, fStr "LETTERS" (S az), fGlo "_law_bases", fGlo "_law_caught", fGlo "_law_dip", fGlo "_law_flip", fGlo "_law_gives", fGlo "_law_glyphs_of", fGlo "_law_jar", fGlo "_law_laid"]
def fc_1 : List FB := [fGlo "_law_pick", fGlo "_law_places_right", fGlo "_law_pool", fGlo "_law_right", fGlo "_law_row_due", fGlo "_law_shown", fGlo "_law_ties", fGlo "_law_two", fGlo "_law_walk", fGlo "arrows_behind", fGlo "check_arrows", fGlo "check_place", fGlo "check_row", fGlo "check_ties", fGlo "do_hang", fGlo "does_give", fGlo "does_take", fGlo "exchanged", fGlo "is_pair", fGlo "is_place", fGlo "is_ringed", fGlo "is_two", fGlo "met_from", fGlo "pair_of", fGlo "places_in", fGlo "row_slip", fGlo "web_of", fGlo "law", fGlo "Way", fCls "Way"]
def fc_2 : List FB := [fOCls "Way", fMk "Way", fMeth "Way" "back", fMeth "Way" "by", fMeth "Way" "turned", fProp "Way" "arrows", fProp "Way" "web", fEq "Way", fNo "Way" "lot", fGlo "Web", fCls "Web", fOCls "Web", fMk "Web", fProp "Web" "places", fNo "Web" "letters", fNo "Web" "pairs", fGlo "InvalidRow", fOex "InvalidRow", fNoF "InvalidRow" "index", fIni "InvalidRow", fGlo "NotGiving", fOexA "NotGiving", fNoF "NotGiving" "given", fIni "NotGiving", fGlo "NotTaking", fOexA "NotTaking", fNoF "NotTaking" "given", fIni "NotTaking", fGlo "UnknownPlace", fOexL "UnknownPlace"]
def fc_3 : List FB := [fNoF "UnknownPlace" "given", fIni "UnknownPlace", fExk "NotGiving", fKit "NotGiving" "WrongValue" false, fKit "NotGiving" "WrongName" false, fKit "NotGiving" "NotPossible" true, fKitL "NotGiving" "ArithmeticError", fExk "NotTaking", fKit "NotTaking" "WrongValue" false, fKit "NotTaking" "WrongName" false, fKit "NotTaking" "NotPossible" true, fKitL "NotTaking" "ArithmeticError", fExk "InvalidRow", fKit "InvalidRow" "WrongValue" true, fKit "InvalidRow" "WrongName" false, fKit "InvalidRow" "NotPossible" false, fKitL "InvalidRow" "ValueError", fKit "InvalidRow" "NotGiving" false, fKit "InvalidRow" "NotTaking" false, fKit "NotGiving" "InvalidRow" false, fKit "NotGiving" "NotTaking" false, fKit "NotTaking" "InvalidRow" false, fKit "NotTaking" "NotGiving" false, fKit "InvalidRow" "InvalidRow" true, fKit "NotGiving" "NotGiving" true, fKit "NotTaking" "NotTaking" true, fExm "InvalidRow" "WrongValue" "WrongName" "NotPossible", fExm "NotGiving" "WrongValue" "WrongName" "NotPossible", fExm "NotTaking" "WrongValue" "WrongName" "NotPossible", fGlo "NotPossible"]
def fc_4 : List FB := [fGlo "WrongName", fGlo "WrongValue"]
def fcs : List FB := fc_0 ++ fc_1 ++ fc_2 ++ fc_3 ++ fc_4
def df_0 : List DefX := [⟨gA "_law_bases", "_law_bases", "_law_bases", s_Lbases⟩, ⟨gA "_law_caught", "_law_caught", "_law_caught", s_Lcaught⟩, ⟨gA "_law_dip", "_law_dip", "_law_dip", s_Ldip⟩, ⟨gA "_law_flip", "_law_flip", "_law_flip", s_Lflip⟩, ⟨gA "_law_gives", "_law_gives", "_law_gives", s_Lgives⟩, ⟨gA "_law_glyphs_of", "_law_glyphs_of", "_law_glyphs_of", s_Lglyphs_of⟩, ⟨gA "_law_jar", "_law_jar", "_law_jar", s_Ljar⟩, ⟨gA "_law_laid", "_law_laid", "_law_laid", s_Llaid⟩, ⟨gA "_law_pick", "_law_pick", "_law_pick", s_Lpick⟩, ⟨gA "_law_places_right", "_law_places_right", "_law_places_right", s_Lplaces_right⟩, ⟨gA "_law_pool", "_law_pool", "_law_pool", s_Lpool⟩, ⟨gA "_law_right", "_law_right", "_law_right", s_Lright⟩]
def df_1 : List DefX := [⟨gA "_law_row_due", "_law_row_due", "_law_row_due", s_Lrow_due⟩, ⟨gA "_law_shown", "_law_shown", "_law_shown", s_Lshown⟩, ⟨gA "_law_ties", "_law_ties", "_law_ties", s_Lties⟩, ⟨gA "_law_two", "_law_two", "_law_two", s_Ltwo⟩, ⟨gA "_law_walk", "_law_walk", "_law_walk", s_Lwalk⟩, ⟨gA "arrows_behind", "arrows_behind", "arrows_behind", s_arrows_behind⟩, ⟨gA "check_arrows", "check_arrows", "check_arrows", s_check_arrows⟩, ⟨gA "check_place", "check_place", "check_place", s_check_place⟩, ⟨gA "check_row", "check_row", "check_row", s_check_row⟩, ⟨gA "check_ties", "check_ties", "check_ties", s_check_ties⟩, ⟨gA "do_hang", "do_hang", "do_hang", s_do_hang⟩, ⟨gA "does_give", "does_give", "does_give", s_does_give⟩]
def df_2 : List DefX := [⟨gA "does_take", "does_take", "does_take", s_does_take⟩, ⟨gA "exchanged", "exchanged", "exchanged", s_exchanged⟩, ⟨gA "is_pair", "is_pair", "is_pair", s_is_pair⟩, ⟨gA "is_place", "is_place", "is_place", s_is_place⟩, ⟨gA "is_ringed", "is_ringed", "is_ringed", s_is_ringed⟩, ⟨gA "is_two", "is_two", "is_two", s_is_two⟩, ⟨gA "met_from", "met_from", "met_from", s_met_from⟩, ⟨gA "pair_of", "pair_of", "pair_of", s_pair_of⟩, ⟨gA "places_in", "places_in", "places_in", s_places_in⟩, ⟨gA "row_slip", "row_slip", "row_slip", s_row_slip⟩, ⟨gA "web_of", "web_of", "web_of", s_web_of⟩, ⟨gA "law", "law", "law", s_law⟩]
def df_3 : List DefX := [⟨mA "Way" "__init__", "__init__", "Way.__init__", s_Way___init__⟩, ⟨mA "Way" "back", "back", "Way.back", s_Way_back⟩, ⟨mA "Way" "by", "by", "Way.by", s_Way_by⟩, ⟨mA "Way" "turned", "turned", "Way.turned", s_Way_turned⟩, ⟨pA "Way" "arrows", "arrows", "Way.arrows", s_Way_arrows⟩, ⟨pA "Way" "web", "web", "Way.web", s_Way_web⟩, ⟨mA "Way" "__eq__", "__eq__", "Way.__eq__", s_Way___eq__⟩, ⟨mA "Web" "__init__", "__init__", "Web.__init__", s_Web___init__⟩, ⟨pA "Web" "places", "places", "Web.places", s_Web_places⟩, ⟨mA "InvalidRow" "__init__", "__init__", "InvalidRow.__init__", s_InvalidRow___init__⟩, ⟨mA "NotGiving" "__init__", "__init__", "NotGiving.__init__", s_NotGiving___init__⟩, ⟨mA "NotTaking" "__init__", "__init__", "NotTaking.__init__", s_NotTaking___init__⟩]
def df_4 : List DefX := [⟨mA "UnknownPlace" "__init__", "__init__", "UnknownPlace.__init__", s_UnknownPlace___init__⟩]
def dfs : List DefX := df_0 ++ df_1 ++ df_2 ++ df_3 ++ df_4
def lo_0 : List Str := ["_wall", "WrongValue", "ValueError", "InvalidText", "InvalidPair", "InvalidTies", "InvalidArrows", "InvalidRow", "WrongName", "LookupError", "UnknownPlace", "NotPossible", "ArithmeticError", "Apart", "Ringed", "NotGiving", "NotTaking", "MOST_TIES", "MOST_PLACES", "LETTERS", "is_place", "is_two", "is_pair", "pair_of", "places_in", "met_from", "do_hang", "check_ties", "web_told", "Web"]
def lo_1 : List Str := ["check_place", "check_pair", "check_arrows", "is_ringed", "way_told", "Way", "web_of", "does_give", "does_take", "exchanged", "row_slip", "check_row", "arrows_behind", "_law_jar", "_law_dip", "_law_pick", "_law_pool", "_law_two", "_law_ties", "_law_laid", "_law_glyphs_of", "_law_bases", "_law_caught", "_law_gives", "_law_flip", "_law_walk", "_law_shown", "_law_row_due", "_law_places_right", "_law_right"]
def loose : List Str := lo_0 ++ lo_1
abbrev Rw : PySem.W.OpenRow := PySem.W.OpenLaw.row PySem.Challenge.rw_pushdowns_k11_whole_ways_turned
def na_0 : List Str := ["_law_bases", "_law_caught", "_law_dip", "_law_flip", "_law_gives", "_law_glyphs_of", "_law_jar", "_law_laid", "_law_pick", "_law_places_right", "_law_pool", "_law_right", "_law_row_due", "_law_shown", "_law_ties", "_law_two", "_law_walk", "arrows_behind", "check_arrows", "check_place", "check_row", "check_ties", "do_hang", "does_give", "does_take", "exchanged", "is_pair", "is_place", "is_ringed", "is_two"]
def na_1 : List Str := ["met_from", "pair_of", "places_in", "row_slip", "web_of", "law", "Way", "Web", "InvalidRow", "NotGiving", "NotTaking", "UnknownPlace", "NotPossible", "WrongName", "WrongValue"]
def nms : List Str := na_0 ++ na_1
abbrev hk : PySem.W.Hook := hookZ2 4 nms fcs dfs "_law_places_right" "_law_right"
def ob (s : PySem.W.SharedT) : AlZ := lookZ2 4 nms fcs dfs "_law_places_right" "_law_right" (HandSHeadRun.getT s)
theorem ob_eq (s : PySem.W.SharedT) : ob s = hk.obs s.abs := lookZ2_eq (HandSHeadRun.getT_eq s)
theorem run (w : World) : HandSHeadRun.RunEq Rw (PySem.W.view Rw.prog [61]) hk ob 20000 loose w := by
  intro os
  kernel_rfl
end Pdl
namespace Pdl
open PySem L2 PyProof.Rows
local macro_rules | `(tactic| walk_at "xv") => `(tactic| first | ((with_reducible show XE _ _ (Expr.Name (Str.ofString "k") _) _ _); (first | refine xe_var (i := 0) rfl (.inl rfl) rfl ?_ | refine xe_var (i := 0) rfl (.inr (.inl rfl)) rfl ?_ | refine xe_var (i := 0) rfl (.inr (.inr rfl)) rfl ?_)) | ((with_reducible show XE _ _ (Expr.Name (Str.ofString "self") _) _ _); (first | refine xe_var (i := 0) rfl (.inl rfl) rfl ?_ | refine xe_var (i := 0) rfl (.inr (.inl rfl)) rfl ?_ | refine xe_var (i := 0) rfl (.inr (.inr rfl)) rfl ?_)) | ((with_reducible show XE _ _ (Expr.Name (Str.ofString "given") _) _ _); (first | refine xe_var (i := 1) rfl (.inl rfl) rfl ?_ | refine xe_var (i := 1) rfl (.inr (.inl rfl)) rfl ?_ | refine xe_var (i := 1) rfl (.inr (.inr rfl)) rfl ?_)) | ((with_reducible show XE _ _ (Expr.Name (Str.ofString "index") _) _ _); (first | refine xe_var (i := 1) rfl (.inl rfl) rfl ?_ | refine xe_var (i := 1) rfl (.inr (.inl rfl)) rfl ?_ | refine xe_var (i := 1) rfl (.inr (.inr rfl)) rfl ?_ | refine xe_var (i := 2) rfl (.inl rfl) rfl ?_ | refine xe_var (i := 2) rfl (.inr (.inl rfl)) rfl ?_ | refine xe_var (i := 2) rfl (.inr (.inr rfl)) rfl ?_ | refine xe_var (i := 4) rfl (.inl rfl) rfl ?_ | refine xe_var (i := 4) rfl (.inr (.inl rfl)) rfl ?_ | refine xe_var (i := 4) rfl (.inr (.inr rfl)) rfl ?_)) | ((with_reducible show XE _ _ (Expr.Name (Str.ofString "value") _) _ _); (first | refine xe_var (i := 0) rfl (.inl rfl) rfl ?_ | refine xe_var (i := 0) rfl (.inr (.inl rfl)) rfl ?_ | refine xe_var (i := 0) rfl (.inr (.inr rfl)) rfl ?_ | refine xe_var (i := 1) rfl (.inl rfl) rfl ?_ | refine xe_var (i := 1) rfl (.inr (.inl rfl)) rfl ?_ | refine xe_var (i := 1) rfl (.inr (.inr rfl)) rfl ?_)) | ((with_reducible show XE _ _ (Expr.Name (Str.ofString "one") _) _ _); (first | refine xe_var (i := 0) rfl (.inl rfl) rfl ?_ | refine xe_var (i := 0) rfl (.inr (.inl rfl)) rfl ?_ | refine xe_var (i := 0) rfl (.inr (.inr rfl)) rfl ?_ | refine xe_var (i := 1) rfl (.inl rfl) rfl ?_ | refine xe_var (i := 1) rfl (.inr (.inl rfl)) rfl ?_ | refine xe_var (i := 1) rfl (.inr (.inr rfl)) rfl ?_)) | ((with_reducible show XE _ _ (Expr.Name (Str.ofString "other") _) _ _); (first | refine xe_var (i := 1) rfl (.inl rfl) rfl ?_ | refine xe_var (i := 1) rfl (.inr (.inl rfl)) rfl ?_ | refine xe_var (i := 1) rfl (.inr (.inr rfl)) rfl ?_ | refine xe_var (i := 2) rfl (.inl rfl) rfl ?_ | refine xe_var (i := 2) rfl (.inr (.inl rfl)) rfl ?_ | refine xe_var (i := 2) rfl (.inr (.inr rfl)) rfl ?_ | refine xe_var (i := 4) rfl (.inl rfl) rfl ?_ | refine xe_var (i := 4) rfl (.inr (.inl rfl)) rfl ?_ | refine xe_var (i := 4) rfl (.inr (.inr rfl)) rfl ?_)) | ((with_reducible show XE _ _ (Expr.Name (Str.ofString "ties") _) _ _); (first | refine xe_var (i := 0) rfl (.inl rfl) rfl ?_ | refine xe_var (i := 0) rfl (.inr (.inl rfl)) rfl ?_ | refine xe_var (i := 0) rfl (.inr (.inr rfl)) rfl ?_ | refine xe_var (i := 1) rfl (.inl rfl) rfl ?_ | refine xe_var (i := 1) rfl (.inr (.inl rfl)) rfl ?_ | refine xe_var (i := 1) rfl (.inr (.inr rfl)) rfl ?_)) | ((with_reducible show XE _ _ (Expr.Name (Str.ofString "places") _) _ _); (first | refine xe_var (i := 1) rfl (.inl rfl) rfl ?_ | refine xe_var (i := 1) rfl (.inr (.inl rfl)) rfl ?_ | refine xe_var (i := 1) rfl (.inr (.inr rfl)) rfl ?_ | refine xe_var (i := 2) rfl (.inl rfl) rfl ?_ | refine xe_var (i := 2) rfl (.inr (.inl rfl)) rfl ?_ | refine xe_var (i := 2) rfl (.inr (.inr rfl)) rfl ?_)) | ((with_reducible show XE _ _ (Expr.Name (Str.ofString "met") _) _ _); (first | refine xe_var (i := 2) rfl (.inl rfl) rfl ?_ | refine xe_var (i := 2) rfl (.inr (.inl rfl)) rfl ?_ | refine xe_var (i := 2) rfl (.inr (.inr rfl)) rfl ?_)) | ((with_reducible show XE _ _ (Expr.Name (Str.ofString "later") _) _ _); (first | refine xe_var (i := 2) rfl (.inl rfl) rfl ?_ | refine xe_var (i := 2) rfl (.inr (.inl rfl)) rfl ?_ | refine xe_var (i := 2) rfl (.inr (.inr rfl)) rfl ?_ | refine xe_var (i := 3) rfl (.inl rfl) rfl ?_ | refine xe_var (i := 3) rfl (.inr (.inl rfl)) rfl ?_ | refine xe_var (i := 3) rfl (.inr (.inr rfl)) rfl ?_)) | ((with_reducible show XE _ _ (Expr.Name (Str.ofString "tie") _) _ _); (first | refine xe_var (i := 3) rfl (.inl rfl) rfl ?_ | refine xe_var (i := 3) rfl (.inr (.inl rfl)) rfl ?_ | refine xe_var (i := 3) rfl (.inr (.inr rfl)) rfl ?_ | refine xe_var (i := 4) rfl (.inl rfl) rfl ?_ | refine xe_var (i := 4) rfl (.inr (.inl rfl)) rfl ?_ | refine xe_var (i := 4) rfl (.inr (.inr rfl)) rfl ?_)) | ((with_reducible show XE _ _ (Expr.Name (Str.ofString "text") _) _ _); (first | refine xe_var (i := 0) rfl (.inl rfl) rfl ?_ | refine xe_var (i := 0) rfl (.inr (.inl rfl)) rfl ?_ | refine xe_var (i := 0) rfl (.inr (.inr rfl)) rfl ?_ | refine xe_var (i := 1) rfl (.inl rfl) rfl ?_ | refine xe_var (i := 1) rfl (.inr (.inl rfl)) rfl ?_ | refine xe_var (i := 1) rfl (.inr (.inr rfl)) rfl ?_)) | ((with_reducible show XE _ _ (Expr.Name (Str.ofString "cls") _) _ _); (first | refine xe_var (i := 0) rfl (.inl rfl) rfl ?_ | refine xe_var (i := 0) rfl (.inr (.inl rfl)) rfl ?_ | refine xe_var (i := 0) rfl (.inr (.inr rfl)) rfl ?_)) | ((with_reducible show XE _ _ (Expr.Name (Str.ofString "found") _) _ _); (first | refine xe_var (i := 2) rfl (.inl rfl) rfl ?_ | refine xe_var (i := 2) rfl (.inr (.inl rfl)) rfl ?_ | refine xe_var (i := 2) rfl (.inr (.inr rfl)) rfl ?_)) | ((with_reducible show XE _ _ (Expr.Name (Str.ofString "place") _) _ _); (first | refine xe_var (i := 1) rfl (.inl rfl) rfl ?_ | refine xe_var (i := 1) rfl (.inr (.inl rfl)) rfl ?_ | refine xe_var (i := 1) rfl (.inr (.inr rfl)) rfl ?_ | refine xe_var (i := 2) rfl (.inl rfl) rfl ?_ | refine xe_var (i := 2) rfl (.inr (.inl rfl)) rfl ?_ | refine xe_var (i := 2) rfl (.inr (.inr rfl)) rfl ?_)) | ((with_reducible show XE _ _ (Expr.Name (Str.ofString "pair") _) _ _); (first | refine xe_var (i := 1) rfl (.inl rfl) rfl ?_ | refine xe_var (i := 1) rfl (.inr (.inl rfl)) rfl ?_ | refine xe_var (i := 1) rfl (.inr (.inr rfl)) rfl ?_)) | ((with_reducible show XE _ _ (Expr.Name (Str.ofString "left") _) _ _); (first | refine xe_var (i := 1) rfl (.inl rfl) rfl ?_ | refine xe_var (i := 1) rfl (.inr (.inl rfl)) rfl ?_ | refine xe_var (i := 1) rfl (.inr (.inr rfl)) rfl ?_ | refine xe_var (i := 2) rfl (.inl rfl) rfl ?_ | refine xe_var (i := 2) rfl (.inr (.inl rfl)) rfl ?_ | refine xe_var (i := 2) rfl (.inr (.inr rfl)) rfl ?_)) | ((with_reducible show XE _ _ (Expr.Name (Str.ofString "web") _) _ _); (first | refine xe_var (i := 0) rfl (.inl rfl) rfl ?_ | refine xe_var (i := 0) rfl (.inr (.inl rfl)) rfl ?_ | refine xe_var (i := 0) rfl (.inr (.inr rfl)) rfl ?_)) | ((with_reducible show XE _ _ (Expr.Name (Str.ofString "arrows") _) _ _); (first | refine xe_var (i := 0) rfl (.inl rfl) rfl ?_ | refine xe_var (i := 0) rfl (.inr (.inl rfl)) rfl ?_ | refine xe_var (i := 0) rfl (.inr (.inr rfl)) rfl ?_ | refine xe_var (i := 1) rfl (.inl rfl) rfl ?_ | refine xe_var (i := 1) rfl (.inr (.inl rfl)) rfl ?_ | refine xe_var (i := 1) rfl (.inr (.inr rfl)) rfl ?_)) | ((with_reducible show XE _ _ (Expr.Name (Str.ofString "arrow") _) _ _); (first | refine xe_var (i := 1) rfl (.inl rfl) rfl ?_ | refine xe_var (i := 1) rfl (.inr (.inl rfl)) rfl ?_ | refine xe_var (i := 1) rfl (.inr (.inr rfl)) rfl ?_ | refine xe_var (i := 2) rfl (.inl rfl) rfl ?_ | refine xe_var (i := 2) rfl (.inr (.inl rfl)) rfl ?_ | refine xe_var (i := 2) rfl (.inr (.inr rfl)) rfl ?_ | refine xe_var (i := 3) rfl (.inl rfl) rfl ?_ | refine xe_var (i := 3) rfl (.inr (.inl rfl)) rfl ?_ | refine xe_var (i := 3) rfl (.inr (.inr rfl)) rfl ?_)) | ((with_reducible show XE _ _ (Expr.Name (Str.ofString "row") _) _ _); (first | refine xe_var (i := 1) rfl (.inl rfl) rfl ?_ | refine xe_var (i := 1) rfl (.inr (.inl rfl)) rfl ?_ | refine xe_var (i := 1) rfl (.inr (.inr rfl)) rfl ?_)) | ((with_reducible show XE _ _ (Expr.Name (Str.ofString "here") _) _ _); (first | refine xe_var (i := 3) rfl (.inl rfl) rfl ?_ | refine xe_var (i := 3) rfl (.inr (.inl rfl)) rfl ?_ | refine xe_var (i := 3) rfl (.inr (.inr rfl)) rfl ?_)) | ((with_reducible show XE _ _ (Expr.Name (Str.ofString "way") _) _ _); (first | refine xe_var (i := 0) rfl (.inl rfl) rfl ?_ | refine xe_var (i := 0) rfl (.inr (.inl rfl)) rfl ?_ | refine xe_var (i := 0) rfl (.inr (.inr rfl)) rfl ?_)) | ((with_reducible show XE _ _ (Expr.Name (Str.ofString "slip") _) _ _); (first | refine xe_var (i := 2) rfl (.inl rfl) rfl ?_ | refine xe_var (i := 2) rfl (.inr (.inl rfl)) rfl ?_ | refine xe_var (i := 2) rfl (.inr (.inr rfl)) rfl ?_)) | ((with_reducible show XE _ _ (Expr.Name (Str.ofString "_law_script") _) _ _); (first | refine xe_var (i := 0) rfl (.inl rfl) rfl ?_ | refine xe_var (i := 0) rfl (.inr (.inl rfl)) rfl ?_ | refine xe_var (i := 0) rfl (.inr (.inr rfl)) rfl ?_)) | ((with_reducible show XE _ _ (Expr.Name (Str.ofString "_law_k") _) _ _); (first | refine xe_var (i := 1) rfl (.inl rfl) rfl ?_ | refine xe_var (i := 1) rfl (.inr (.inl rfl)) rfl ?_ | refine xe_var (i := 1) rfl (.inr (.inr rfl)) rfl ?_ | refine xe_var (i := 2) rfl (.inl rfl) rfl ?_ | refine xe_var (i := 2) rfl (.inr (.inl rfl)) rfl ?_ | refine xe_var (i := 2) rfl (.inr (.inr rfl)) rfl ?_ | refine xe_var (i := 4) rfl (.inl rfl) rfl ?_ | refine xe_var (i := 4) rfl (.inr (.inl rfl)) rfl ?_ | refine xe_var (i := 4) rfl (.inr (.inr rfl)) rfl ?_ | refine xe_var (i := 5) rfl (.inl rfl) rfl ?_ | refine xe_var (i := 5) rfl (.inr (.inl rfl)) rfl ?_ | refine xe_var (i := 5) rfl (.inr (.inr rfl)) rfl ?_)) | ((with_reducible show XE _ _ (Expr.Name (Str.ofString "_law_churned") _) _ _); (first | refine xe_var (i := 2) rfl (.inl rfl) rfl ?_ | refine xe_var (i := 2) rfl (.inr (.inl rfl)) rfl ?_ | refine xe_var (i := 2) rfl (.inr (.inr rfl)) rfl ?_)) | ((with_reducible show XE _ _ (Expr.Name (Str.ofString "_law_cell") _) _ _); (first | refine xe_var (i := 3) rfl (.inl rfl) rfl ?_ | refine xe_var (i := 3) rfl (.inr (.inl rfl)) rfl ?_ | refine xe_var (i := 3) rfl (.inr (.inr rfl)) rfl ?_)) | ((with_reducible show XE _ _ (Expr.Name (Str.ofString "_law_base") _) _ _); (first | refine xe_var (i := 4) rfl (.inl rfl) rfl ?_ | refine xe_var (i := 4) rfl (.inr (.inl rfl)) rfl ?_ | refine xe_var (i := 4) rfl (.inr (.inr rfl)) rfl ?_)) | ((with_reducible show XE _ _ (Expr.Name (Str.ofString "_law_digits") _) _ _); (first | refine xe_var (i := 5) rfl (.inl rfl) rfl ?_ | refine xe_var (i := 5) rfl (.inr (.inl rfl)) rfl ?_ | refine xe_var (i := 5) rfl (.inr (.inr rfl)) rfl ?_)) | ((with_reducible show XE _ _ (Expr.Name (Str.ofString "_law_jar_here") _) _ _); (first | refine xe_var (i := 0) rfl (.inl rfl) rfl ?_ | refine xe_var (i := 0) rfl (.inr (.inl rfl)) rfl ?_ | refine xe_var (i := 0) rfl (.inr (.inr rfl)) rfl ?_)) | ((with_reducible show XE _ _ (Expr.Name (Str.ofString "_law_wide") _) _ _); (first | refine xe_var (i := 1) rfl (.inl rfl) rfl ?_ | refine xe_var (i := 1) rfl (.inr (.inl rfl)) rfl ?_ | refine xe_var (i := 1) rfl (.inr (.inr rfl)) rfl ?_)) | ((with_reducible show XE _ _ (Expr.Name (Str.ofString "_law_digit") _) _ _); (first | refine xe_var (i := 2) rfl (.inl rfl) rfl ?_ | refine xe_var (i := 2) rfl (.inr (.inl rfl)) rfl ?_ | refine xe_var (i := 2) rfl (.inr (.inr rfl)) rfl ?_)) | ((with_reducible show XE _ _ (Expr.Name (Str.ofString "_law_seed") _) _ _); (first | refine xe_var (i := 3) rfl (.inl rfl) rfl ?_ | refine xe_var (i := 3) rfl (.inr (.inl rfl)) rfl ?_ | refine xe_var (i := 3) rfl (.inr (.inr rfl)) rfl ?_)) | ((with_reducible show XE _ _ (Expr.Name (Str.ofString "_law_menu") _) _ _); (first | refine xe_var (i := 1) rfl (.inl rfl) rfl ?_ | refine xe_var (i := 1) rfl (.inr (.inl rfl)) rfl ?_ | refine xe_var (i := 1) rfl (.inr (.inr rfl)) rfl ?_)) | ((with_reducible show XE _ _ (Expr.Name (Str.ofString "_law_at") _) _ _); (first | refine xe_var (i := 2) rfl (.inl rfl) rfl ?_ | refine xe_var (i := 2) rfl (.inr (.inl rfl)) rfl ?_ | refine xe_var (i := 2) rfl (.inr (.inr rfl)) rfl ?_ | refine xe_var (i := 8) rfl (.inl rfl) rfl ?_ | refine xe_var (i := 8) rfl (.inr (.inl rfl)) rfl ?_ | refine xe_var (i := 8) rfl (.inr (.inr rfl)) rfl ?_)) | ((with_reducible show XE _ _ (Expr.Name (Str.ofString "_law_many") _) _ _); (first | refine xe_var (i := 1) rfl (.inl rfl) rfl ?_ | refine xe_var (i := 1) rfl (.inr (.inl rfl)) rfl ?_ | refine xe_var (i := 1) rfl (.inr (.inr rfl)) rfl ?_ | refine xe_var (i := 2) rfl (.inl rfl) rfl ?_ | refine xe_var (i := 2) rfl (.inr (.inl rfl)) rfl ?_ | refine xe_var (i := 2) rfl (.inr (.inr rfl)) rfl ?_)) | ((with_reducible show XE _ _ (Expr.Name (Str.ofString "_law_rest") _) _ _); (first | refine xe_var (i := 2) rfl (.inl rfl) rfl ?_ | refine xe_var (i := 2) rfl (.inr (.inl rfl)) rfl ?_ | refine xe_var (i := 2) rfl (.inr (.inr rfl)) rfl ?_ | refine xe_var (i := 3) rfl (.inl rfl) rfl ?_ | refine xe_var (i := 3) rfl (.inr (.inl rfl)) rfl ?_ | refine xe_var (i := 3) rfl (.inr (.inr rfl)) rfl ?_)) | ((with_reducible show XE _ _ (Expr.Name (Str.ofString "_law_found") _) _ _); (first | refine xe_var (i := 1) rfl (.inl rfl) rfl ?_ | refine xe_var (i := 1) rfl (.inr (.inl rfl)) rfl ?_ | refine xe_var (i := 1) rfl (.inr (.inr rfl)) rfl ?_ | refine xe_var (i := 3) rfl (.inl rfl) rfl ?_ | refine xe_var (i := 3) rfl (.inr (.inl rfl)) rfl ?_ | refine xe_var (i := 3) rfl (.inr (.inr rfl)) rfl ?_ | refine xe_var (i := 4) rfl (.inl rfl) rfl ?_ | refine xe_var (i := 4) rfl (.inr (.inl rfl)) rfl ?_ | refine xe_var (i := 4) rfl (.inr (.inr rfl)) rfl ?_)) | ((with_reducible show XE _ _ (Expr.Name (Str.ofString "_law_one") _) _ _); (first | refine xe_var (i := 0) rfl (.inl rfl) rfl ?_ | refine xe_var (i := 0) rfl (.inr (.inl rfl)) rfl ?_ | refine xe_var (i := 0) rfl (.inr (.inr rfl)) rfl ?_ | refine xe_var (i := 7) rfl (.inl rfl) rfl ?_ | refine xe_var (i := 7) rfl (.inr (.inl rfl)) rfl ?_ | refine xe_var (i := 7) rfl (.inr (.inr rfl)) rfl ?_)) | ((with_reducible show XE _ _ (Expr.Name (Str.ofString "_law_other") _) _ _); (first | refine xe_var (i := 1) rfl (.inl rfl) rfl ?_ | refine xe_var (i := 1) rfl (.inr (.inl rfl)) rfl ?_ | refine xe_var (i := 1) rfl (.inr (.inr rfl)) rfl ?_ | refine xe_var (i := 10) rfl (.inl rfl) rfl ?_ | refine xe_var (i := 10) rfl (.inr (.inl rfl)) rfl ?_ | refine xe_var (i := 10) rfl (.inr (.inr rfl)) rfl ?_)) | ((with_reducible show XE _ _ (Expr.Name (Str.ofString "_law_most") _) _ _); (first | refine xe_var (i := 1) rfl (.inl rfl) rfl ?_ | refine xe_var (i := 1) rfl (.inr (.inl rfl)) rfl ?_ | refine xe_var (i := 1) rfl (.inr (.inr rfl)) rfl ?_ | refine xe_var (i := 2) rfl (.inl rfl) rfl ?_ | refine xe_var (i := 2) rfl (.inr (.inl rfl)) rfl ?_ | refine xe_var (i := 2) rfl (.inr (.inr rfl)) rfl ?_)) | ((with_reducible show XE _ _ (Expr.Name (Str.ofString "_law_glyphs") _) _ _); (first | refine xe_var (i := 2) rfl (.inl rfl) rfl ?_ | refine xe_var (i := 2) rfl (.inr (.inl rfl)) rfl ?_ | refine xe_var (i := 2) rfl (.inr (.inr rfl)) rfl ?_ | refine xe_var (i := 3) rfl (.inl rfl) rfl ?_ | refine xe_var (i := 3) rfl (.inr (.inl rfl)) rfl ?_ | refine xe_var (i := 3) rfl (.inr (.inr rfl)) rfl ?_ | refine xe_var (i := 4) rfl (.inl rfl) rfl ?_ | refine xe_var (i := 4) rfl (.inr (.inl rfl)) rfl ?_ | refine xe_var (i := 4) rfl (.inr (.inr rfl)) rfl ?_)) | ((with_reducible show XE _ _ (Expr.Name (Str.ofString "_law_every") _) _ _); (first | refine xe_var (i := 6) rfl (.inl rfl) rfl ?_ | refine xe_var (i := 6) rfl (.inr (.inl rfl)) rfl ?_ | refine xe_var (i := 6) rfl (.inr (.inr rfl)) rfl ?_)) | ((with_reducible show XE _ _ (Expr.Name (Str.ofString "_law_turn") _) _ _); (first | refine xe_var (i := 1) rfl (.inl rfl) rfl ?_ | refine xe_var (i := 1) rfl (.inr (.inl rfl)) rfl ?_ | refine xe_var (i := 1) rfl (.inr (.inr rfl)) rfl ?_ | refine xe_var (i := 5) rfl (.inl rfl) rfl ?_ | refine xe_var (i := 5) rfl (.inr (.inl rfl)) rfl ?_ | refine xe_var (i := 5) rfl (.inr (.inr rfl)) rfl ?_ | refine xe_var (i := 8) rfl (.inl rfl) rfl ?_ | refine xe_var (i := 8) rfl (.inr (.inl rfl)) rfl ?_ | refine xe_var (i := 8) rfl (.inr (.inr rfl)) rfl ?_)) | ((with_reducible show XE _ _ (Expr.Name (Str.ofString "_law_tie") _) _ _); (first | refine xe_var (i := 5) rfl (.inl rfl) rfl ?_ | refine xe_var (i := 5) rfl (.inr (.inl rfl)) rfl ?_ | refine xe_var (i := 5) rfl (.inr (.inr rfl)) rfl ?_ | refine xe_var (i := 9) rfl (.inl rfl) rfl ?_ | refine xe_var (i := 9) rfl (.inr (.inl rfl)) rfl ?_ | refine xe_var (i := 9) rfl (.inr (.inr rfl)) rfl ?_)) | ((with_reducible show XE _ _ (Expr.Name (Str.ofString "_law_ties_here") _) _ _); (first | refine xe_var (i := 0) rfl (.inl rfl) rfl ?_ | refine xe_var (i := 0) rfl (.inr (.inl rfl)) rfl ?_ | refine xe_var (i := 0) rfl (.inr (.inr rfl)) rfl ?_ | refine xe_var (i := 1) rfl (.inl rfl) rfl ?_ | refine xe_var (i := 1) rfl (.inr (.inl rfl)) rfl ?_ | refine xe_var (i := 1) rfl (.inr (.inr rfl)) rfl ?_ | refine xe_var (i := 2) rfl (.inl rfl) rfl ?_ | refine xe_var (i := 2) rfl (.inr (.inl rfl)) rfl ?_ | refine xe_var (i := 2) rfl (.inr (.inr rfl)) rfl ?_)) | ((with_reducible show XE _ _ (Expr.Name (Str.ofString "_law_order") _) _ _); (first | refine xe_var (i := 4) rfl (.inl rfl) rfl ?_ | refine xe_var (i := 4) rfl (.inr (.inl rfl)) rfl ?_ | refine xe_var (i := 4) rfl (.inr (.inr rfl)) rfl ?_)) | ((with_reducible show XE _ _ (Expr.Name (Str.ofString "_law_e") _) _ _); (first | refine xe_var (i := 0) rfl (.inl rfl) rfl ?_ | refine xe_var (i := 0) rfl (.inr (.inl rfl)) rfl ?_ | refine xe_var (i := 0) rfl (.inr (.inr rfl)) rfl ?_ | refine xe_var (i := 2) rfl (.inl rfl) rfl ?_ | refine xe_var (i := 2) rfl (.inr (.inl rfl)) rfl ?_ | refine xe_var (i := 2) rfl (.inr (.inr rfl)) rfl ?_)) | ((with_reducible show XE _ _ (Expr.Name (Str.ofString "_law_act") _) _ _); (first | refine xe_var (i := 0) rfl (.inl rfl) rfl ?_ | refine xe_var (i := 0) rfl (.inr (.inl rfl)) rfl ?_ | refine xe_var (i := 0) rfl (.inr (.inr rfl)) rfl ?_)) | ((with_reducible show XE _ _ (Expr.Name (Str.ofString "_law_told") _) _ _); (first | refine xe_var (i := 1) rfl (.inl rfl) rfl ?_ | refine xe_var (i := 1) rfl (.inr (.inl rfl)) rfl ?_ | refine xe_var (i := 1) rfl (.inr (.inr rfl)) rfl ?_ | refine xe_var (i := 4) rfl (.inl rfl) rfl ?_ | refine xe_var (i := 4) rfl (.inr (.inl rfl)) rfl ?_ | refine xe_var (i := 4) rfl (.inr (.inr rfl)) rfl ?_ | refine xe_var (i := 11) rfl (.inl rfl) rfl ?_ | refine xe_var (i := 11) rfl (.inr (.inl rfl)) rfl ?_ | refine xe_var (i := 11) rfl (.inr (.inr rfl)) rfl ?_)) | ((with_reducible show XE _ _ (Expr.Name (Str.ofString "_law_arrows_here") _) _ _); (first | refine xe_var (i := 0) rfl (.inl rfl) rfl ?_ | refine xe_var (i := 0) rfl (.inr (.inl rfl)) rfl ?_ | refine xe_var (i := 0) rfl (.inr (.inr rfl)) rfl ?_ | refine xe_var (i := 1) rfl (.inl rfl) rfl ?_ | refine xe_var (i := 1) rfl (.inr (.inl rfl)) rfl ?_ | refine xe_var (i := 1) rfl (.inr (.inr rfl)) rfl ?_ | refine xe_var (i := 4) rfl (.inl rfl) rfl ?_ | refine xe_var (i := 4) rfl (.inr (.inl rfl)) rfl ?_ | refine xe_var (i := 4) rfl (.inr (.inr rfl)) rfl ?_)) | ((with_reducible show XE _ _ (Expr.Name (Str.ofString "_law_glyph") _) _ _); (first | refine xe_var (i := 1) rfl (.inl rfl) rfl ?_ | refine xe_var (i := 1) rfl (.inr (.inl rfl)) rfl ?_ | refine xe_var (i := 1) rfl (.inr (.inr rfl)) rfl ?_ | refine xe_var (i := 2) rfl (.inl rfl) rfl ?_ | refine xe_var (i := 2) rfl (.inr (.inl rfl)) rfl ?_ | refine xe_var (i := 2) rfl (.inr (.inr rfl)) rfl ?_ | refine xe_var (i := 6) rfl (.inl rfl) rfl ?_ | refine xe_var (i := 6) rfl (.inr (.inl rfl)) rfl ?_ | refine xe_var (i := 6) rfl (.inr (.inr rfl)) rfl ?_ | refine xe_var (i := 12) rfl (.inl rfl) rfl ?_ | refine xe_var (i := 12) rfl (.inr (.inl rfl)) rfl ?_ | refine xe_var (i := 12) rfl (.inr (.inr rfl)) rfl ?_)) | ((with_reducible show XE _ _ (Expr.Name (Str.ofString "_law_arrow") _) _ _); (first | refine xe_var (i := 2) rfl (.inl rfl) rfl ?_ | refine xe_var (i := 2) rfl (.inr (.inl rfl)) rfl ?_ | refine xe_var (i := 2) rfl (.inr (.inr rfl)) rfl ?_ | refine xe_var (i := 7) rfl (.inl rfl) rfl ?_ | refine xe_var (i := 7) rfl (.inr (.inl rfl)) rfl ?_ | refine xe_var (i := 7) rfl (.inr (.inr rfl)) rfl ?_)) | ((with_reducible show XE _ _ (Expr.Name (Str.ofString "_law_row") _) _ _); (first | refine xe_var (i := 1) rfl (.inl rfl) rfl ?_ | refine xe_var (i := 1) rfl (.inr (.inl rfl)) rfl ?_ | refine xe_var (i := 1) rfl (.inr (.inr rfl)) rfl ?_ | refine xe_var (i := 3) rfl (.inl rfl) rfl ?_ | refine xe_var (i := 3) rfl (.inr (.inl rfl)) rfl ?_ | refine xe_var (i := 3) rfl (.inr (.inr rfl)) rfl ?_ | refine xe_var (i := 7) rfl (.inl rfl) rfl ?_ | refine xe_var (i := 7) rfl (.inr (.inl rfl)) rfl ?_ | refine xe_var (i := 7) rfl (.inr (.inr rfl)) rfl ?_)) | ((with_reducible show XE _ _ (Expr.Name (Str.ofString "_law_each") _) _ _); (first | refine xe_var (i := 7) rfl (.inl rfl) rfl ?_ | refine xe_var (i := 7) rfl (.inr (.inl rfl)) rfl ?_ | refine xe_var (i := 7) rfl (.inr (.inr rfl)) rfl ?_)) | ((with_reducible show XE _ _ (Expr.Name (Str.ofString "_law_sorts") _) _ _); (first | refine xe_var (i := 1) rfl (.inl rfl) rfl ?_ | refine xe_var (i := 1) rfl (.inr (.inl rfl)) rfl ?_ | refine xe_var (i := 1) rfl (.inr (.inr rfl)) rfl ?_)) | ((with_reducible show XE _ _ (Expr.Name (Str.ofString "_law_mine") _) _ _); (first | refine xe_var (i := 0) rfl (.inl rfl) rfl ?_ | refine xe_var (i := 0) rfl (.inr (.inl rfl)) rfl ?_ | refine xe_var (i := 0) rfl (.inr (.inr rfl)) rfl ?_ | refine xe_var (i := 5) rfl (.inl rfl) rfl ?_ | refine xe_var (i := 5) rfl (.inr (.inl rfl)) rfl ?_ | refine xe_var (i := 5) rfl (.inr (.inr rfl)) rfl ?_)) | ((with_reducible show XE _ _ (Expr.Name (Str.ofString "_law_fresh") _) _ _); (first | refine xe_var (i := 3) rfl (.inl rfl) rfl ?_ | refine xe_var (i := 3) rfl (.inr (.inl rfl)) rfl ?_ | refine xe_var (i := 3) rfl (.inr (.inr rfl)) rfl ?_)) | ((with_reducible show XE _ _ (Expr.Name (Str.ofString "_law_takes_here") _) _ _); (first | refine xe_var (i := 5) rfl (.inl rfl) rfl ?_ | refine xe_var (i := 5) rfl (.inr (.inl rfl)) rfl ?_ | refine xe_var (i := 5) rfl (.inr (.inr rfl)) rfl ?_)) | ((with_reducible show XE _ _ (Expr.Name (Str.ofString "_law_due") _) _ _); (first | refine xe_var (i := 6) rfl (.inl rfl) rfl ?_ | refine xe_var (i := 6) rfl (.inr (.inl rfl)) rfl ?_ | refine xe_var (i := 6) rfl (.inr (.inr rfl)) rfl ?_ | refine xe_var (i := 10) rfl (.inl rfl) rfl ?_ | refine xe_var (i := 10) rfl (.inr (.inl rfl)) rfl ?_ | refine xe_var (i := 10) rfl (.inr (.inr rfl)) rfl ?_)) | ((with_reducible show XE _ _ (Expr.Name (Str.ofString "_law_again") _) _ _); (first | refine xe_var (i := 6) rfl (.inl rfl) rfl ?_ | refine xe_var (i := 6) rfl (.inr (.inl rfl)) rfl ?_ | refine xe_var (i := 6) rfl (.inr (.inr rfl)) rfl ?_)) | ((with_reducible show XE _ _ (Expr.Name (Str.ofString "_law_bent") _) _ _); (first | refine xe_var (i := 9) rfl (.inl rfl) rfl ?_ | refine xe_var (i := 9) rfl (.inr (.inl rfl)) rfl ?_ | refine xe_var (i := 9) rfl (.inr (.inr rfl)) rfl ?_)))
local macro_rules | `(tactic| walk_at "xset") => `(tactic| first | ((with_reducible show XS _ _ (Stmt.Assign [Expr.Name (Str.ofString "k") _] _ _) _ _); (first | refine xs_set (i := 0) (by assumption) rfl (.inl rfl) ?_ | refine xs_set (i := 0) (by assumption) rfl (.inr rfl) ?_)) | ((with_reducible show XS _ _ (Stmt.Assign [Expr.Name (Str.ofString "self") _] _ _) _ _); (first | refine xs_set (i := 0) (by assumption) rfl (.inl rfl) ?_ | refine xs_set (i := 0) (by assumption) rfl (.inr rfl) ?_)) | ((with_reducible show XS _ _ (Stmt.Assign [Expr.Name (Str.ofString "given") _] _ _) _ _); (first | refine xs_set (i := 1) (by assumption) rfl (.inl rfl) ?_ | refine xs_set (i := 1) (by assumption) rfl (.inr rfl) ?_)) | ((with_reducible show XS _ _ (Stmt.Assign [Expr.Name (Str.ofString "index") _] _ _) _ _); (first | refine xs_set (i := 1) (by assumption) rfl (.inl rfl) ?_ | refine xs_set (i := 1) (by assumption) rfl (.inr rfl) ?_ | refine xs_set (i := 2) (by assumption) rfl (.inl rfl) ?_ | refine xs_set (i := 2) (by assumption) rfl (.inr rfl) ?_ | refine xs_set (i := 4) (by assumption) rfl (.inl rfl) ?_ | refine xs_set (i := 4) (by assumption) rfl (.inr rfl) ?_)) | ((with_reducible show XS _ _ (Stmt.Assign [Expr.Name (Str.ofString "value") _] _ _) _ _); (first | refine xs_set (i := 0) (by assumption) rfl (.inl rfl) ?_ | refine xs_set (i := 0) (by assumption) rfl (.inr rfl) ?_ | refine xs_set (i := 1) (by assumption) rfl (.inl rfl) ?_ | refine xs_set (i := 1) (by assumption) rfl (.inr rfl) ?_)) | ((with_reducible show XS _ _ (Stmt.Assign [Expr.Name (Str.ofString "one") _] _ _) _ _); (first | refine xs_set (i := 0) (by assumption) rfl (.inl rfl) ?_ | refine xs_set (i := 0) (by assumption) rfl (.inr rfl) ?_ | refine xs_set (i := 1) (by assumption) rfl (.inl rfl) ?_ | refine xs_set (i := 1) (by assumption) rfl (.inr rfl) ?_)) | ((with_reducible show XS _ _ (Stmt.Assign [Expr.Name (Str.ofString "other") _] _ _) _ _); (first | refine xs_set (i := 1) (by assumption) rfl (.inl rfl) ?_ | refine xs_set (i := 1) (by assumption) rfl (.inr rfl) ?_ | refine xs_set (i := 2) (by assumption) rfl (.inl rfl) ?_ | refine xs_set (i := 2) (by assumption) rfl (.inr rfl) ?_ | refine xs_set (i := 4) (by assumption) rfl (.inl rfl) ?_ | refine xs_set (i := 4) (by assumption) rfl (.inr rfl) ?_)) | ((with_reducible show XS _ _ (Stmt.Assign [Expr.Name (Str.ofString "ties") _] _ _) _ _); (first | refine xs_set (i := 0) (by assumption) rfl (.inl rfl) ?_ | refine xs_set (i := 0) (by assumption) rfl (.inr rfl) ?_ | refine xs_set (i := 1) (by assumption) rfl (.inl rfl) ?_ | refine xs_set (i := 1) (by assumption) rfl (.inr rfl) ?_)) | ((with_reducible show XS _ _ (Stmt.Assign [Expr.Name (Str.ofString "places") _] _ _) _ _); (first | refine xs_set (i := 1) (by assumption) rfl (.inl rfl) ?_ | refine xs_set (i := 1) (by assumption) rfl (.inr rfl) ?_ | refine xs_set (i := 2) (by assumption) rfl (.inl rfl) ?_ | refine xs_set (i := 2) (by assumption) rfl (.inr rfl) ?_)) | ((with_reducible show XS _ _ (Stmt.Assign [Expr.Name (Str.ofString "met") _] _ _) _ _); (first | refine xs_set (i := 2) (by assumption) rfl (.inl rfl) ?_ | refine xs_set (i := 2) (by assumption) rfl (.inr rfl) ?_)) | ((with_reducible show XS _ _ (Stmt.Assign [Expr.Name (Str.ofString "later") _] _ _) _ _); (first | refine xs_set (i := 2) (by assumption) rfl (.inl rfl) ?_ | refine xs_set (i := 2) (by assumption) rfl (.inr rfl) ?_ | refine xs_set (i := 3) (by assumption) rfl (.inl rfl) ?_ | refine xs_set (i := 3) (by assumption) rfl (.inr rfl) ?_)) | ((with_reducible show XS _ _ (Stmt.Assign [Expr.Name (Str.ofString "tie") _] _ _) _ _); (first | refine xs_set (i := 3) (by assumption) rfl (.inl rfl) ?_ | refine xs_set (i := 3) (by assumption) rfl (.inr rfl) ?_ | refine xs_set (i := 4) (by assumption) rfl (.inl rfl) ?_ | refine xs_set (i := 4) (by assumption) rfl (.inr rfl) ?_)) | ((with_reducible show XS _ _ (Stmt.Assign [Expr.Name (Str.ofString "text") _] _ _) _ _); (first | refine xs_set (i := 0) (by assumption) rfl (.inl rfl) ?_ | refine xs_set (i := 0) (by assumption) rfl (.inr rfl) ?_ | refine xs_set (i := 1) (by assumption) rfl (.inl rfl) ?_ | refine xs_set (i := 1) (by assumption) rfl (.inr rfl) ?_)) | ((with_reducible show XS _ _ (Stmt.Assign [Expr.Name (Str.ofString "cls") _] _ _) _ _); (first | refine xs_set (i := 0) (by assumption) rfl (.inl rfl) ?_ | refine xs_set (i := 0) (by assumption) rfl (.inr rfl) ?_)) | ((with_reducible show XS _ _ (Stmt.Assign [Expr.Name (Str.ofString "found") _] _ _) _ _); (first | refine xs_set (i := 2) (by assumption) rfl (.inl rfl) ?_ | refine xs_set (i := 2) (by assumption) rfl (.inr rfl) ?_)) | ((with_reducible show XS _ _ (Stmt.Assign [Expr.Name (Str.ofString "place") _] _ _) _ _); (first | refine xs_set (i := 1) (by assumption) rfl (.inl rfl) ?_ | refine xs_set (i := 1) (by assumption) rfl (.inr rfl) ?_ | refine xs_set (i := 2) (by assumption) rfl (.inl rfl) ?_ | refine xs_set (i := 2) (by assumption) rfl (.inr rfl) ?_)) | ((with_reducible show XS _ _ (Stmt.Assign [Expr.Name (Str.ofString "pair") _] _ _) _ _); (first | refine xs_set (i := 1) (by assumption) rfl (.inl rfl) ?_ | refine xs_set (i := 1) (by assumption) rfl (.inr rfl) ?_)) | ((with_reducible show XS _ _ (Stmt.Assign [Expr.Name (Str.ofString "left") _] _ _) _ _); (first | refine xs_set (i := 1) (by assumption) rfl (.inl rfl) ?_ | refine xs_set (i := 1) (by assumption) rfl (.inr rfl) ?_ | refine xs_set (i := 2) (by assumption) rfl (.inl rfl) ?_ | refine xs_set (i := 2) (by assumption) rfl (.inr rfl) ?_)) | ((with_reducible show XS _ _ (Stmt.Assign [Expr.Name (Str.ofString "web") _] _ _) _ _); (first | refine xs_set (i := 0) (by assumption) rfl (.inl rfl) ?_ | refine xs_set (i := 0) (by assumption) rfl (.inr rfl) ?_)) | ((with_reducible show XS _ _ (Stmt.Assign [Expr.Name (Str.ofString "arrows") _] _ _) _ _); (first | refine xs_set (i := 0) (by assumption) rfl (.inl rfl) ?_ | refine xs_set (i := 0) (by assumption) rfl (.inr rfl) ?_ | refine xs_set (i := 1) (by assumption) rfl (.inl rfl) ?_ | refine xs_set (i := 1) (by assumption) rfl (.inr rfl) ?_)) | ((with_reducible show XS _ _ (Stmt.Assign [Expr.Name (Str.ofString "arrow") _] _ _) _ _); (first | refine xs_set (i := 1) (by assumption) rfl (.inl rfl) ?_ | refine xs_set (i := 1) (by assumption) rfl (.inr rfl) ?_ | refine xs_set (i := 2) (by assumption) rfl (.inl rfl) ?_ | refine xs_set (i := 2) (by assumption) rfl (.inr rfl) ?_ | refine xs_set (i := 3) (by assumption) rfl (.inl rfl) ?_ | refine xs_set (i := 3) (by assumption) rfl (.inr rfl) ?_)) | ((with_reducible show XS _ _ (Stmt.Assign [Expr.Name (Str.ofString "row") _] _ _) _ _); (first | refine xs_set (i := 1) (by assumption) rfl (.inl rfl) ?_ | refine xs_set (i := 1) (by assumption) rfl (.inr rfl) ?_)) | ((with_reducible show XS _ _ (Stmt.Assign [Expr.Name (Str.ofString "here") _] _ _) _ _); (first | refine xs_set (i := 3) (by assumption) rfl (.inl rfl) ?_ | refine xs_set (i := 3) (by assumption) rfl (.inr rfl) ?_)) | ((with_reducible show XS _ _ (Stmt.Assign [Expr.Name (Str.ofString "way") _] _ _) _ _); (first | refine xs_set (i := 0) (by assumption) rfl (.inl rfl) ?_ | refine xs_set (i := 0) (by assumption) rfl (.inr rfl) ?_)) | ((with_reducible show XS _ _ (Stmt.Assign [Expr.Name (Str.ofString "slip") _] _ _) _ _); (first | refine xs_set (i := 2) (by assumption) rfl (.inl rfl) ?_ | refine xs_set (i := 2) (by assumption) rfl (.inr rfl) ?_)) | ((with_reducible show XS _ _ (Stmt.Assign [Expr.Name (Str.ofString "_law_script") _] _ _) _ _); (first | refine xs_set (i := 0) (by assumption) rfl (.inl rfl) ?_ | refine xs_set (i := 0) (by assumption) rfl (.inr rfl) ?_)) | ((with_reducible show XS _ _ (Stmt.Assign [Expr.Name (Str.ofString "_law_k") _] _ _) _ _); (first | refine xs_set (i := 1) (by assumption) rfl (.inl rfl) ?_ | refine xs_set (i := 1) (by assumption) rfl (.inr rfl) ?_ | refine xs_set (i := 2) (by assumption) rfl (.inl rfl) ?_ | refine xs_set (i := 2) (by assumption) rfl (.inr rfl) ?_ | refine xs_set (i := 4) (by assumption) rfl (.inl rfl) ?_ | refine xs_set (i := 4) (by assumption) rfl (.inr rfl) ?_ | refine xs_set (i := 5) (by assumption) rfl (.inl rfl) ?_ | refine xs_set (i := 5) (by assumption) rfl (.inr rfl) ?_)) | ((with_reducible show XS _ _ (Stmt.Assign [Expr.Name (Str.ofString "_law_churned") _] _ _) _ _); (first | refine xs_set (i := 2) (by assumption) rfl (.inl rfl) ?_ | refine xs_set (i := 2) (by assumption) rfl (.inr rfl) ?_)) | ((with_reducible show XS _ _ (Stmt.Assign [Expr.Name (Str.ofString "_law_cell") _] _ _) _ _); (first | refine xs_set (i := 3) (by assumption) rfl (.inl rfl) ?_ | refine xs_set (i := 3) (by assumption) rfl (.inr rfl) ?_)) | ((with_reducible show XS _ _ (Stmt.Assign [Expr.Name (Str.ofString "_law_base") _] _ _) _ _); (first | refine xs_set (i := 4) (by assumption) rfl (.inl rfl) ?_ | refine xs_set (i := 4) (by assumption) rfl (.inr rfl) ?_)) | ((with_reducible show XS _ _ (Stmt.Assign [Expr.Name (Str.ofString "_law_digits") _] _ _) _ _); (first | refine xs_set (i := 5) (by assumption) rfl (.inl rfl) ?_ | refine xs_set (i := 5) (by assumption) rfl (.inr rfl) ?_)) | ((with_reducible show XS _ _ (Stmt.Assign [Expr.Name (Str.ofString "_law_jar_here") _] _ _) _ _); (first | refine xs_set (i := 0) (by assumption) rfl (.inl rfl) ?_ | refine xs_set (i := 0) (by assumption) rfl (.inr rfl) ?_)) | ((with_reducible show XS _ _ (Stmt.Assign [Expr.Name (Str.ofString "_law_wide") _] _ _) _ _); (first | refine xs_set (i := 1) (by assumption) rfl (.inl rfl) ?_ | refine xs_set (i := 1) (by assumption) rfl (.inr rfl) ?_)) | ((with_reducible show XS _ _ (Stmt.Assign [Expr.Name (Str.ofString "_law_digit") _] _ _) _ _); (first | refine xs_set (i := 2) (by assumption) rfl (.inl rfl) ?_ | refine xs_set (i := 2) (by assumption) rfl (.inr rfl) ?_)) | ((with_reducible show XS _ _ (Stmt.Assign [Expr.Name (Str.ofString "_law_seed") _] _ _) _ _); (first | refine xs_set (i := 3) (by assumption) rfl (.inl rfl) ?_ | refine xs_set (i := 3) (by assumption) rfl (.inr rfl) ?_)) | ((with_reducible show XS _ _ (Stmt.Assign [Expr.Name (Str.ofString "_law_menu") _] _ _) _ _); (first | refine xs_set (i := 1) (by assumption) rfl (.inl rfl) ?_ | refine xs_set (i := 1) (by assumption) rfl (.inr rfl) ?_)) | ((with_reducible show XS _ _ (Stmt.Assign [Expr.Name (Str.ofString "_law_at") _] _ _) _ _); (first | refine xs_set (i := 2) (by assumption) rfl (.inl rfl) ?_ | refine xs_set (i := 2) (by assumption) rfl (.inr rfl) ?_ | refine xs_set (i := 8) (by assumption) rfl (.inl rfl) ?_ | refine xs_set (i := 8) (by assumption) rfl (.inr rfl) ?_)) | ((with_reducible show XS _ _ (Stmt.Assign [Expr.Name (Str.ofString "_law_many") _] _ _) _ _); (first | refine xs_set (i := 1) (by assumption) rfl (.inl rfl) ?_ | refine xs_set (i := 1) (by assumption) rfl (.inr rfl) ?_ | refine xs_set (i := 2) (by assumption) rfl (.inl rfl) ?_ | refine xs_set (i := 2) (by assumption) rfl (.inr rfl) ?_)) | ((with_reducible show XS _ _ (Stmt.Assign [Expr.Name (Str.ofString "_law_rest") _] _ _) _ _); (first | refine xs_set (i := 2) (by assumption) rfl (.inl rfl) ?_ | refine xs_set (i := 2) (by assumption) rfl (.inr rfl) ?_ | refine xs_set (i := 3) (by assumption) rfl (.inl rfl) ?_ | refine xs_set (i := 3) (by assumption) rfl (.inr rfl) ?_)) | ((with_reducible show XS _ _ (Stmt.Assign [Expr.Name (Str.ofString "_law_found") _] _ _) _ _); (first | refine xs_set (i := 1) (by assumption) rfl (.inl rfl) ?_ | refine xs_set (i := 1) (by assumption) rfl (.inr rfl) ?_ | refine xs_set (i := 3) (by assumption) rfl (.inl rfl) ?_ | refine xs_set (i := 3) (by assumption) rfl (.inr rfl) ?_ | refine xs_set (i := 4) (by assumption) rfl (.inl rfl) ?_ | refine xs_set (i := 4) (by assumption) rfl (.inr rfl) ?_)) | ((with_reducible show XS _ _ (Stmt.Assign [Expr.Name (Str.ofString "_law_one") _] _ _) _ _); (first | refine xs_set (i := 0) (by assumption) rfl (.inl rfl) ?_ | refine xs_set (i := 0) (by assumption) rfl (.inr rfl) ?_ | refine xs_set (i := 7) (by assumption) rfl (.inl rfl) ?_ | refine xs_set (i := 7) (by assumption) rfl (.inr rfl) ?_)) | ((with_reducible show XS _ _ (Stmt.Assign [Expr.Name (Str.ofString "_law_other") _] _ _) _ _); (first | refine xs_set (i := 1) (by assumption) rfl (.inl rfl) ?_ | refine xs_set (i := 1) (by assumption) rfl (.inr rfl) ?_ | refine xs_set (i := 10) (by assumption) rfl (.inl rfl) ?_ | refine xs_set (i := 10) (by assumption) rfl (.inr rfl) ?_)) | ((with_reducible show XS _ _ (Stmt.Assign [Expr.Name (Str.ofString "_law_most") _] _ _) _ _); (first | refine xs_set (i := 1) (by assumption) rfl (.inl rfl) ?_ | refine xs_set (i := 1) (by assumption) rfl (.inr rfl) ?_ | refine xs_set (i := 2) (by assumption) rfl (.inl rfl) ?_ | refine xs_set (i := 2) (by assumption) rfl (.inr rfl) ?_)) | ((with_reducible show XS _ _ (Stmt.Assign [Expr.Name (Str.ofString "_law_glyphs") _] _ _) _ _); (first | refine xs_set (i := 2) (by assumption) rfl (.inl rfl) ?_ | refine xs_set (i := 2) (by assumption) rfl (.inr rfl) ?_ | refine xs_set (i := 3) (by assumption) rfl (.inl rfl) ?_ | refine xs_set (i := 3) (by assumption) rfl (.inr rfl) ?_ | refine xs_set (i := 4) (by assumption) rfl (.inl rfl) ?_ | refine xs_set (i := 4) (by assumption) rfl (.inr rfl) ?_)) | ((with_reducible show XS _ _ (Stmt.Assign [Expr.Name (Str.ofString "_law_every") _] _ _) _ _); (first | refine xs_set (i := 6) (by assumption) rfl (.inl rfl) ?_ | refine xs_set (i := 6) (by assumption) rfl (.inr rfl) ?_)) | ((with_reducible show XS _ _ (Stmt.Assign [Expr.Name (Str.ofString "_law_turn") _] _ _) _ _); (first | refine xs_set (i := 1) (by assumption) rfl (.inl rfl) ?_ | refine xs_set (i := 1) (by assumption) rfl (.inr rfl) ?_ | refine xs_set (i := 5) (by assumption) rfl (.inl rfl) ?_ | refine xs_set (i := 5) (by assumption) rfl (.inr rfl) ?_ | refine xs_set (i := 8) (by assumption) rfl (.inl rfl) ?_ | refine xs_set (i := 8) (by assumption) rfl (.inr rfl) ?_)) | ((with_reducible show XS _ _ (Stmt.Assign [Expr.Name (Str.ofString "_law_tie") _] _ _) _ _); (first | refine xs_set (i := 5) (by assumption) rfl (.inl rfl) ?_ | refine xs_set (i := 5) (by assumption) rfl (.inr rfl) ?_ | refine xs_set (i := 9) (by assumption) rfl (.inl rfl) ?_ | refine xs_set (i := 9) (by assumption) rfl (.inr rfl) ?_)) | ((with_reducible show XS _ _ (Stmt.Assign [Expr.Name (Str.ofString "_law_ties_here") _] _ _) _ _); (first | refine xs_set (i := 0) (by assumption) rfl (.inl rfl) ?_ | refine xs_set (i := 0) (by assumption) rfl (.inr rfl) ?_ | refine xs_set (i := 1) (by assumption) rfl (.inl rfl) ?_ | refine xs_set (i := 1) (by assumption) rfl (.inr rfl) ?_ | refine xs_set (i := 2) (by assumption) rfl (.inl rfl) ?_ | refine xs_set (i := 2) (by assumption) rfl (.inr rfl) ?_)) | ((with_reducible show XS _ _ (Stmt.Assign [Expr.Name (Str.ofString "_law_order") _] _ _) _ _); (first | refine xs_set (i := 4) (by assumption) rfl (.inl rfl) ?_ | refine xs_set (i := 4) (by assumption) rfl (.inr rfl) ?_)) | ((with_reducible show XS _ _ (Stmt.Assign [Expr.Name (Str.ofString "_law_e") _] _ _) _ _); (first | refine xs_set (i := 0) (by assumption) rfl (.inl rfl) ?_ | refine xs_set (i := 0) (by assumption) rfl (.inr rfl) ?_ | refine xs_set (i := 2) (by assumption) rfl (.inl rfl) ?_ | refine xs_set (i := 2) (by assumption) rfl (.inr rfl) ?_)) | ((with_reducible show XS _ _ (Stmt.Assign [Expr.Name (Str.ofString "_law_act") _] _ _) _ _); (first | refine xs_set (i := 0) (by assumption) rfl (.inl rfl) ?_ | refine xs_set (i := 0) (by assumption) rfl (.inr rfl) ?_)) | ((with_reducible show XS _ _ (Stmt.Assign [Expr.Name (Str.ofString "_law_told") _] _ _) _ _); (first | refine xs_set (i := 1) (by assumption) rfl (.inl rfl) ?_ | refine xs_set (i := 1) (by assumption) rfl (.inr rfl) ?_ | refine xs_set (i := 4) (by assumption) rfl (.inl rfl) ?_ | refine xs_set (i := 4) (by assumption) rfl (.inr rfl) ?_ | refine xs_set (i := 11) (by assumption) rfl (.inl rfl) ?_ | refine xs_set (i := 11) (by assumption) rfl (.inr rfl) ?_)) | ((with_reducible show XS _ _ (Stmt.Assign [Expr.Name (Str.ofString "_law_arrows_here") _] _ _) _ _); (first | refine xs_set (i := 0) (by assumption) rfl (.inl rfl) ?_ | refine xs_set (i := 0) (by assumption) rfl (.inr rfl) ?_ | refine xs_set (i := 1) (by assumption) rfl (.inl rfl) ?_ | refine xs_set (i := 1) (by assumption) rfl (.inr rfl) ?_ | refine xs_set (i := 4) (by assumption) rfl (.inl rfl) ?_ | refine xs_set (i := 4) (by assumption) rfl (.inr rfl) ?_)) | ((with_reducible show XS _ _ (Stmt.Assign [Expr.Name (Str.ofString "_law_glyph") _] _ _) _ _); (first | refine xs_set (i := 1) (by assumption) rfl (.inl rfl) ?_ | refine xs_set (i := 1) (by assumption) rfl (.inr rfl) ?_ | refine xs_set (i := 2) (by assumption) rfl (.inl rfl) ?_ | refine xs_set (i := 2) (by assumption) rfl (.inr rfl) ?_ | refine xs_set (i := 6) (by assumption) rfl (.inl rfl) ?_ | refine xs_set (i := 6) (by assumption) rfl (.inr rfl) ?_ | refine xs_set (i := 12) (by assumption) rfl (.inl rfl) ?_ | refine xs_set (i := 12) (by assumption) rfl (.inr rfl) ?_)) | ((with_reducible show XS _ _ (Stmt.Assign [Expr.Name (Str.ofString "_law_arrow") _] _ _) _ _); (first | refine xs_set (i := 2) (by assumption) rfl (.inl rfl) ?_ | refine xs_set (i := 2) (by assumption) rfl (.inr rfl) ?_ | refine xs_set (i := 7) (by assumption) rfl (.inl rfl) ?_ | refine xs_set (i := 7) (by assumption) rfl (.inr rfl) ?_)) | ((with_reducible show XS _ _ (Stmt.Assign [Expr.Name (Str.ofString "_law_row") _] _ _) _ _); (first | refine xs_set (i := 1) (by assumption) rfl (.inl rfl) ?_ | refine xs_set (i := 1) (by assumption) rfl (.inr rfl) ?_ | refine xs_set (i := 3) (by assumption) rfl (.inl rfl) ?_ | refine xs_set (i := 3) (by assumption) rfl (.inr rfl) ?_ | refine xs_set (i := 7) (by assumption) rfl (.inl rfl) ?_ | refine xs_set (i := 7) (by assumption) rfl (.inr rfl) ?_)) | ((with_reducible show XS _ _ (Stmt.Assign [Expr.Name (Str.ofString "_law_each") _] _ _) _ _); (first | refine xs_set (i := 7) (by assumption) rfl (.inl rfl) ?_ | refine xs_set (i := 7) (by assumption) rfl (.inr rfl) ?_)) | ((with_reducible show XS _ _ (Stmt.Assign [Expr.Name (Str.ofString "_law_sorts") _] _ _) _ _); (first | refine xs_set (i := 1) (by assumption) rfl (.inl rfl) ?_ | refine xs_set (i := 1) (by assumption) rfl (.inr rfl) ?_)) | ((with_reducible show XS _ _ (Stmt.Assign [Expr.Name (Str.ofString "_law_mine") _] _ _) _ _); (first | refine xs_set (i := 0) (by assumption) rfl (.inl rfl) ?_ | refine xs_set (i := 0) (by assumption) rfl (.inr rfl) ?_ | refine xs_set (i := 5) (by assumption) rfl (.inl rfl) ?_ | refine xs_set (i := 5) (by assumption) rfl (.inr rfl) ?_)) | ((with_reducible show XS _ _ (Stmt.Assign [Expr.Name (Str.ofString "_law_fresh") _] _ _) _ _); (first | refine xs_set (i := 3) (by assumption) rfl (.inl rfl) ?_ | refine xs_set (i := 3) (by assumption) rfl (.inr rfl) ?_)) | ((with_reducible show XS _ _ (Stmt.Assign [Expr.Name (Str.ofString "_law_takes_here") _] _ _) _ _); (first | refine xs_set (i := 5) (by assumption) rfl (.inl rfl) ?_ | refine xs_set (i := 5) (by assumption) rfl (.inr rfl) ?_)) | ((with_reducible show XS _ _ (Stmt.Assign [Expr.Name (Str.ofString "_law_due") _] _ _) _ _); (first | refine xs_set (i := 6) (by assumption) rfl (.inl rfl) ?_ | refine xs_set (i := 6) (by assumption) rfl (.inr rfl) ?_ | refine xs_set (i := 10) (by assumption) rfl (.inl rfl) ?_ | refine xs_set (i := 10) (by assumption) rfl (.inr rfl) ?_)) | ((with_reducible show XS _ _ (Stmt.Assign [Expr.Name (Str.ofString "_law_again") _] _ _) _ _); (first | refine xs_set (i := 6) (by assumption) rfl (.inl rfl) ?_ | refine xs_set (i := 6) (by assumption) rfl (.inr rfl) ?_)) | ((with_reducible show XS _ _ (Stmt.Assign [Expr.Name (Str.ofString "_law_bent") _] _ _) _ _); (first | refine xs_set (i := 9) (by assumption) rfl (.inl rfl) ?_ | refine xs_set (i := 9) (by assumption) rfl (.inr rfl) ?_)))
local macro_rules | `(tactic| walk_at "xgn") => `(tactic| first | ((with_reducible show XG _ _ (Expr.Name (Str.ofString "k") _) _ _ _); (first | refine xg_name (i := 0) (by assumption) rfl (.inl rfl) ?_ | refine xg_name (i := 0) (by assumption) rfl (.inr rfl) ?_)) | ((with_reducible show XG _ _ (Expr.Name (Str.ofString "self") _) _ _ _); (first | refine xg_name (i := 0) (by assumption) rfl (.inl rfl) ?_ | refine xg_name (i := 0) (by assumption) rfl (.inr rfl) ?_)) | ((with_reducible show XG _ _ (Expr.Name (Str.ofString "given") _) _ _ _); (first | refine xg_name (i := 1) (by assumption) rfl (.inl rfl) ?_ | refine xg_name (i := 1) (by assumption) rfl (.inr rfl) ?_)) | ((with_reducible show XG _ _ (Expr.Name (Str.ofString "index") _) _ _ _); (first | refine xg_name (i := 1) (by assumption) rfl (.inl rfl) ?_ | refine xg_name (i := 1) (by assumption) rfl (.inr rfl) ?_ | refine xg_name (i := 2) (by assumption) rfl (.inl rfl) ?_ | refine xg_name (i := 2) (by assumption) rfl (.inr rfl) ?_ | refine xg_name (i := 4) (by assumption) rfl (.inl rfl) ?_ | refine xg_name (i := 4) (by assumption) rfl (.inr rfl) ?_)) | ((with_reducible show XG _ _ (Expr.Name (Str.ofString "value") _) _ _ _); (first | refine xg_name (i := 0) (by assumption) rfl (.inl rfl) ?_ | refine xg_name (i := 0) (by assumption) rfl (.inr rfl) ?_ | refine xg_name (i := 1) (by assumption) rfl (.inl rfl) ?_ | refine xg_name (i := 1) (by assumption) rfl (.inr rfl) ?_)) | ((with_reducible show XG _ _ (Expr.Name (Str.ofString "one") _) _ _ _); (first | refine xg_name (i := 0) (by assumption) rfl (.inl rfl) ?_ | refine xg_name (i := 0) (by assumption) rfl (.inr rfl) ?_ | refine xg_name (i := 1) (by assumption) rfl (.inl rfl) ?_ | refine xg_name (i := 1) (by assumption) rfl (.inr rfl) ?_)) | ((with_reducible show XG _ _ (Expr.Name (Str.ofString "other") _) _ _ _); (first | refine xg_name (i := 1) (by assumption) rfl (.inl rfl) ?_ | refine xg_name (i := 1) (by assumption) rfl (.inr rfl) ?_ | refine xg_name (i := 2) (by assumption) rfl (.inl rfl) ?_ | refine xg_name (i := 2) (by assumption) rfl (.inr rfl) ?_ | refine xg_name (i := 4) (by assumption) rfl (.inl rfl) ?_ | refine xg_name (i := 4) (by assumption) rfl (.inr rfl) ?_)) | ((with_reducible show XG _ _ (Expr.Name (Str.ofString "ties") _) _ _ _); (first | refine xg_name (i := 0) (by assumption) rfl (.inl rfl) ?_ | refine xg_name (i := 0) (by assumption) rfl (.inr rfl) ?_ | refine xg_name (i := 1) (by assumption) rfl (.inl rfl) ?_ | refine xg_name (i := 1) (by assumption) rfl (.inr rfl) ?_)) | ((with_reducible show XG _ _ (Expr.Name (Str.ofString "places") _) _ _ _); (first | refine xg_name (i := 1) (by assumption) rfl (.inl rfl) ?_ | refine xg_name (i := 1) (by assumption) rfl (.inr rfl) ?_ | refine xg_name (i := 2) (by assumption) rfl (.inl rfl) ?_ | refine xg_name (i := 2) (by assumption) rfl (.inr rfl) ?_)) | ((with_reducible show XG _ _ (Expr.Name (Str.ofString "met") _) _ _ _); (first | refine xg_name (i := 2) (by assumption) rfl (.inl rfl) ?_ | refine xg_name (i := 2) (by assumption) rfl (.inr rfl) ?_)) | ((with_reducible show XG _ _ (Expr.Name (Str.ofString "later") _) _ _ _); (first | refine xg_name (i := 2) (by assumption) rfl (.inl rfl) ?_ | refine xg_name (i := 2) (by assumption) rfl (.inr rfl) ?_ | refine xg_name (i := 3) (by assumption) rfl (.inl rfl) ?_ | refine xg_name (i := 3) (by assumption) rfl (.inr rfl) ?_)) | ((with_reducible show XG _ _ (Expr.Name (Str.ofString "tie") _) _ _ _); (first | refine xg_name (i := 3) (by assumption) rfl (.inl rfl) ?_ | refine xg_name (i := 3) (by assumption) rfl (.inr rfl) ?_ | refine xg_name (i := 4) (by assumption) rfl (.inl rfl) ?_ | refine xg_name (i := 4) (by assumption) rfl (.inr rfl) ?_)) | ((with_reducible show XG _ _ (Expr.Name (Str.ofString "text") _) _ _ _); (first | refine xg_name (i := 0) (by assumption) rfl (.inl rfl) ?_ | refine xg_name (i := 0) (by assumption) rfl (.inr rfl) ?_ | refine xg_name (i := 1) (by assumption) rfl (.inl rfl) ?_ | refine xg_name (i := 1) (by assumption) rfl (.inr rfl) ?_)) | ((with_reducible show XG _ _ (Expr.Name (Str.ofString "cls") _) _ _ _); (first | refine xg_name (i := 0) (by assumption) rfl (.inl rfl) ?_ | refine xg_name (i := 0) (by assumption) rfl (.inr rfl) ?_)) | ((with_reducible show XG _ _ (Expr.Name (Str.ofString "found") _) _ _ _); (first | refine xg_name (i := 2) (by assumption) rfl (.inl rfl) ?_ | refine xg_name (i := 2) (by assumption) rfl (.inr rfl) ?_)) | ((with_reducible show XG _ _ (Expr.Name (Str.ofString "place") _) _ _ _); (first | refine xg_name (i := 1) (by assumption) rfl (.inl rfl) ?_ | refine xg_name (i := 1) (by assumption) rfl (.inr rfl) ?_ | refine xg_name (i := 2) (by assumption) rfl (.inl rfl) ?_ | refine xg_name (i := 2) (by assumption) rfl (.inr rfl) ?_)) | ((with_reducible show XG _ _ (Expr.Name (Str.ofString "pair") _) _ _ _); (first | refine xg_name (i := 1) (by assumption) rfl (.inl rfl) ?_ | refine xg_name (i := 1) (by assumption) rfl (.inr rfl) ?_)) | ((with_reducible show XG _ _ (Expr.Name (Str.ofString "left") _) _ _ _); (first | refine xg_name (i := 1) (by assumption) rfl (.inl rfl) ?_ | refine xg_name (i := 1) (by assumption) rfl (.inr rfl) ?_ | refine xg_name (i := 2) (by assumption) rfl (.inl rfl) ?_ | refine xg_name (i := 2) (by assumption) rfl (.inr rfl) ?_)) | ((with_reducible show XG _ _ (Expr.Name (Str.ofString "web") _) _ _ _); (first | refine xg_name (i := 0) (by assumption) rfl (.inl rfl) ?_ | refine xg_name (i := 0) (by assumption) rfl (.inr rfl) ?_)) | ((with_reducible show XG _ _ (Expr.Name (Str.ofString "arrows") _) _ _ _); (first | refine xg_name (i := 0) (by assumption) rfl (.inl rfl) ?_ | refine xg_name (i := 0) (by assumption) rfl (.inr rfl) ?_ | refine xg_name (i := 1) (by assumption) rfl (.inl rfl) ?_ | refine xg_name (i := 1) (by assumption) rfl (.inr rfl) ?_)) | ((with_reducible show XG _ _ (Expr.Name (Str.ofString "arrow") _) _ _ _); (first | refine xg_name (i := 1) (by assumption) rfl (.inl rfl) ?_ | refine xg_name (i := 1) (by assumption) rfl (.inr rfl) ?_ | refine xg_name (i := 2) (by assumption) rfl (.inl rfl) ?_ | refine xg_name (i := 2) (by assumption) rfl (.inr rfl) ?_ | refine xg_name (i := 3) (by assumption) rfl (.inl rfl) ?_ | refine xg_name (i := 3) (by assumption) rfl (.inr rfl) ?_)) | ((with_reducible show XG _ _ (Expr.Name (Str.ofString "row") _) _ _ _); (first | refine xg_name (i := 1) (by assumption) rfl (.inl rfl) ?_ | refine xg_name (i := 1) (by assumption) rfl (.inr rfl) ?_)) | ((with_reducible show XG _ _ (Expr.Name (Str.ofString "here") _) _ _ _); (first | refine xg_name (i := 3) (by assumption) rfl (.inl rfl) ?_ | refine xg_name (i := 3) (by assumption) rfl (.inr rfl) ?_)) | ((with_reducible show XG _ _ (Expr.Name (Str.ofString "way") _) _ _ _); (first | refine xg_name (i := 0) (by assumption) rfl (.inl rfl) ?_ | refine xg_name (i := 0) (by assumption) rfl (.inr rfl) ?_)) | ((with_reducible show XG _ _ (Expr.Name (Str.ofString "slip") _) _ _ _); (first | refine xg_name (i := 2) (by assumption) rfl (.inl rfl) ?_ | refine xg_name (i := 2) (by assumption) rfl (.inr rfl) ?_)) | ((with_reducible show XG _ _ (Expr.Name (Str.ofString "_law_script") _) _ _ _); (first | refine xg_name (i := 0) (by assumption) rfl (.inl rfl) ?_ | refine xg_name (i := 0) (by assumption) rfl (.inr rfl) ?_)) | ((with_reducible show XG _ _ (Expr.Name (Str.ofString "_law_k") _) _ _ _); (first | refine xg_name (i := 1) (by assumption) rfl (.inl rfl) ?_ | refine xg_name (i := 1) (by assumption) rfl (.inr rfl) ?_ | refine xg_name (i := 2) (by assumption) rfl (.inl rfl) ?_ | refine xg_name (i := 2) (by assumption) rfl (.inr rfl) ?_ | refine xg_name (i := 4) (by assumption) rfl (.inl rfl) ?_ | refine xg_name (i := 4) (by assumption) rfl (.inr rfl) ?_ | refine xg_name (i := 5) (by assumption) rfl (.inl rfl) ?_ | refine xg_name (i := 5) (by assumption) rfl (.inr rfl) ?_)) | ((with_reducible show XG _ _ (Expr.Name (Str.ofString "_law_churned") _) _ _ _); (first | refine xg_name (i := 2) (by assumption) rfl (.inl rfl) ?_ | refine xg_name (i := 2) (by assumption) rfl (.inr rfl) ?_)) | ((with_reducible show XG _ _ (Expr.Name (Str.ofString "_law_cell") _) _ _ _); (first | refine xg_name (i := 3) (by assumption) rfl (.inl rfl) ?_ | refine xg_name (i := 3) (by assumption) rfl (.inr rfl) ?_)) | ((with_reducible show XG _ _ (Expr.Name (Str.ofString "_law_base") _) _ _ _); (first | refine xg_name (i := 4) (by assumption) rfl (.inl rfl) ?_ | refine xg_name (i := 4) (by assumption) rfl (.inr rfl) ?_)) | ((with_reducible show XG _ _ (Expr.Name (Str.ofString "_law_digits") _) _ _ _); (first | refine xg_name (i := 5) (by assumption) rfl (.inl rfl) ?_ | refine xg_name (i := 5) (by assumption) rfl (.inr rfl) ?_)) | ((with_reducible show XG _ _ (Expr.Name (Str.ofString "_law_jar_here") _) _ _ _); (first | refine xg_name (i := 0) (by assumption) rfl (.inl rfl) ?_ | refine xg_name (i := 0) (by assumption) rfl (.inr rfl) ?_)) | ((with_reducible show XG _ _ (Expr.Name (Str.ofString "_law_wide") _) _ _ _); (first | refine xg_name (i := 1) (by assumption) rfl (.inl rfl) ?_ | refine xg_name (i := 1) (by assumption) rfl (.inr rfl) ?_)) | ((with_reducible show XG _ _ (Expr.Name (Str.ofString "_law_digit") _) _ _ _); (first | refine xg_name (i := 2) (by assumption) rfl (.inl rfl) ?_ | refine xg_name (i := 2) (by assumption) rfl (.inr rfl) ?_)) | ((with_reducible show XG _ _ (Expr.Name (Str.ofString "_law_seed") _) _ _ _); (first | refine xg_name (i := 3) (by assumption) rfl (.inl rfl) ?_ | refine xg_name (i := 3) (by assumption) rfl (.inr rfl) ?_)) | ((with_reducible show XG _ _ (Expr.Name (Str.ofString "_law_menu") _) _ _ _); (first | refine xg_name (i := 1) (by assumption) rfl (.inl rfl) ?_ | refine xg_name (i := 1) (by assumption) rfl (.inr rfl) ?_)) | ((with_reducible show XG _ _ (Expr.Name (Str.ofString "_law_at") _) _ _ _); (first | refine xg_name (i := 2) (by assumption) rfl (.inl rfl) ?_ | refine xg_name (i := 2) (by assumption) rfl (.inr rfl) ?_ | refine xg_name (i := 8) (by assumption) rfl (.inl rfl) ?_ | refine xg_name (i := 8) (by assumption) rfl (.inr rfl) ?_)) | ((with_reducible show XG _ _ (Expr.Name (Str.ofString "_law_many") _) _ _ _); (first | refine xg_name (i := 1) (by assumption) rfl (.inl rfl) ?_ | refine xg_name (i := 1) (by assumption) rfl (.inr rfl) ?_ | refine xg_name (i := 2) (by assumption) rfl (.inl rfl) ?_ | refine xg_name (i := 2) (by assumption) rfl (.inr rfl) ?_)) | ((with_reducible show XG _ _ (Expr.Name (Str.ofString "_law_rest") _) _ _ _); (first | refine xg_name (i := 2) (by assumption) rfl (.inl rfl) ?_ | refine xg_name (i := 2) (by assumption) rfl (.inr rfl) ?_ | refine xg_name (i := 3) (by assumption) rfl (.inl rfl) ?_ | refine xg_name (i := 3) (by assumption) rfl (.inr rfl) ?_)) | ((with_reducible show XG _ _ (Expr.Name (Str.ofString "_law_found") _) _ _ _); (first | refine xg_name (i := 1) (by assumption) rfl (.inl rfl) ?_ | refine xg_name (i := 1) (by assumption) rfl (.inr rfl) ?_ | refine xg_name (i := 3) (by assumption) rfl (.inl rfl) ?_ | refine xg_name (i := 3) (by assumption) rfl (.inr rfl) ?_ | refine xg_name (i := 4) (by assumption) rfl (.inl rfl) ?_ | refine xg_name (i := 4) (by assumption) rfl (.inr rfl) ?_)) | ((with_reducible show XG _ _ (Expr.Name (Str.ofString "_law_one") _) _ _ _); (first | refine xg_name (i := 0) (by assumption) rfl (.inl rfl) ?_ | refine xg_name (i := 0) (by assumption) rfl (.inr rfl) ?_ | refine xg_name (i := 7) (by assumption) rfl (.inl rfl) ?_ | refine xg_name (i := 7) (by assumption) rfl (.inr rfl) ?_)) | ((with_reducible show XG _ _ (Expr.Name (Str.ofString "_law_other") _) _ _ _); (first | refine xg_name (i := 1) (by assumption) rfl (.inl rfl) ?_ | refine xg_name (i := 1) (by assumption) rfl (.inr rfl) ?_ | refine xg_name (i := 10) (by assumption) rfl (.inl rfl) ?_ | refine xg_name (i := 10) (by assumption) rfl (.inr rfl) ?_)) | ((with_reducible show XG _ _ (Expr.Name (Str.ofString "_law_most") _) _ _ _); (first | refine xg_name (i := 1) (by assumption) rfl (.inl rfl) ?_ | refine xg_name (i := 1) (by assumption) rfl (.inr rfl) ?_ | refine xg_name (i := 2) (by assumption) rfl (.inl rfl) ?_ | refine xg_name (i := 2) (by assumption) rfl (.inr rfl) ?_)) | ((with_reducible show XG _ _ (Expr.Name (Str.ofString "_law_glyphs") _) _ _ _); (first | refine xg_name (i := 2) (by assumption) rfl (.inl rfl) ?_ | refine xg_name (i := 2) (by assumption) rfl (.inr rfl) ?_ | refine xg_name (i := 3) (by assumption) rfl (.inl rfl) ?_ | refine xg_name (i := 3) (by assumption) rfl (.inr rfl) ?_ | refine xg_name (i := 4) (by assumption) rfl (.inl rfl) ?_ | refine xg_name (i := 4) (by assumption) rfl (.inr rfl) ?_)) | ((with_reducible show XG _ _ (Expr.Name (Str.ofString "_law_every") _) _ _ _); (first | refine xg_name (i := 6) (by assumption) rfl (.inl rfl) ?_ | refine xg_name (i := 6) (by assumption) rfl (.inr rfl) ?_)) | ((with_reducible show XG _ _ (Expr.Name (Str.ofString "_law_turn") _) _ _ _); (first | refine xg_name (i := 1) (by assumption) rfl (.inl rfl) ?_ | refine xg_name (i := 1) (by assumption) rfl (.inr rfl) ?_ | refine xg_name (i := 5) (by assumption) rfl (.inl rfl) ?_ | refine xg_name (i := 5) (by assumption) rfl (.inr rfl) ?_ | refine xg_name (i := 8) (by assumption) rfl (.inl rfl) ?_ | refine xg_name (i := 8) (by assumption) rfl (.inr rfl) ?_)) | ((with_reducible show XG _ _ (Expr.Name (Str.ofString "_law_tie") _) _ _ _); (first | refine xg_name (i := 5) (by assumption) rfl (.inl rfl) ?_ | refine xg_name (i := 5) (by assumption) rfl (.inr rfl) ?_ | refine xg_name (i := 9) (by assumption) rfl (.inl rfl) ?_ | refine xg_name (i := 9) (by assumption) rfl (.inr rfl) ?_)) | ((with_reducible show XG _ _ (Expr.Name (Str.ofString "_law_ties_here") _) _ _ _); (first | refine xg_name (i := 0) (by assumption) rfl (.inl rfl) ?_ | refine xg_name (i := 0) (by assumption) rfl (.inr rfl) ?_ | refine xg_name (i := 1) (by assumption) rfl (.inl rfl) ?_ | refine xg_name (i := 1) (by assumption) rfl (.inr rfl) ?_ | refine xg_name (i := 2) (by assumption) rfl (.inl rfl) ?_ | refine xg_name (i := 2) (by assumption) rfl (.inr rfl) ?_)) | ((with_reducible show XG _ _ (Expr.Name (Str.ofString "_law_order") _) _ _ _); (first | refine xg_name (i := 4) (by assumption) rfl (.inl rfl) ?_ | refine xg_name (i := 4) (by assumption) rfl (.inr rfl) ?_)) | ((with_reducible show XG _ _ (Expr.Name (Str.ofString "_law_e") _) _ _ _); (first | refine xg_name (i := 0) (by assumption) rfl (.inl rfl) ?_ | refine xg_name (i := 0) (by assumption) rfl (.inr rfl) ?_ | refine xg_name (i := 2) (by assumption) rfl (.inl rfl) ?_ | refine xg_name (i := 2) (by assumption) rfl (.inr rfl) ?_)) | ((with_reducible show XG _ _ (Expr.Name (Str.ofString "_law_act") _) _ _ _); (first | refine xg_name (i := 0) (by assumption) rfl (.inl rfl) ?_ | refine xg_name (i := 0) (by assumption) rfl (.inr rfl) ?_)) | ((with_reducible show XG _ _ (Expr.Name (Str.ofString "_law_told") _) _ _ _); (first | refine xg_name (i := 1) (by assumption) rfl (.inl rfl) ?_ | refine xg_name (i := 1) (by assumption) rfl (.inr rfl) ?_ | refine xg_name (i := 4) (by assumption) rfl (.inl rfl) ?_ | refine xg_name (i := 4) (by assumption) rfl (.inr rfl) ?_ | refine xg_name (i := 11) (by assumption) rfl (.inl rfl) ?_ | refine xg_name (i := 11) (by assumption) rfl (.inr rfl) ?_)) | ((with_reducible show XG _ _ (Expr.Name (Str.ofString "_law_arrows_here") _) _ _ _); (first | refine xg_name (i := 0) (by assumption) rfl (.inl rfl) ?_ | refine xg_name (i := 0) (by assumption) rfl (.inr rfl) ?_ | refine xg_name (i := 1) (by assumption) rfl (.inl rfl) ?_ | refine xg_name (i := 1) (by assumption) rfl (.inr rfl) ?_ | refine xg_name (i := 4) (by assumption) rfl (.inl rfl) ?_ | refine xg_name (i := 4) (by assumption) rfl (.inr rfl) ?_)) | ((with_reducible show XG _ _ (Expr.Name (Str.ofString "_law_glyph") _) _ _ _); (first | refine xg_name (i := 1) (by assumption) rfl (.inl rfl) ?_ | refine xg_name (i := 1) (by assumption) rfl (.inr rfl) ?_ | refine xg_name (i := 2) (by assumption) rfl (.inl rfl) ?_ | refine xg_name (i := 2) (by assumption) rfl (.inr rfl) ?_ | refine xg_name (i := 6) (by assumption) rfl (.inl rfl) ?_ | refine xg_name (i := 6) (by assumption) rfl (.inr rfl) ?_ | refine xg_name (i := 12) (by assumption) rfl (.inl rfl) ?_ | refine xg_name (i := 12) (by assumption) rfl (.inr rfl) ?_)) | ((with_reducible show XG _ _ (Expr.Name (Str.ofString "_law_arrow") _) _ _ _); (first | refine xg_name (i := 2) (by assumption) rfl (.inl rfl) ?_ | refine xg_name (i := 2) (by assumption) rfl (.inr rfl) ?_ | refine xg_name (i := 7) (by assumption) rfl (.inl rfl) ?_ | refine xg_name (i := 7) (by assumption) rfl (.inr rfl) ?_)) | ((with_reducible show XG _ _ (Expr.Name (Str.ofString "_law_row") _) _ _ _); (first | refine xg_name (i := 1) (by assumption) rfl (.inl rfl) ?_ | refine xg_name (i := 1) (by assumption) rfl (.inr rfl) ?_ | refine xg_name (i := 3) (by assumption) rfl (.inl rfl) ?_ | refine xg_name (i := 3) (by assumption) rfl (.inr rfl) ?_ | refine xg_name (i := 7) (by assumption) rfl (.inl rfl) ?_ | refine xg_name (i := 7) (by assumption) rfl (.inr rfl) ?_)) | ((with_reducible show XG _ _ (Expr.Name (Str.ofString "_law_each") _) _ _ _); (first | refine xg_name (i := 7) (by assumption) rfl (.inl rfl) ?_ | refine xg_name (i := 7) (by assumption) rfl (.inr rfl) ?_)) | ((with_reducible show XG _ _ (Expr.Name (Str.ofString "_law_sorts") _) _ _ _); (first | refine xg_name (i := 1) (by assumption) rfl (.inl rfl) ?_ | refine xg_name (i := 1) (by assumption) rfl (.inr rfl) ?_)) | ((with_reducible show XG _ _ (Expr.Name (Str.ofString "_law_mine") _) _ _ _); (first | refine xg_name (i := 0) (by assumption) rfl (.inl rfl) ?_ | refine xg_name (i := 0) (by assumption) rfl (.inr rfl) ?_ | refine xg_name (i := 5) (by assumption) rfl (.inl rfl) ?_ | refine xg_name (i := 5) (by assumption) rfl (.inr rfl) ?_)) | ((with_reducible show XG _ _ (Expr.Name (Str.ofString "_law_fresh") _) _ _ _); (first | refine xg_name (i := 3) (by assumption) rfl (.inl rfl) ?_ | refine xg_name (i := 3) (by assumption) rfl (.inr rfl) ?_)) | ((with_reducible show XG _ _ (Expr.Name (Str.ofString "_law_takes_here") _) _ _ _); (first | refine xg_name (i := 5) (by assumption) rfl (.inl rfl) ?_ | refine xg_name (i := 5) (by assumption) rfl (.inr rfl) ?_)) | ((with_reducible show XG _ _ (Expr.Name (Str.ofString "_law_due") _) _ _ _); (first | refine xg_name (i := 6) (by assumption) rfl (.inl rfl) ?_ | refine xg_name (i := 6) (by assumption) rfl (.inr rfl) ?_ | refine xg_name (i := 10) (by assumption) rfl (.inl rfl) ?_ | refine xg_name (i := 10) (by assumption) rfl (.inr rfl) ?_)) | ((with_reducible show XG _ _ (Expr.Name (Str.ofString "_law_again") _) _ _ _); (first | refine xg_name (i := 6) (by assumption) rfl (.inl rfl) ?_ | refine xg_name (i := 6) (by assumption) rfl (.inr rfl) ?_)) | ((with_reducible show XG _ _ (Expr.Name (Str.ofString "_law_bent") _) _ _ _); (first | refine xg_name (i := 9) (by assumption) rfl (.inl rfl) ?_ | refine xg_name (i := 9) (by assumption) rfl (.inr rfl) ?_)))
local macro_rules | `(tactic| walk_at "xlit") => `(tactic| first | refine xe_lit lit_0 ?_ | refine xe_lit lit_1 ?_ | refine xe_lit lit_2 ?_ | refine xe_lit lit_3 ?_ | refine xe_lit lit_4 ?_ | refine xe_lit lit_5 ?_ | refine xe_lit lit_6 ?_ | refine xe_lit lit_7 ?_ | refine xe_lit lit_8 ?_)
local macro_rules | `(tactic| walk_at "xcb") => `(tactic| first | ((with_reducible show XE _ _ (Expr.Call (Expr.Name (Str.ofString "len") _) _ _ _) _ _); refine xe_callB rfl (by assumption : Bl _).len PySem.boot_len ?_) | ((with_reducible show XE _ _ (Expr.Call (Expr.Name (Str.ofString "min") _) _ _ _) _ _); refine xe_callB rfl (by assumption : Bl _).min PyProof.Rows.boot_min ?_) | ((with_reducible show XE _ _ (Expr.Call (Expr.Name (Str.ofString "max") _) _ _ _) _ _); refine xe_callB rfl (by assumption : Bl _).max PyProof.Rows.boot_max ?_) | ((with_reducible show XE _ _ (Expr.Call (Expr.Name (Str.ofString "sorted") _) _ _ _) _ _); refine xe_callB rfl (by assumption : Bl _).sorted PyProof.Rows.boot_sorted ?_) | ((with_reducible show XE _ _ (Expr.Call (Expr.Name (Str.ofString "abs") _) _ _ _) _ _); refine xe_callB rfl (by assumption : Bl _).abs PyProof.Rows.boot_abs ?_) | ((with_reducible show XE _ _ (Expr.Call (Expr.Name (Str.ofString "divmod") _) _ _ _) _ _); refine xe_callB rfl (by assumption : Bl _).divmod PyProof.Rows.boot_divmod ?_) | ((with_reducible show XE _ _ (Expr.Call (Expr.Name (Str.ofString "any") _) _ _ _) _ _); refine xe_callB rfl (by assumption : Bl _).any PyProof.Rows.boot_any ?_) | ((with_reducible show XE _ _ (Expr.Call (Expr.Name (Str.ofString "all") _) _ _ _) _ _); refine xe_callB rfl (by assumption : Bl _).all PyProof.Rows.boot_all ?_) | ((with_reducible show XE _ _ (Expr.Call (Expr.Name (Str.ofString "isinstance") _) _ _ _) _ _); refine xe_callB rfl (by assumption : Bl _).isinstance PyProof.Rows.boot_isinstance ?_) | ((with_reducible show XE _ _ (Expr.Call (Expr.Name (Str.ofString "set") _) _ _ _) _ _); refine xe_callTy rfl (by assumption : Bl _).set PyProof.Rows.boot_set ?_) | ((with_reducible show XE _ _ (Expr.Call (Expr.Name (Str.ofString "list") _) _ _ _) _ _); refine xe_callTy rfl (by assumption : Bl _).list PyProof.Rows.boot_list ?_) | ((with_reducible show XE _ _ (Expr.Call (Expr.Name (Str.ofString "tuple") _) _ _ _) _ _); refine xe_callTy rfl (by assumption : Bl _).tuple PyProof.Rows.boot_tuple ?_) | ((with_reducible show XE _ _ (Expr.Call (Expr.Name (Str.ofString "str") _) _ _ _) _ _); refine xe_callTy rfl (by assumption : Bl _).str PyProof.Rows.boot_str ?_) | ((with_reducible show XE _ _ (Expr.Call (Expr.Name (Str.ofString "int") _) _ _ _) _ _); refine xe_callTy rfl (by assumption : Bl _).int PyProof.Rows.boot_int ?_))
local macro_rules | `(tactic| walk_at "xty") => `(tactic| first | ((with_reducible show XE _ _ (Expr.Name (Str.ofString "str") _) _ _); refine xe_ty rfl (by assumption : Bl _).str PyProof.Rows.boot_str ?_) | ((with_reducible show XE _ _ (Expr.Name (Str.ofString "tuple") _) _ _); refine xe_ty rfl (by assumption : Bl _).tuple PyProof.Rows.boot_tuple ?_) | ((with_reducible show XE _ _ (Expr.Name (Str.ofString "int") _) _ _); refine xe_ty rfl (by assumption : Bl _).int PyProof.Rows.boot_int ?_) | ((with_reducible show XE _ _ (Expr.Name (Str.ofString "list") _) _ _); refine xe_ty rfl (by assumption : Bl _).list PyProof.Rows.boot_list ?_))
local macro_rules | `(tactic| walk_at "x1") => `(tactic| first | ((with_reducible show XA _ _ _ _ _); (first | refine xa_cons ?_ | refine xa_nil ?_)) | ((with_reducible show XKw _ _ _ _ _); (first | refine xk_cons ?_ | refine xk_nil ?_)) | ((with_reducible show XE _ _ (Expr.Constant _ _ _) _ _); (first | refine xe_int ?_ | walk_at "xlit" | refine xe_bl ?_ | refine xe_non ?_)) | ((with_reducible show XE _ _ (Expr.Name _ _) _ _); (first | walk_at "xty" | walk_at "xv" | refine xe_gs (by assumption) rfl ?_ | refine xe_gi (by assumption) rfl ?_ | refine xe_gc (by assumption) rfl ?_)) | ((with_reducible show XE _ _ (Expr.BinOp _ _ _ _) _ _); (first | refine xe_op ?_)) | ((with_reducible show XE _ _ (Expr.Compare _ _ _ _) _ _); (first | refine xe_cmp rfl ?_)) | ((with_reducible show XE _ _ (Expr.UnaryOp UnaryOp.Not _ _) _ _); (first | refine xe_not ?_)) | ((with_reducible show XE _ _ (Expr.UnaryOp UnaryOp.USub _ _) _ _); (first | refine xe_un ?_)) | ((with_reducible show XE _ _ (Expr.BoolOp _ _ _) _ _); (first | refine xe_one ?_ | refine xe_and ?_ | refine xe_or ?_)) | ((with_reducible show XE _ _ (Expr.IfExp _ _ _ _) _ _); (first | refine xe_if ?_)) | ((with_reducible show XE _ _ (Expr.Subscript _ _ _) _ _); (first | refine xe_revS ?_ | refine xe_slice ?_ | refine xe_ix ?_)) | ((with_reducible show XE _ _ (Expr.Tuple _ _ _) _ _); (first | refine xe_tup ?_)) | ((with_reducible show XE _ _ (Expr.List _ _) _ _); (first | refine xe_lst ?_)) | ((with_reducible show XE _ _ (Expr.Call (Expr.Name _ _) _ _ _) _ _); (first | walk_at "xcb" | refine xe_cp (by assumption) (by assumption) (by decide) rfl ?_ | refine xe_cj (by assumption) (by assumption) (by decide) rfl ?_ | refine xe_cu (by assumption) (by assumption) (by decide) rfl ?_ | refine xe_mkw (by assumption) (by assumption) (by decide) rfl ?_ | refine xe_mk (by assumption) (by assumption) (by decide) rfl ?_)) | ((with_reducible show XE _ _ (Expr.Dict [] [] _) _ _); (first | refine xe_dct0 ?_)) | ((with_reducible show XE _ _ (Expr.Call (Expr.Attribute (Expr.Name _ _) (Str.ofString "get") _) _ _ _) _ _); (first | refine xe_getI (by assumption) rfl ?_)) | ((with_reducible show XE _ _ (Expr.Call (Expr.Attribute _ (Str.ofString "join") _) _ _ _) _ _); (first | refine xe_ms PySem.F.slot_str_join PySem.F.type_str_join ?_)) | ((with_reducible show XE _ _ (Expr.Call (Expr.Attribute _ (Str.ofString "index") _) _ _ _) _ _); (first | refine xe_ms PySem.F.slot_str_index PySem.F.type_str_index ?_)) | ((with_reducible show XE _ _ (Expr.Call (Expr.Attribute _ (Str.ofString "split") _) _ _ _) _ _); (first | refine xe_ms PySem.F.slot_str_split PySem.F.type_str_split ?_)) | ((with_reducible show XE _ _ (Expr.Call (Expr.Attribute _ _ _) _ _ _) _ _); (first | refine xe_me (by assumption) (by assumption) (by decide) ?_ | refine xe_cm (by assumption) (by assumption) (by decide) ?_ | refine xe_mew (by assumption) (by assumption) (by decide) ?_ | refine xe_cmw (by assumption) (by assumption) (by decide) ?_)) | ((with_reducible show XE _ _ (Expr.Attribute _ _ _) _ _); (first | refine xe_pr (by assumption) (by assumption) (by decide) ?_ | refine xe_fld ?_)) | ((with_reducible show XO _ _ _ _ _); (first | refine xo_none ?_ | refine xo_some ?_)) | ((with_reducible show XT _ _ (Expr.UnaryOp UnaryOp.Not _ _) _ _); (first | refine xt_not ?_)) | ((with_reducible show XT _ _ (Expr.Compare _ _ _ _) _ _); (first | refine xt_cmp rfl ?_)) | ((with_reducible show XT _ _ (Expr.BoolOp _ _ _) _ _); (first | refine xt_w ?_)) | ((with_reducible show XT _ _ (_) _ _); (first | refine xt_val ?_)) | ((with_reducible show XW _ _ _ _ _); (first | refine xw_and1 ?_ | refine xw_and ?_ | refine xw_or1 ?_ | refine xw_or ?_)) | ((with_reducible show XTl _ _ _ _ _); (first | refine xtl_nil ?_ | refine xtl_one ?_)) | ((with_reducible show XB _ _ _ _ _); (first | refine xb_one ?_ | refine xb_cons ?_ | refine xb_nil ?_)) | ((with_reducible show XS _ _ (Stmt.Return _ _) _ _); (first | refine xs_ret ?_)) | ((with_reducible show XS _ _ (Stmt.If _ _ _ _) _ _); (first | refine xs_if ?_)) | ((with_reducible show XS _ _ (Stmt.Assign _ _ _) _ _); (first | walk_at "xset")) | ((with_reducible show XS _ _ (Stmt.Expr _ _) _ _); (first | refine xs_expr ?_)) | ((with_reducible show XS _ _ (Stmt.Pass _) _ _); (first | refine xs_pass ?_)))
local macro_rules | `(tactic| walk_at "xside") => `(tactic| first | assumption | exact (by decide) | (simp only [List.length_cons, List.length_nil, List.length_append, ch_len]; omega) | omega)
local macro_rules | `(tactic| walk_at "xo") => `(tactic| first | ((with_reducible show ite (_ = true) _ _); (first | with_reducible refine ite_tt ?_ | with_reducible refine ite_ff ?_ | refine ite_nt ?_ | refine ite_nf ?_)) | ((with_reducible show ∃ _, _ = _ ∧ _); refine ⟨_, rfl, ?_⟩) | ((with_reducible show ∃ _, OpD _ (binaryOp Operator.Add) _ _ _ ∧ _); (first | refine ⟨_, od_add, ?_⟩)) | ((with_reducible show ∃ _, OpD _ (binaryOp Operator.Sub) _ _ _ ∧ _); (first | refine ⟨_, od_sub, ?_⟩)) | ((with_reducible show ∃ _, OpD _ (compareOp CmpOp.Lt) _ _ _ ∧ _); (first | refine ⟨_, od_lt, ?_⟩ | refine ⟨_, od_ltS, ?_⟩)) | ((with_reducible show ∃ _, OpD _ (compareOp CmpOp.LtE) _ _ _ ∧ _); (first | refine ⟨_, od_le, ?_⟩ | refine ⟨_, od_leS, ?_⟩)) | ((with_reducible show ∃ _, OpD _ (compareOp CmpOp.Gt) _ _ _ ∧ _); (first | refine ⟨_, od_gt, ?_⟩ | refine ⟨_, od_gtS, ?_⟩)) | ((with_reducible show ∃ _, OpD _ (compareOp CmpOp.GtE) _ _ _ ∧ _); (first | refine ⟨_, od_ge, ?_⟩)) | ((with_reducible show ∃ _, OpD _ (compareOp CmpOp.Eq) _ _ _ ∧ _); (first | refine ⟨_, od_eqI, ?_⟩ | refine ⟨_, od_eqS, ?_⟩ | refine ⟨_, od_eqB, ?_⟩)) | ((with_reducible show ∃ _, OpD _ (compareOp CmpOp.NotEq) _ _ _ ∧ _); (first | refine ⟨_, od_neI, ?_⟩ | refine ⟨_, od_neS, ?_⟩ | refine ⟨_, od_neB, ?_⟩)) | ((with_reducible show ∃ _, OpD _ (compareOp CmpOp.In) _ _ _ ∧ _); (first | refine ⟨_, od_inS, ?_⟩ | refine ⟨_, od_inL, ?_⟩ | refine ⟨_, od_inT, ?_⟩)) | ((with_reducible show ∃ _, OpD _ (compareOp CmpOp.NotIn) _ _ _ ∧ _); (first | refine ⟨_, od_notinS, ?_⟩ | refine ⟨_, od_notinL, ?_⟩ | refine ⟨_, od_notinT, ?_⟩)) | ((with_reducible show ∃ _, OpD _ (compareOp CmpOp.Is) _ _ _ ∧ _); (first | refine ⟨_, od_isN, ?_⟩ | refine ⟨_, od_isB, ?_⟩)) | ((with_reducible show ∃ _, OpD _ (compareOp CmpOp.IsNot) _ _ _ ∧ _); (first | refine ⟨_, od_notN, ?_⟩ | refine ⟨_, od_notB, ?_⟩)) | ((with_reducible show ∃ _, OpD _ (compareOp CmpOp.Lt) _ _ (D.bl _) ∧ _); (first | refine ⟨_, od_lt, ?_⟩ | refine ⟨_, od_ltS, ?_⟩)) | ((with_reducible show ∃ _, OpD _ (compareOp CmpOp.LtE) _ _ (D.bl _) ∧ _); (first | refine ⟨_, od_le, ?_⟩ | refine ⟨_, od_leS, ?_⟩)) | ((with_reducible show ∃ _, OpD _ (compareOp CmpOp.Gt) _ _ (D.bl _) ∧ _); (first | refine ⟨_, od_gt, ?_⟩ | refine ⟨_, od_gtS, ?_⟩)) | ((with_reducible show ∃ _, OpD _ (compareOp CmpOp.GtE) _ _ (D.bl _) ∧ _); (first | refine ⟨_, od_ge, ?_⟩)) | ((with_reducible show ∃ _, OpD _ (compareOp CmpOp.Eq) _ _ (D.bl _) ∧ _); (first | refine ⟨_, od_eqI, ?_⟩ | refine ⟨_, od_eqS, ?_⟩ | refine ⟨_, od_eqB, ?_⟩)) | ((with_reducible show ∃ _, OpD _ (compareOp CmpOp.NotEq) _ _ (D.bl _) ∧ _); (first | refine ⟨_, od_neI, ?_⟩ | refine ⟨_, od_neS, ?_⟩ | refine ⟨_, od_neB, ?_⟩)) | ((with_reducible show ∃ _, OpD _ (compareOp CmpOp.In) _ _ (D.bl _) ∧ _); (first | refine ⟨_, od_inS, ?_⟩ | refine ⟨_, od_inL, ?_⟩ | refine ⟨_, od_inT, ?_⟩)) | ((with_reducible show ∃ _, OpD _ (compareOp CmpOp.NotIn) _ _ (D.bl _) ∧ _); (first | refine ⟨_, od_notinS, ?_⟩ | refine ⟨_, od_notinL, ?_⟩ | refine ⟨_, od_notinT, ?_⟩)) | ((with_reducible show ∃ _, OpD _ (compareOp CmpOp.Is) _ _ (D.bl _) ∧ _); (first | refine ⟨_, od_isN, ?_⟩ | refine ⟨_, od_isB, ?_⟩)) | ((with_reducible show ∃ _, OpD _ (compareOp CmpOp.IsNot) _ _ (D.bl _) ∧ _); (first | refine ⟨_, od_notN, ?_⟩ | refine ⟨_, od_notB, ?_⟩)) | ((with_reducible show ∃ _, CallD _ (Value.builtin "min") _ _ ∧ _); (first | refine ⟨_, cd_min2S rfl, ?_⟩ | refine ⟨_, cd_min2 rfl, ?_⟩)) | ((with_reducible show ∃ _, CallD _ (Value.builtin "max") _ _ ∧ _); (first | refine ⟨_, cd_max2S rfl, ?_⟩ | refine ⟨_, cd_max2 rfl, ?_⟩)) | ((with_reducible show ∃ _, CallD _ (Value.builtin "len") _ _ ∧ _); (first | refine ⟨_, cd_len_lst, ?_⟩ | refine ⟨_, cd_len_tup, ?_⟩ | refine ⟨_, cd_len_dct, ?_⟩ | refine ⟨_, cd_len_str (by walk_at "xside"), ?_⟩)) | ((with_reducible show ∃ _, CallD _ (Value.builtin "abs") _ _ ∧ _); (first | refine ⟨_, cd_abs, ?_⟩)) | ((with_reducible show ∃ _, CallD _ (Value.type "int") _ _ ∧ _); (first | refine ⟨_, cd_int, ?_⟩ | refine ⟨_, cd_intB, ?_⟩)) | ((with_reducible show ∃ _, CallD _ (Value.type "list") _ _ ∧ _); (first | refine ⟨_, cd_list_lst, ?_⟩ | refine ⟨_, cd_list_tup, ?_⟩ | refine ⟨_, cd_list_str (by walk_at "xside"), ?_⟩)) | ((with_reducible show ∃ _, CallD _ (Value.type "tuple") _ _ ∧ _); (first | refine ⟨_, cd_tuple_lst, ?_⟩ | refine ⟨_, cd_tuple_tup, ?_⟩ | refine ⟨_, cd_tuple_str (by walk_at "xside"), ?_⟩)) | ((with_reducible show ∃ _, CallD _ (Value.builtin "any") _ _ ∧ _); (first | refine ⟨_, cd_any rfl, ?_⟩)) | ((with_reducible show ∃ _, CallD _ (Value.builtin "all") _ _ ∧ _); (first | refine ⟨_, cd_all rfl, ?_⟩)) | ((with_reducible show ∃ _, CallD _ (Value.builtin "isinstance") _ _ ∧ _); (first | refine ⟨_, isi_str, ?_⟩ | refine ⟨_, isi_tup, ?_⟩ | refine ⟨_, isi_own (by assumption) (by assumption), ?_⟩ | refine ⟨_, isi_nostr (by assumption), ?_⟩)) | ((with_reducible show List.lookup _ _ = none ∧ _); refine ⟨rfl, ?_⟩) | ((with_reducible show D.ref _ = D.ref _ ∧ _); refine ⟨rfl, ?_⟩) | ((with_reducible show ∃ _, UnD _ (unaryOp UnaryOp.USub) _ _ ∧ _); refine ⟨_, ud_neg, ?_⟩) | ((with_reducible show ∃ _, IxD _ (D.str _) _ _ ∧ _); refine ⟨_, ixd_str (by walk_at "xside") rfl, ?_⟩) | ((with_reducible show ∃ _, SlD _ _ _ _ _ ∧ _); (first | refine ⟨_, sd_lst, ?_⟩ | refine ⟨_, sd_tup, ?_⟩)))
local macro_rules | `(tactic| walk_at "x") => `(tactic| repeat (first | walk_at "x1" | walk_at "xo"))
section
variable {T : Wd} (B : Bl T.mg) {Cw Cy : Addr}
include B
theorem c_Lgives (df : De T "_law_gives" ["_law_arrows_here", "_law_glyph"] s_Lgives) : Cp T "_law_gives" 1 sGives' := by
  refine cp_of df sc_Lgives (fun ds Q ⟨a, b, h, _⟩ => by rw [h]; rfl) ?_
  rintro hN f cdv A outer s H E0 hr m ds Q E ⟨as, p, rfl, h2, hl, hlw, h⟩
  walk_at "x"
  refine xe_lcA (fun l => .str (S l)) (fun l => .str (S l)) (i := 2) hN rfl (by show blkC n_Lgives (defScope s_Lgives) _ _ = true; decide +kernel) (fun _ _ _ _ _ => .inl rfl) (fun _ _ _ _ _ => .inr rfl) ?_
  refine xi_any ?_
  walk_at "xv"
  refine ⟨_, items_tup _, as, fun l => if decide ([snd2 l] = [p]) = true then some l else none, rfl, by omega, ?_, ?_⟩
  · intro l hl μ' s1 H1 C1 cl1 fp1
    obtain ⟨a, b, rfl⟩ := h2 l hl
    walk_at "x"
    refine ite_b (fun hg => ?_) (fun hg => ?_)
    · intro s3 H3 C3 cl3 fp3
      walk_at "x"
      exact ⟨_, if_pos hg, rfl, rfl⟩
    · exact ⟨if_neg (by rw [show decide ([snd2 [a, b]] = [p]) = false from hg]; exact Bool.false_ne_true), rfl⟩
  rw [fm_filter]
  have hlf : Lw (as.filter fun l => decide ([snd2 l] = [p])) := fun l hl => hlw l (List.mem_filter.mp hl).1
  walk_at "x"
  refine ⟨by simp, ?_⟩
  refine ⟨_, od_eqL (b := []) hr.units hlf (fun l hl => by cases hl), ?_⟩
  have e : decide ((as.filter fun l => decide ([snd2 l] = [p])) = []) = givesB as p := by
    unfold givesB
    rw [Bool.eq_iff_iff]
    simp [List.filter_eq_nil_iff]
  rw [e]
  exact h
theorem c_Lflip (df : De T "_law_flip" ["_law_arrows_here", "_law_glyph"] s_Lflip) : Cp T "_law_flip" 1 sExch := by
  refine cp_of df sc_Lflip (fun ds Q ⟨a, b, h, _⟩ => by rw [h]; rfl) ?_
  rintro hN f cdv A outer s H E0 hr m ds Q E ⟨as, p, rfl, h2, hl, h⟩
  walk_at "x"
  refine xe_lcA (fun l => .str (S l)) (fun l => .str (S l)) (i := 2) hN rfl (by show blkC n_Lflip (defScope s_Lflip) _ _ = true; decide +kernel) (fun _ _ _ _ _ => .inl rfl) (fun _ _ _ _ _ => .inr rfl) ?_
  refine xi_any ?_
  walk_at "xv"
  refine ⟨_, items_tup _, as, fun l => some (exF p l), rfl, by omega, ?_, ?_⟩
  · intro l hl μ' s1 H1 C1 cl1 fp1
    obtain ⟨a, b, rfl⟩ := h2 l hl
    walk_at "x"
    intro s2 H2 C2 cl2 fp2
    walk_at "x"
    refine ite_c (fun hp => ?_) (fun hp => ?_)
    · walk_at "x"
      refine ⟨by simp, ?_⟩
      exact ⟨_, rfl, by unfold exF; rw [if_pos hp], rfl⟩
    · walk_at "x"
      exact ⟨by unfold exF; rw [if_neg hp], rfl⟩
  have e : (as.filterMap fun l => some (exF p l)).map (fun l => D.str (S l)) = SL (exch as p) := by
    rw [List.filterMap_eq_map']
    rfl
  rw [e]
  walk_at "x"
  exact h
theorem w_Lbases {W1 W2 W3 : Addr} (df : De T "_law_bases" ["_law_e"] s_Lbases) (m1 : T.mg "WrongValue" = some (.ref W1)) (m2 : T.mg "WrongName" = some (.ref W2)) (m3 : T.mg "NotPossible" = some (.ref W3)) (z1 : T.mg "ValueError" = none) (z2 : T.mg "LookupError" = none) (z3 : T.mg "ArithmeticError" = none) :
    CpW T "_law_bases" 1 (sBases W1 W2 W3 T.K) := by
  refine cpw_of df sc_Lbases (fun ds Q ⟨_, _, _, _, _, h, _⟩ => by rw [h]; rfl) ?_
  rintro hN f cdv A outer s H E0 hr gd m ds Q E ⟨C, fs, b1, b2, b3, rfl, ⟨hk, w1, w2, w3, l1, l2, l3⟩, h⟩
  -- what is said once the three are known
  refine xb_cons (xs_set (i := 1) hN rfl (.inl rfl) (xe_own_lst (xa_cons ?_)))
  have fin : ∀ (pf : Addr), XB (cW T n_Lbases "_law_bases" s_Lbases f cdv A outer s H E0) (mdOf m [] H E) ((defBody s_Lbases).drop 2) ⟨[some (.exc C fs), some (.ref pf)], [(pf, .lst [.bl b1, .bl b2])]⟩ (poOf Q) := fun pf => by
    refine xb_freeze (i := 1) (c1 := []) (c2 := []) rfl rfl ?_
    walk_at "x"
    refine ⟨_, cd_isiE hk .own w3, ?_⟩
    cases b3 with
    | false =>
      refine ⟨_, rfl, ?_⟩
      walk_at "x"
      refine ⟨by simp, ?_⟩
      refine ⟨_, od_catL (xs := [.bl b1, .bl b2]) (by simp), ?_⟩
      exact h
    | true =>
      refine ⟨_, rfl, ?_⟩
      walk_at "x"
      refine xe_ty rfl z3 rfl ?_
      walk_at "x"
      refine ⟨_, cd_isiE hk .ty (l3 rfl), ?_⟩
      walk_at "x"
      refine ⟨by simp, ?_⟩
      refine ⟨_, od_catL (xs := [.bl b1, .bl b2]) (by simp), ?_⟩
      exact h
  have mid : ∀ (pf : Addr), XB (cW T n_Lbases "_law_bases" s_Lbases f cdv A outer s H E0) (mdOf m [] H E) ((defBody s_Lbases).drop 1) ⟨[some (.exc C fs), some (.ref pf)], [(pf, .lst [.bl b1])]⟩ (poOf Q) := fun pf => by
    refine xb_cons (xs_expr (xe_append (i := 1) rfl (.inl rfl) rfl ?_ ⟨[], _, [], rfl⟩))
    walk_at "x"
    refine ⟨_, cd_isiE hk .own w2, ?_⟩
    cases b2 with
    | false =>
      refine ⟨_, rfl, ?_⟩
      walk_at "x"
      exact ⟨[], _, [], rfl, by simp, fin pf⟩
    | true =>
      refine ⟨_, rfl, ?_⟩
      walk_at "x"
      refine xe_ty rfl z2 rfl ?_
      walk_at "x"
      refine ⟨_, cd_isiE hk .ty (l2 rfl), ?_⟩
      walk_at "x"
      exact ⟨[], _, [], rfl, by simp, fin pf⟩
  walk_at "x"
  refine ⟨_, cd_isiE hk .own w1, ?_⟩
  cases b1 with
  | false =>
    refine ⟨_, rfl, ?_⟩
    walk_at "x"
    exact ⟨by simp, fun pf => mid pf⟩
  | true =>
    refine ⟨_, rfl, ?_⟩
    walk_at "x"
    refine xe_ty rfl z1 rfl ?_
    walk_at "x"
    refine ⟨_, cd_isiE hk .ty (l1 rfl), ?_⟩
    walk_at "x"
    exact ⟨by simp, fun pf => mid pf⟩
theorem w_Lshown11 {W1 W2 W3 CG CT CR : Addr} (df : De T "_law_shown" ["_law_e"] s_Lshown) (m2 : T.mg "NotGiving" = some (.ref CG)) (m3 : T.mg "NotTaking" = some (.ref CT)) (m4 : T.mg "InvalidRow" = some (.ref CR)) (zr : T.mg "repr" = none)
    (xG : ErrT T "NotGiving" CG "given") (xT : ErrT T "NotTaking" CT "given") (xR : ErrC T "InvalidRow" CR "index") (bG : BasK T.K W1 W2 W3 CG false false true) (bT : BasK T.K W1 W2 W3 CT false false true) (bR : BasK T.K W1 W2 W3 CR true false false)
    (gg : PySem.W.kitOne T.K (.ref CG) (.ref CG) = some true) (gt : PySem.W.kitOne T.K (.ref CG) (.ref CT) = some false) (gr : PySem.W.kitOne T.K (.ref CG) (.ref CR) = some false)
    (tg : PySem.W.kitOne T.K (.ref CT) (.ref CG) = some false) (tt : PySem.W.kitOne T.K (.ref CT) (.ref CT) = some true) (tr : PySem.W.kitOne T.K (.ref CT) (.ref CR) = some false)
    (rg : PySem.W.kitOne T.K (.ref CR) (.ref CG) = some false) (rt : PySem.W.kitOne T.K (.ref CR) (.ref CT) = some false) (rr : PySem.W.kitOne T.K (.ref CR) (.ref CR) = some true)
    (c1 : CpW T "_law_bases" 1 (sBases W1 W2 W3 T.K)) : CpW T "_law_shown" 2 (sShownF [(CG, "gives", "given"), (CT, "takes", "given"), (CR, "row", "index")]) := by
  refine cpw_of df sc_Lshown (fun ds Q ⟨_, _, _, _, h, _⟩ => by rw [h]; rfl) ?_
  rintro hN f cdv A outer s H E0 hr gd m ds Q E ⟨C, w, fl, y, rfl, hm, hv, h⟩
  have key : ∀ (b2 b3 b4 c1b c2b c3b : Bool) (j : Nat), BasK T.K W1 W2 W3 C c1b c2b c3b → PySem.W.findIn T.K (.ref C) fl = some none → fl = (if b4 = true then "index" else "given") → PySem.W.kitOne T.K (.ref C) (.ref CG) = some b2 → PySem.W.kitOne T.K (.ref C) (.ref CT) = some b3 → PySem.W.kitOne T.K (.ref C) (.ref CR) = some b4 →
      ([b2, b3, b4].countP fun z => z == true) = 1 → [b2, b3, b4][j]? = some true → (∀ i < j, [b2, b3, b4][i]? ≠ some true) → [c1b, c2b, c3b] = [b4, false, !b4] → [S [103, 105, 118, 101, 115], S [116, 97, 107, 101, 115], S [114, 111, 119]][j]? = some w →
      XB (cW T n_Lshown "_law_shown" s_Lshown f cdv A outer s H E0) (mdOf m [] H E) (defBody s_Lshown) ⟨startD n_Lshown [.exc C [(fl, y)]], []⟩ (poOf Q) := by
    intro b2 b3 b4 c1b c2b c3b j hb hno hfl k2 k3 k4 hcnt hj hjn hbs hwj
    refine xb_cons ?_
    walk_at "x"
    refine ⟨_, cd_isiE hb.k .own k2, ?_⟩
    walk_at "x"
    refine ⟨_, cd_isiE hb.k .own k3, ?_⟩
    walk_at "x"
    refine ⟨_, cd_isiE hb.k .own k4, ?_⟩
    walk_at "x"
    refine ⟨by simp, ?_⟩
    refine xb_cons (xs_if_f ?_ (xb_nil ?_))
    · refine xt_w (xw_or (xt_cmp rfl ?_))
      refine xe_ml PySem.F.slot_list_count PySem.F.type_list_count ?_
      walk_at "x"
      refine ⟨_, md_countB (bs := [b2, b3, b4]) (b := true), ?_⟩
      rw [hcnt]
      walk_at "x"
      refine xe_cpw c1 hr gd (by decide) rfl ?_
      walk_at "x"
      intro Qc hq
      refine ⟨C, _, _, _, _, rfl, hb, hq _ ?_⟩; clear hq Qc
      walk_at "x"
      refine ⟨_, ixd_lst (atI_nat (k := 2) rfl), ?_⟩
      walk_at "x"
      refine ⟨_, ixd_lst (atI_nat (k := 2) rfl), ?_⟩
      walk_at "x"
      refine ⟨by simp, ?_⟩
      refine ⟨_, od_neBs (a := [c1b, c2b, c3b]) (b := [b4, false, !b4]) hr.u64, ?_⟩
      rw [hbs]
      exact ⟨by simp, rfl⟩
    refine xb_one (xs_ret (xe_lst (xa_cons (xe_ix ?_))))
    walk_at "x"
    refine ⟨by simp, ?_⟩
    refine xe_ml PySem.F.slot_list_index PySem.F.type_list_index ?_
    walk_at "x"
    refine ⟨_, md_indexB (bs := [b2, b3, b4]) hj hjn, ?_⟩
    refine ⟨_, ixd_lst (atI_nat (k := j) (show ([D.str (S [103, 105, 118, 101, 115]), D.str (S [116, 97, 107, 101, 115]), D.str (S [114, 111, 119])] : List D)[j]? = some (.str w) from by
      have e : ([D.str (S [103, 105, 118, 101, 115]), D.str (S [116, 97, 107, 101, 115]), D.str (S [114, 111, 119])] : List D) = [S [103, 105, 118, 101, 115], S [116, 97, 107, 101, 115], S [114, 111, 119]].map D.str := rfl
      rw [e, List.getElem?_map, hwj]
      rfl)), ?_⟩
    refine xa_cons ?_
    refine xe_callB rfl zr PyProof.Rows.boot_repr ?_
    refine xa_cons ?_
    refine xe_if (xt_val ?_)
    walk_at "x"
    refine ⟨_, ixd_lst (atI_nat (k := 2) rfl), ?_⟩
    refine ⟨_, rfl, ?_⟩
    cases b4 with
    | true =>
      have hfl : fl = "index" := hfl
      subst hfl
      refine ite_tt (xe_exf ?_)
      walk_at "x"
      refine ⟨C, _, y, rfl, hb.k.xf, hno, rfl, ?_⟩
      walk_at "x"
      refine ⟨_, hv.rep _ gd hr.u64, ?_⟩
      walk_at "x"
      exact ⟨by simp, h⟩
    | false =>
      have hfl : fl = "given" := hfl
      subst hfl
      refine ite_ff (xe_exf ?_)
      walk_at "x"
      refine ⟨C, _, y, rfl, hb.k.xf, hno, rfl, ?_⟩
      walk_at "x"
      refine ⟨_, hv.rep _ gd hr.u64, ?_⟩
      walk_at "x"
      exact ⟨by simp, h⟩
  simp only [List.mem_cons, Prod.mk.injEq, List.not_mem_nil, or_false] at hm
  rcases hm with ⟨rfl, rfl, rfl⟩ | ⟨rfl, rfl, rfl⟩ | ⟨rfl, rfl, rfl⟩
  · exact key true false false _ _ _ 0 bG xG.no rfl gg gt gr (by decide) rfl (fun i hi => absurd hi (Nat.not_lt_zero i)) rfl rfl
  · exact key false true false _ _ _ 1 bT xT.no rfl tg tt tr (by decide) rfl (fun i hi => by match i, hi with | 0, _ => simp) rfl rfl
  · exact key false false true _ _ _ 2 bR xR.no rfl rg rt rr (by decide) rfl (fun i hi => by match i, hi with | 0, _ => simp | 1, _ => simp) rfl rfl
theorem f_Lcaught {W1 W2 W3 : Addr} {S : PSp} {k : Nat} (df : De T "_law_caught" ["_law_act"] s_Lcaught) (m1 : T.mg "WrongValue" = some (.ref W1)) (m2 : T.mg "WrongName" = some (.ref W2)) (m3 : T.mg "NotPossible" = some (.ref W3)) (csh : CpW T "_law_shown" k S) (hk : k ≤ 6) :
    CtOk T "_law_caught" 6 (fun cls => PySem.W.exmAny T.K cls [.ref W1, .ref W2, .ref W3]) S := by
  refine ct_of df sc_Lcaught rfl (.inl rfl) (by decide) (by decide) ?_
  intro hN g cdv A outer s H E0 hr gd m c fl Qd Ex Qr E hE hact h2 h3
  refine xb_cons (xs_tryF rfl rfl hN (tkd_none fun x Γ => hE x _) (l := [⟨fun cls => PySem.W.exmAny T.K cls [.ref W1, .ref W2, .ref W3], some 2, fun x Γ => (∃ C, x.cls = .ref C) ∧ (Γ.s = [some (.ref fl), none, none] ∧ Ex x Γ.c), true⟩]) (fun H' pn xe f0 tk po => ?_) (.consV (tst_tup3 ⟨rfl, by decide, .inl m1⟩ ⟨rfl, by decide, .inl m2⟩ ⟨rfl, by decide, .inl m3⟩) rfl rfl rfl (fun a pn H2 x C Γ1 ⟨hs, hx⟩ hC => ?_) .nil))
  · refine xb_one (xs_asg ?_)
    refine hact H' _ _ pn xe _ _ _ tk rfl rfl f0 rfl (fun d c2 hd => ?_) (fun x c2 hx => ?_)
    · refine xg_name (i := 1) hN rfl (.inl rfl) ?_
      walk_at "x"
      exact ⟨by simp, h2 d c2 hd⟩
    · obtain ⟨h4, C, h5, h6⟩ := h3 x c2 hx
      exact ⟨true, h4, fun _ => ⟨⟨C, h5⟩, rfl, hx⟩, fun z => by cases z⟩
  · obtain ⟨h4, C', h5, h6⟩ := h3 x Γ1.c hx
    obtain ⟨s1, c1⟩ := Γ1
    have hs : s1 = [some (.ref fl), none, none] := hs
    subst hs
    have eC : C' = C := by rw [hC] at h5; cases h5; rfl
    subst eC
    refine xb_one (xs_ret ?_)
    refine xe_cpw csh (n := 6) ⟨hr.dp, hr.un⟩ gd hk rfl ?_
    walk_at "x"
    intro Qc hq
    exact h6 Qc fun d hd => hq d hd
theorem c_is_place (df : De T "is_place" ["value"] s_is_place) (gl : GS T.mg "LETTERS" az) : Cp T "is_place" 1 sIsPlace := by
  refine cp_of df sc_is_place (fun ds Q ⟨d, h, _⟩ => by rw [h]; rfl) ?_
  rintro hN f cdv A outer s H E0 hr m ds Q E ⟨c, rfl, h⟩
  walk_at "x"
  show Q _ _
  have e : decide (c ∈ az) = decide (97 ≤ c ∧ c ≤ 122) := decide_eq_decide.mpr mem_az
  rw [e]
  exact h
theorem c_is_two (df : De T "is_two" ["value"] s_is_two) (c1 : Cp T "is_place" 1 sIsPlace) : Cp T "is_two" 2 sIsTwo := by
  refine cp_of df sc_is_two (fun ds Q ⟨a, b, h, _⟩ => by rw [h]; rfl) ?_
  rintro hN f cdv A outer s H E0 hr m ds Q E ⟨a, b, rfl, ha, hb, hab, h⟩
  walk_at "x"
  intro Qc hq
  refine ⟨a, rfl, hq _ ?_⟩
  refine ⟨_, rfl, ite_t ha ?_⟩
  walk_at "x"
  intro Qc hq
  refine ⟨b, rfl, hq _ ?_⟩
  refine ⟨_, rfl, ite_t hb ?_⟩
  walk_at "x"
  show Q _ _
  have e : (!decide ([a] = [b])) = true := by simp [hab]
  rw [e]
  exact h
theorem c_pair_of (df : De T "pair_of" ["one", "other"] s_pair_of) : Cp T "pair_of" 1 sPair := by
  refine cp_of df sc_pair_of (fun ds Q ⟨a, b, h, _⟩ => by rw [h]; rfl) ?_
  rintro hN f cdv A outer s H E0 hr m ds Q E ⟨a, b, rfl, hl, h⟩
  walk_at "x"
  refine ⟨_, od_addS ?_, ?_⟩
  · split <;> split <;> omega
  · show Q _ _
    by_cases hab : b < a
    · have : ¬ a < b := List.lt_asymm hab
      simp only [hab, this, if_true, if_false] at h ⊢
      exact h
    · by_cases hba : a < b
      · simp only [hab, hba, if_true, if_false] at h ⊢
        exact h
      · have e : a = b := List.le_antisymm (List.not_lt.mp hab) (List.not_lt.mp hba)
        subst e
        simp only [hab, if_false] at h ⊢
        exact h
theorem c_places_in (df : De T "places_in" ["ties"] s_places_in) : Cp T "places_in" 1 sPlaces := by
  refine cp_of df sc_places_in (fun ds Q ⟨d, ls, h, _⟩ => by rw [h]; rfl) ?_
  rintro hN f cdv A outer s H E0 hr m ds Q E ⟨d, ls, rfl, hd, hl0, hl, h⟩
  have hlen : (ls.map List.length).sum + ls.length * ([] : List Nat).length ≤ 100000 := by rw [flat_len]; show _ + ls.length * 0 ≤ _; omega
  have hus : (us ls.flatten).length ≤ ls.flatten.length := us_len_le fun x h => h
  have hj : ∃ r, MtD (cX T ["ties"] "places_in" s_places_in f cdv A outer s H E0) "str.join" (.str (S [])) [d] (.str (S r)) ∧ r = ls.flatten := by
    rcases hd with rfl | rfl
    · exact ⟨_, md_join_lst hlen, join_flat ls⟩
    · exact ⟨_, md_join_tup hlen, join_flat ls⟩
  obtain ⟨r, hj, rfl⟩ := hj
  walk_at "x"
  refine ⟨_, hj, ?_⟩
  walk_at "x"
  refine ⟨_, cd_set rfl (items_str _) (by rw [ch_len]; omega), ?_⟩
  walk_at "x"
  refine ⟨_, cd_sorted_set rfl hr.units (by rw [ch_len]; omega), ?_⟩
  rw [usL_ch]
  walk_at "x"
  refine ⟨_, md_join_lst (by rw [flat_len, ch_flat, ch_len]; simp; omega), ?_⟩
  rw [join_flat, ch_flat]
  exact h
theorem c_met_from (df : De T "met_from" ["ties", "places"] s_met_from) (c1 : Cp T "places_in" 1 sPlaces) : Cp T "met_from" 2 sMet := by
  refine cp_of df sc_met_from (fun ds Q ⟨d, ls, ps, h, _⟩ => by rw [h]; rfl) ?_
  rintro hN f cdv A outer s H E0 hr m ds Q E ⟨d, ls, ps, rfl, hd, h2, hll, hpl, h⟩
  have hfl : ls.flatten.length ≤ 1000 := by
    have := flat2 h2
    omega
  have fm : ∀ M : List Nat, (ls.filterMap fun l => if touch M l = true then some l else none) = ls.filter (touch M) := fun M => by
    rw [← List.filterMap_eq_filter]
    refine congrArg (fun f => List.filterMap f ls) (funext fun l => ?_)
    simp [Option.guard]
  have fl : ∀ M : List Nat, (ls.filter (touch M)).flatten.length ≤ 1000 := fun M => by
    have h3 := flat2 (ls := ls.filter (touch M)) fun l hl => h2 l (List.mem_filter.mp hl).1
    have := List.length_filter_le (touch M) ls
    omega
  walk_at "x"
  refine ⟨by simp, ?_⟩
  walk_at "x"
  intro Qc hq
  refine ⟨_, [ps], rfl, .inl rfl, by simp, by simp; omega, hq _ ?_⟩; clear hq Qc
  have hM := InMet.start ls ps
  generalize us [ps].flatten = M at hM ⊢
  walk_at "x"
  refine ⟨by simp, ?_⟩
  refine xe_lcA (fun l => .str (S l)) (fun l => .str (S l)) (i := 4) hN rfl (by show blkC n_met_from (defScope s_met_from) _ _ = true; decide +kernel) (fun _ _ _ _ _ => .inl rfl) (fun _ _ _ _ _ => .inr rfl) ?_
  refine xi_any ?_
  walk_at "xv"
  refine ⟨_, hd, ls, fun l => if touch M l = true then some l else none, rfl, by omega, ?_, ?_⟩
  · intro l hl μ' s1 H1 C1 cl1 fp1
    obtain ⟨a, b, rfl⟩ := h2 l hl
    walk_at "x"
    refine ite_c (fun ha => ?_) (fun ha => ?_)
    · refine ite_tt fun s2 H2 C2 cl2 fp2 => ?_
      walk_at "x"
      refine ⟨[a, b], ?_, rfl, rfl⟩
      simp [touch, ha]
    · walk_at "x"
      refine ite_c (fun hb => ?_) (fun hb => ?_)
      · intro s2 H2 C2 cl2 fp2
        walk_at "x"
        refine ⟨[a, b], ?_, rfl, rfl⟩
        simp [touch, hb]
      · refine ⟨?_, rfl⟩
        simp [touch, ha, hb]
  rw [fm]
  refine ⟨_, od_catL (xs := [.str (S M)]) (by have := List.length_filter_le (touch M) ls; simp; omega), ?_⟩
  walk_at "x"
  intro Qc hq
  refine ⟨_, [M] ++ ls.filter (touch M), rfl, .inl (by simp [SL]), by have := List.length_filter_le (touch M) ls; simp; omega, ?_, hq _ ?_⟩
  · clear hq Qc
    have := fl M
    have := hM.le
    rw [List.length_append] at this
    rw [List.flatten_append, List.length_append]
    simp only [List.flatten_cons, List.flatten_nil, List.append_nil]
    omega
  clear hq Qc
  walk_at "x"
  refine xs_while PassesOwn.never (fun Γ1 => ∃ M, Γ1 = ⟨[some d, some (.str (S ps)), some (.str (S M)), some (.str (S (stp ls M))), none], []⟩ ∧ InMet ls ps M) (fun Γ1 => match Γ1.s with | [_, _, some (.str x), _, _] => 3000 - x.length | _ => 0) ⟨M, rfl, hM⟩ ?_
  clear hM M
  rintro Γ1 ⟨M, rfl, hM⟩
  walk_at "x"
  by_cases hne : stp ls M = M
  · rw [if_neg (by simp [hne])]
    walk_at "x"
    exact h M (hM.done h2 hne)
  · rw [if_pos (by simp [hne])]
    have hlt := stp_grows h2 hM hne
    have hM1 := hM.step h2
    obtain ⟨M1, e1⟩ : ∃ M1, M1 = stp ls M := ⟨_, rfl⟩
    rw [← e1] at hM1 hlt ⊢
    walk_at "x"
    refine ⟨by simp, ?_⟩
    refine xe_lcA (fun l => .str (S l)) (fun l => .str (S l)) (i := 4) hN rfl (by show blkC n_met_from (defScope s_met_from) _ _ = true; decide +kernel) (fun _ _ _ _ _ => .inl rfl) (fun _ _ _ _ _ => .inr rfl) ?_
    refine xi_any ?_
    walk_at "xv"
    refine ⟨_, hd, ls, fun l => if touch M1 l = true then some l else none, rfl, by omega, ?_, ?_⟩
    · intro l hl μ' s1 H1 C1 cl1 fp1
      obtain ⟨a, b, rfl⟩ := h2 l hl
      walk_at "x"
      refine ite_c (fun ha => ?_) (fun ha => ?_)
      · refine ite_tt fun s2 H2 C2 cl2 fp2 => ?_
        walk_at "x"
        refine ⟨[a, b], ?_, rfl, rfl⟩
        simp [touch, ha]
      · walk_at "x"
        refine ite_c (fun hb => ?_) (fun hb => ?_)
        · intro s2 H2 C2 cl2 fp2
          walk_at "x"
          refine ⟨[a, b], ?_, rfl, rfl⟩
          simp [touch, hb]
        · refine ⟨?_, rfl⟩
          simp [touch, ha, hb]
    rw [fm]
    refine ⟨_, od_catL (xs := [.str (S M1)]) (by have := List.length_filter_le (touch M1) ls; simp; omega), ?_⟩
    walk_at "x"
    intro Qc hq
    refine ⟨_, [M1] ++ ls.filter (touch M1), rfl, .inl (by simp [SL]), by have := List.length_filter_le (touch M1) ls; simp; omega, ?_, hq _ ?_⟩
    · clear hq Qc
      have := fl M1
      have := hM1.le
      rw [List.length_append] at this
      rw [List.flatten_append, List.length_append]
      simp only [List.flatten_cons, List.flatten_nil, List.append_nil]
      omega
    clear hq Qc
    walk_at "x"
    refine ⟨⟨M1, rfl, hM1⟩, ?_⟩
    show 3000 - (S M1).length < 3000 - (S M).length
    have h3 := hM1.le
    rw [List.length_append] at h3
    rw [S_len, S_len]
    omega
theorem c_do_hang (df : De T "do_hang" ["ties"] s_do_hang) (c1 : Cp T "places_in" 1 sPlaces) (c2 : Cp T "met_from" 2 sMet) : Cp T "do_hang" 3 sHang := by
  refine cp_of df sc_do_hang (fun ds Q ⟨d, ls, h, _⟩ => by rw [h]; rfl) ?_
  rintro hN f cdv A outer s H E0 hr m ds Q E ⟨d, ls, rfl, hd, h2, hne, hll, hc, h⟩
  obtain ⟨l0, h0⟩ : ∃ l0, ls.head? = some l0 := by
    cases ls with
    | nil => exact absurd rfl hne
    | cons l ls => exact ⟨l, rfl⟩
  have h00 : ls[0]? = some l0 := by rw [← List.head?_eq_getElem?]; exact h0
  obtain ⟨a0, b0, e0⟩ := h2 l0 (List.mem_of_getElem? h00)
  have hit : Items d (SL ls) := by rcases hd with rfl | rfl <;> rfl
  have hix : IxD (cX T ["ties"] "do_hang" s_do_hang f cdv A outer s H E0) d (.int 0) (.str (S l0)) := by
    rcases hd with rfl | rfl
    · exact ixd_lst (atI_nat (k := 0) (SL_get h00))
    · exact ixd_tup (atI_nat (k := 0) (SL_get h00))
  walk_at "x"
  refine ⟨_, hix, ?_⟩
  walk_at "x"
  intro Qc hq
  refine ⟨d, ls, l0, rfl, hit, h2, hll, by rw [e0]; simp, fun M hM => hq _ ?_⟩; clear hq Qc
  rw [met_all h0 hc hM]
  walk_at "x"
  intro Qc hq
  refine ⟨d, ls, rfl, hd, by omega, by have := flat2 h2; omega, hq _ ?_⟩; clear hq Qc
  walk_at "x"
  rw [decide_eq_true rfl]
  exact h
theorem c_is_ringed (df : De T "is_ringed" ["arrows"] s_is_ringed) : Cp T "is_ringed" 1 sRing := by
  refine cp_of df sc_is_ringed (fun ds Q ⟨as, h, _⟩ => by rw [h]; rfl) ?_
  rintro hN f cdv A outer s H E0 hr m ds Q E ⟨as, rfl, h2, hl, hlw, h⟩
  refine xb_cons ?_
  walk_at "x"
  refine xs_lcA (fun l => .str (S l)) (fun l => .str (S l)) (i := 3) (j := 2) hN rfl (by show blkC n_is_ringed (defScope s_is_ringed) _ _ = true; decide +kernel) (fun _ _ _ _ _ => .inr rfl) (fun _ _ _ _ _ => .inl rfl) rfl rfl rfl rfl (by decide +kernel) ?_
  refine xi_any ?_
  walk_at "xv"
  refine ⟨_, items_lst _, as, fun l => if goesOn as l = true then some l else none, rfl, by omega, ?_, ?_⟩
  · intro l hl' μ' s1 H1 C1 cl1 fp1
    obtain ⟨a, b, rfl⟩ := h2 l hl'
    walk_at "x"
    refine xe_lcA (fun l => .str (S l)) D.bl (i := 4) hN rfl (by rfl) (fun _ _ _ _ _ => .inl rfl) (fun _ _ _ _ _ => .inr rfl) ?_
    refine xi_any ?_
    walk_at "xv"
    refine ⟨_, items_lst _, as, fun o => some (decide ([snd2 o] = [a])), rfl, by omega, ?_, ?_⟩
    · intro o ho μ'' s2 H2 C2 cl2 fp2
      obtain ⟨x, y, rfl⟩ := h2 o ho
      walk_at "x"
      intro s3 H3 C3 cl3 fp3
      walk_at "x"
      exact ⟨rfl, rfl⟩
    walk_at "x"
    have e : ((as.filterMap fun o => some (decide ([snd2 o] = [a]))).any id) = goesOn as [a, b] := by
      simp [goesOn, fst2, List.any_map, Function.comp_def]
    rw [e]
    refine ite_b (fun hg => ?_) (fun hg => ?_)
    · intro s3 H3 C3 cl3 fp3
      walk_at "x"
      exact ⟨[a, b], by simp [hg], rfl, rfl⟩
    · exact ⟨by simp [hg], rfl⟩
  have fm : (as.filterMap fun l => if goesOn as l = true then some l else none) = onL as := by
    unfold onL
    rw [← List.filterMap_eq_filter]
    refine congrArg (fun f => List.filterMap f as) (funext fun l => ?_)
    simp [Option.guard]
  rw [fm]
  refine xb_cons (xs_while PassesOwn.never (fun Γ1 => ∃ L, Γ1 = ⟨[some (.tup (SL as)), some (.lst (SL L)), some (.lst (SL (onL L))), none, none], []⟩ ∧ Two L ∧ (Ranked as ↔ Ranked L) ∧ L.length ≤ 500 ∧ Lw L) (fun Γ1 => match Γ1.s with | [_, some (.lst x), _, _, _] => x.length | _ => 0) ⟨as, rfl, h2, Iff.rfl, hl, hlw⟩ ?_)
  rintro Γ1 ⟨L0, rfl, g2, grk, gl, glw⟩
  walk_at "x"
  refine ⟨_, od_neL hr.units (onL_lw glw) glw, ?_⟩
  by_cases hne : onL L0 = L0
  · rw [if_neg (by simp [hne])]
    walk_at "x"
    refine ⟨by simp, ?_⟩
    refine ⟨_, od_neL (b := []) hr.units glw (fun l hl => by cases hl), ?_⟩
    rw [rkB_fix h2 g2 grk hne]
    exact h
  · rw [if_pos (by simp [hne])]
    have hlt : (onL L0).length < L0.length := by
      refine Nat.lt_of_le_of_ne (onL_len L0) fun e => hne ?_
      exact List.filter_sublist.eq_of_length e
    have k2 := onL_two g2
    have krk := grk.trans (ranked_onL g2).symm
    have kl := Nat.le_trans (onL_len L0) gl
    have klw := onL_lw glw
    obtain ⟨L, e⟩ : ∃ L, L = onL L0 := ⟨_, rfl⟩
    rw [← e] at hlt k2 krk kl klw ⊢
    refine xb_cons ?_
    walk_at "x"
    refine xs_lcA (fun l => .str (S l)) (fun l => .str (S l)) (i := 3) (j := 2) hN rfl (by show blkC n_is_ringed (defScope s_is_ringed) _ _ = true; decide +kernel) (fun _ _ _ _ _ => .inr rfl) (fun _ _ _ _ _ => .inl rfl) rfl rfl rfl rfl (by decide +kernel) ?_
    refine xi_any ?_
    walk_at "xv"
    refine ⟨_, items_lst _, L, fun l => if goesOn L l = true then some l else none, rfl, by omega, ?_, ?_⟩
    · intro l hl' μ' s1 H1 C1 cl1 fp1
      obtain ⟨a, b, rfl⟩ := k2 l hl'
      walk_at "x"
      refine xe_lcA (fun l => .str (S l)) D.bl (i := 4) hN rfl (by rfl) (fun _ _ _ _ _ => .inl rfl) (fun _ _ _ _ _ => .inr rfl) ?_
      refine xi_any ?_
      walk_at "xv"
      refine ⟨_, items_lst _, L, fun o => some (decide ([snd2 o] = [a])), rfl, by omega, ?_, ?_⟩
      · intro o ho μ'' s2 H2 C2 cl2 fp2
        obtain ⟨x, y, rfl⟩ := k2 o ho
        walk_at "x"
        intro s3 H3 C3 cl3 fp3
        walk_at "x"
        exact ⟨rfl, rfl⟩
      walk_at "x"
      have e : ((L.filterMap fun o => some (decide ([snd2 o] = [a]))).any id) = goesOn L [a, b] := by
        simp [goesOn, fst2, List.any_map, Function.comp_def]
      rw [e]
      refine ite_b (fun hg => ?_) (fun hg => ?_)
      · intro s3 H3 C3 cl3 fp3
        walk_at "x"
        exact ⟨[a, b], by simp [hg], rfl, rfl⟩
      · exact ⟨by simp [hg], rfl⟩
    have fm : (L.filterMap fun l => if goesOn L l = true then some l else none) = onL L := by
      unfold onL
      rw [← List.filterMap_eq_filter]
      refine congrArg (fun f => List.filterMap f L) (funext fun l => ?_)
      simp [Option.guard]
    rw [fm]
    walk_at "x"
    refine ⟨⟨L, rfl, k2, krk, kl, klw⟩, ?_⟩
    show (SL L).length < (SL L0).length
    rw [SL_len, SL_len]
    exact hlt
theorem c_check_arrows (df : De T "check_arrows" ["arrows"] s_check_arrows) (g1 : GI T.mg "MOST_TIES" 10) (g2 : GI T.mg "MOST_PLACES" 7) (c1 : Cp T "is_two" 2 sIsTwo) (c2 : Cp T "pair_of" 1 sPair) (c3 : Cp T "places_in" 1 sPlaces) (c4 : Cp T "do_hang" 3 sHang) (c5 : Cp T "is_ringed" 1 sRing) : Cp T "check_arrows" 4 sChkA := by
  refine cp_of df sc_check_arrows (fun ds Q ⟨as, h, _⟩ => by rw [h]; rfl) ?_
  rintro hN f cdv A outer s H E0 hr m ds Q E ⟨as, rfl, ha, h⟩
  have hlen := ha.len
  have ht := ha.ties
  have htl : (as.map pr2).length = as.length := by simp
  refine xb_cons (xs_if_f ?_ (xb_nil ?_))
  · walk_at "x"
    refine ⟨by simp, ?_⟩
    exact ⟨_, od_eqT (b := []) hr.units ha.lw (fun l hl => by cases hl), by simp [ha.ne], rfl⟩
  refine xb_cons ?_
  walk_at "xset"
  refine xe_own_lst (xa_nil ⟨by simp, fun p => ?_⟩)
  refine xb_cons (xs_forN (i := 2) PassesOwn.never hN rfl (.inl rfl) (xi_rng1 rfl B.range ?_))
  walk_at "x"
  rw [SL_len]
  refine ⟨by omega, by omega, ?_⟩
  refine ⟨fun k Γ1 => ∃ o, Γ1 = ⟨[some (.tup (SL as)), some (.ref p), o], [(p, .lst (SL ((as.map pr2).take k)))]⟩, ⟨none, rfl⟩, ?_, ?_⟩
  · rintro k d Γ2 hk ⟨o, rfl⟩
    obtain ⟨hk1, rfl⟩ := rng_get hk
    have hk : k < as.length := by simpa using hk1
    obtain ⟨l, hl⟩ : ∃ l, as[k]? = some l := ⟨_, List.getElem?_eq_getElem hk⟩
    obtain ⟨a, b, rfl, h1, h2, h3⟩ := ha.pr l (List.mem_of_getElem? hl)
    have hix : ∀ X : Cx, IxD X (.tup (SL as)) (.int (k : Int)) (.str (S [a, b])) := fun X => ixd_tup (atI_nat (SL_get hl))
    refine xb_cons (xs_if_f ?_ (xb_nil ?_))
    · walk_at "x"
      refine ite_f (by omega) ?_
      walk_at "x"
      refine ⟨_, hix _, ?_⟩
      walk_at "x"
      intro Qc hq
      refine ⟨a, b, rfl, h1, h2, h3, hq _ ?_⟩; clear hq Qc
      walk_at "x"
      exact ⟨rfl, rfl⟩
    refine xb_cons (xs_expr (xe_append (i := 1) rfl (.inl rfl) rfl ?_ ⟨[], _, [], rfl⟩))
    walk_at "x"
    refine ⟨_, hix _, ?_⟩
    walk_at "x"
    refine ⟨_, hix _, ?_⟩
    walk_at "x"
    intro Qc hq
    refine ⟨_, _, rfl, by simp, hq _ ?_⟩; clear hq Qc
    rw [pr2_pair]
    refine ⟨[], _, [], rfl, by rw [SL_len, List.length_take]; omega, ?_⟩
    have et : SL ((as.map pr2).take k) ++ [.str (S (pr2 [a, b]))] = SL ((as.map pr2).take (k + 1)) := by
      rw [List.take_add_one, List.getElem?_map, hl]
      simp [SL]
    rw [et]
    refine xb_one (xs_if_f ?_ (xb_nil ⟨_, rfl⟩))
    refine xt_lend (i := 1) (c1 := []) (c2 := []) rfl rfl ?_
    have hlk : ∀ {j : Nat}, j ≤ k → ((as.map pr2).take (k + 1))[j]? = (as.map pr2)[j]? := fun {j} hj => List.getElem?_take_of_lt (by omega)
    have hgl : (as.map pr2)[k]? = some (pr2 [a, b]) := by rw [List.getElem?_map, hl]; rfl
    refine xt_w (xw_or (xt_cut false ?_ ?_))
    · walk_at "x"
      refine ite_c (fun hk0 => ?_) (fun hk0 => ⟨rfl, rfl⟩)
      obtain ⟨k', rfl⟩ : ∃ k', k = k' + 1 := ⟨k - 1, by omega⟩
      obtain ⟨l', hl'⟩ : ∃ l, (as.map pr2)[k']? = some l := ⟨_, List.getElem?_eq_getElem (by omega)⟩
      have hlt : l' < pr2 [a, b] := by
        obtain ⟨q1, q2⟩ := List.getElem?_eq_some_iff.mp hl'
        obtain ⟨q3, q4⟩ := List.getElem?_eq_some_iff.mp hgl
        have := List.pairwise_iff_getElem.mp ht.asc k' (k' + 1) q1 q3 (by omega)
        rw [q2, q4] at this
        exact this
      walk_at "x"
      refine ⟨_, ixd_lst (atI_nat (SL_get ((hlk (Nat.le_refl _)).trans hgl))), ?_⟩
      walk_at "x"
      refine ⟨_, ixd_lst (i := ((k' + 1 : Nat) : Int) - 1) (by rw [show ((k' + 1 : Nat) : Int) - 1 = (k' : Int) by omega]; exact atI_nat (SL_get ((hlk (by omega)).trans hl'))), ?_⟩
      walk_at "x"
      exact ⟨by simp [hlt], rfl⟩
    walk_at "x"
    intro Qc hq
    have hsub : ∀ x ∈ ((as.map pr2).take (k + 1)).flatten, x ∈ us (as.map pr2).flatten := fun x hx => by
      obtain ⟨l, hl, hx⟩ := List.mem_flatten.mp hx
      exact mem_us.mpr (List.mem_flatten.mpr ⟨l, List.mem_of_mem_take hl, hx⟩)
    have hfew := ht.few
    have hus := us_len_le hsub
    have htk := List.length_take_le (k + 1) (as.map pr2)
    refine ⟨_, _, rfl, .inl rfl, by omega, ?_, hq _ ?_⟩
    · have := flat2 (ls := (as.map pr2).take (k + 1)) fun l hl => ht.two l (List.mem_of_mem_take hl)
      omega
    clear hq Qc
    walk_at "x"
    exact ⟨rfl, by simp; omega, rfl⟩
  · rintro Γ2 ⟨o, rfl⟩
    rw [rng_len, Int.toNat_natCast, ← htl, List.take_length]
    refine xb_freeze (i := 1) (c1 := []) (c2 := []) rfl rfl ?_
    walk_at "x"
    intro Qc hq
    refine ⟨_, _, rfl, .inl rfl, ht.two, ht.ne, by omega, ht.conn, hq _ ?_⟩; clear hq Qc
    walk_at "x"
    intro Qc hq
    refine ⟨as, rfl, ha.two, by omega, ha.lw, hq _ ?_⟩; clear hq Qc
    rw [rkB_t ha.two ha.rk]
    walk_at "x"
    exact h
theorem m_Way (df : DeI T "Way" Cy "Way.__init__" ["self", "arrows"] s_Way___init__) (cl : Cls T.K Cy) (n1 : NoAttr T.K Cy "lot") (c1 : Cp T "check_arrows" 4 sChkA) : Mk' T "Way" Cy 5 sWayI := by
  refine mk_of df sc_Way___init__ (fun ds Q ⟨ls, h, _⟩ => by rw [h]; rfl) ?_
  rintro hN f cdv A outer s H E0 hr m o ds Q E ⟨as, rfl, ha, h⟩
  walk_at "x"
  intro Qc hq
  refine ⟨as, rfl, ha, hq _ ?_⟩; clear hq Qc
  walk_at "x"
  refine xs_fld (i := 0) cl n1 rfl (.inl rfl) rfl ?_
  walk_at "x"
  refine ⟨[], [], [], rfl, by simp, ?_⟩
  walk_at "x"
  exact ⟨_, rfl, rfl, h⟩
theorem e_Way (df : DeQ T Cy "Way.__eq__" ["self", "other"] s_Way___eq__) (oc : OCls T.K Cy) (io : IsO T.K Cy) (n1 : NoAttr T.K Cy "lot") (hW : T.mg "Way" = some (.ref Cy)) : Eq' T Cy 1 (sWayEq Cy) := by
  refine eq_of df sc_Way___eq__ (fun ds Q ⟨a, b, h, _⟩ => by rw [h]; rfl) ?_
  rintro hN f cdv A outer s H E0 hr m ds Q E ⟨a, b, rfl, ha, hb, h⟩
  walk_at "x"
  refine ⟨Cy, _, _, rfl, oc.c, n1, rfl, ?_⟩
  walk_at "x"
  refine ⟨Cy, _, _, rfl, oc.c, n1, rfl, ?_⟩
  exact ⟨_, od_eqT hr.units ha hb, h⟩
theorem c_is_pair (df : De T "is_pair" ["value"] s_is_pair) (c1 : Cp T "is_two" 2 sIsTwo) : Cp T "is_pair" 3 sIsPair := by
  refine cp_of df sc_is_pair (fun ds Q ⟨a, b, h, _⟩ => by rw [h]; rfl) ?_
  rintro hN f cdv A outer s H E0 hr m ds Q E ⟨a, b, rfl, ha, hb, hab, h⟩
  walk_at "x"
  intro Qc hq
  refine ⟨a, b, rfl, ha, hb, by omega, hq _ ?_⟩
  walk_at "x"
  show Q _ _
  have e : decide ([a] < [b]) = true := by simp [lt1, hab]
  rw [e]
  exact h
theorem c_check_ties (df : De T "check_ties" ["ties"] s_check_ties) (g1 : GI T.mg "MOST_TIES" 10) (g2 : GI T.mg "MOST_PLACES" 7) (c1 : Cp T "places_in" 1 sPlaces) (c2 : Cp T "is_pair" 3 sIsPair) (c3 : Cp T "do_hang" 3 sHang) : Cp T "check_ties" 4 sChk := by
  refine cp_of df sc_check_ties (fun ds Q ⟨ls, h, _⟩ => by rw [h]; rfl) ?_
  rintro hN f cdv A outer s H E0 hr m ds Q E ⟨ls, rfl, ht, h⟩
  have hlen := ht.len
  walk_at "x"
  refine ⟨by simp, ?_⟩
  refine ⟨_, od_eqT (b := []) hr.units ht.lw (fun l hl => by cases hl), ite_f ht.ne ?_⟩
  walk_at "x"
  refine xs_forN (i := 1) PassesOwn.never hN rfl (.inl rfl) (xi_rng1 rfl B.range ?_)
  walk_at "x"
  rw [SL_len]
  refine ⟨by omega, by omega, ?_⟩
  refine ⟨fun k Γ1 => ∃ o, Γ1 = ⟨[some (.tup (SL ls)), o], []⟩, ⟨none, rfl⟩, ?_, ?_⟩
  · rintro k d Γ2 hk ⟨o, rfl⟩
    obtain ⟨hk1, rfl⟩ := rng_get hk
    have hk : k < ls.length := by simpa using hk1
    obtain ⟨l, hl⟩ : ∃ l, ls[k]? = some l := ⟨_, List.getElem?_eq_getElem hk⟩
    obtain ⟨a, b, rfl, h1, h2, h3⟩ := ht.pr l (List.mem_of_getElem? hl)
    have hix : ∀ X : Cx, IxD X (.tup (SL ls)) (.int (k : Int)) (.str (S [a, b])) := fun X => ixd_tup (atI_nat (SL_get hl))
    refine xb_cons (xs_if_f ?_ ?_)
    · walk_at "x"
      refine ite_f (by omega) ?_
      walk_at "x"
      refine ⟨_, hix _, ?_⟩
      walk_at "x"
      intro Qc hq
      refine ⟨a, b, rfl, by omega, by omega, h2, hq _ ?_⟩; clear hq Qc
      walk_at "x"
      refine ite_c (fun hk0 => ?_) (fun hk0 => ⟨rfl, rfl⟩)
      obtain ⟨k', rfl⟩ : ∃ k', k = k' + 1 := ⟨k - 1, by omega⟩
      obtain ⟨l', hl'⟩ : ∃ l, ls[k']? = some l := ⟨_, List.getElem?_eq_getElem (by omega)⟩
      have hlt : l' < [a, b] := by
        obtain ⟨q1, q2⟩ := List.getElem?_eq_some_iff.mp hl'
        obtain ⟨q3, q4⟩ := List.getElem?_eq_some_iff.mp hl
        have := List.pairwise_iff_getElem.mp ht.asc k' (k' + 1) q1 q3 (by omega)
        rw [q2, q4] at this
        exact this
      walk_at "x"
      refine ⟨_, hix _, ?_⟩
      walk_at "x"
      refine ⟨_, ixd_tup (i := ((k' + 1 : Nat) : Int) - 1) (by rw [show ((k' + 1 : Nat) : Int) - 1 = (k' : Int) by omega]; exact atI_nat (SL_get hl')), ?_⟩
      walk_at "x"
      exact ⟨by simp [hlt], rfl⟩
    refine xb_nil ?_
    refine xb_one (xs_if_f ?_ (xb_nil ⟨_, rfl⟩))
    walk_at "x"
    intro Qc hq
    rw [show ((k : Int) + 1) = ((k + 1 : Nat) : Int) by omega, cutD_to]
    have hsub : ∀ x ∈ (ls.take (k + 1)).flatten, x ∈ us ls.flatten := fun x hx => by
      obtain ⟨l, hl, hx⟩ := List.mem_flatten.mp hx
      exact mem_us.mpr (List.mem_flatten.mpr ⟨l, List.mem_of_mem_take hl, hx⟩)
    have hfew := ht.few
    have hus := us_len_le hsub
    refine ⟨_, ls.take (k + 1), rfl, .inr (by simp [SL, List.map_take]), by simp; omega, ?_, hq _ ?_⟩
    · have := flat2 (ls := ls.take (k + 1)) fun l hl => ht.two l (List.mem_of_mem_take hl)
      have := List.length_take_le (k + 1) ls
      omega
    clear hq Qc
    walk_at "x"
    exact ⟨by simp; omega, rfl⟩
  · rintro Γ2 ⟨o, rfl⟩
    walk_at "x"
    intro Qc hq
    refine ⟨_, ls, rfl, .inr rfl, ht.two, ht.ne, by omega, ht.conn, hq _ ?_⟩; clear hq Qc
    walk_at "x"
    exact h
theorem m_Web (df : DeI T "Web" Cw "Web.__init__" ["self", "ties"] s_Web___init__) (cl : Cls T.K Cw) (n1 : NoAttr T.K Cw "pairs") (n2 : NoAttr T.K Cw "letters") (c1 : Cp T "check_ties" 4 sChk) (c2 : Cp T "places_in" 1 sPlaces) : Mk' T "Web" Cw 5 sWebI := by
  refine mk_of df sc_Web___init__ (fun ds Q ⟨ls, h, _⟩ => by rw [h]; rfl) ?_
  rintro hN f cdv A outer s H E0 hr m o ds Q E ⟨ls, rfl, ht, h⟩
  walk_at "x"
  intro Qc hq
  refine ⟨ls, rfl, ht, hq _ ?_⟩; clear hq Qc
  walk_at "x"
  refine xs_fld (i := 0) cl n1 rfl (.inl rfl) rfl ?_
  walk_at "x"
  refine ⟨[], [], [], rfl, by simp, ?_⟩
  walk_at "x"
  refine xs_fld (i := 0) cl n2 rfl (.inl rfl) rfl ?_
  walk_at "x"
  intro Qc hq
  refine ⟨_, ls, rfl, .inr rfl, by have := ht.len; omega, by have := flat2 ht.two; have := ht.len; omega, hq _ ?_⟩; clear hq Qc
  refine ⟨[], _, [], rfl, by simp [putFD], ?_⟩
  walk_at "x"
  refine ⟨_, rfl, rfl, ?_⟩
  exact h
theorem c_web_of (df : De T "web_of" ["arrows"] s_web_of) (c1 : Mk' T "Web" Cw 5 sWebI) (c2 : Cp T "pair_of" 1 sPair) : Cp T "web_of" 7 (sWebOf Cw) := by
  refine cp_of df sc_web_of (fun ds Q ⟨ls, h, _⟩ => by rw [h]; rfl) ?_
  rintro hN f cdv A outer s H E0 hr m ds Q E ⟨as, rfl, ha, h⟩
  walk_at "x"
  refine xe_lcA (fun l => .str (S l)) (fun l => .str (S l)) (i := 1) hN rfl (by show blkC n_web_of (defScope s_web_of) _ _ = true; decide +kernel) (fun _ _ _ _ _ => .inl rfl) (fun _ _ _ _ _ => .inr rfl) ?_
  refine xi_any ?_
  walk_at "xv"
  refine ⟨_, items_tup _, as, fun l => some (pr2 l), rfl, by have := ha.len; omega, ?_, ?_⟩
  · intro l hl μ' s1 H1 C1 cl1 fp1
    obtain ⟨a, b, rfl⟩ := ha.two l hl
    walk_at "x"
    intro s3 H3 C3 cl3 fp3
    walk_at "x"
    intro Qc hq
    refine ⟨_, _, rfl, by simp, hq _ ?_⟩; clear hq Qc
    rw [pr2_pair]
    exact ⟨_, rfl, rfl, rfl⟩
  have e : (as.filterMap fun l => some (pr2 l)) = as.map pr2 := by simp
  rw [e]
  walk_at "x"
  intro Qc hq
  exact ⟨_, rfl, ha.ties, hq _ h⟩
theorem p_Way_web (df : DeP T Cy "web" "Way.web" ["self"] s_Way_web) (cl : Cls T.K Cy) (n1 : NoAttr T.K Cy "lot") (c1 : Cp T "web_of" 7 (sWebOf Cw)) : Pr T Cy "web" 8 (sWayWeb Cy Cw) := by
  refine pr_of df sc_Way_web (fun ds Q ⟨ls, h, _⟩ => by rw [h]; rfl) ?_
  rintro hN f cdv A outer s H E0 hr m ds Q E ⟨as, rfl, ha, h⟩
  walk_at "x"
  refine ⟨Cy, _, _, rfl, cl, n1, rfl, ?_⟩
  walk_at "x"
  intro Qc hq
  exact ⟨_, rfl, ha, hq _ h⟩
theorem p_Web_places (df : DeP T Cw "places" "Web.places" ["self"] s_Web_places) (cl : Cls T.K Cw) (n1 : NoAttr T.K Cw "letters") : Pr T Cw "places" 1 (sWebPlaces Cw) := by
  refine pr_of df sc_Web_places (fun ds Q ⟨ls, h, _⟩ => by rw [h]; rfl) ?_
  rintro hN f cdv A outer s H E0 hr m ds Q E ⟨ls, rfl, h⟩
  walk_at "x"
  exact ⟨Cw, _, _, rfl, cl, n1, rfl, h⟩
theorem c_check_place (df : De T "check_place" ["web", "value"] s_check_place) (c1 : Cp T "is_place" 1 sIsPlace) (p1 : Pr T Cw "places" 1 (sWebPlaces Cw)) : Cp T "check_place" 3 (sChkPlace Cw) := by
  refine cp_of df sc_check_place (fun ds Q ⟨a, b, h, _⟩ => by rw [h]; rfl) ?_
  rintro hN f cdv A outer s H E0 hr m ds Q E ⟨ls, p, rfl, ht, hp, h⟩
  have hlet : 97 ≤ p ∧ p ≤ 122 := by
    obtain ⟨l, hl, hx⟩ := List.mem_flatten.mp hp
    obtain ⟨a, b, rfl, h1, h2, h3⟩ := ht.pr l hl
    simp at hx
    omega
  refine xb_one (xs_if_f ?_ ?_)
  · walk_at "x"
    intro Qc hq
    refine ⟨p, rfl, hq _ ?_⟩; clear hq Qc
    rw [decide_eq_true hlet]
    walk_at "x"
    intro Qc hq
    refine ⟨ls, rfl, hq _ ?_⟩; clear hq Qc
    walk_at "x"
    rw [decide_eq_true (mem_us.mpr hp)]
    exact ⟨rfl, rfl⟩
  · walk_at "x"
    exact h
theorem c_does_take (df : De T "does_take" ["arrows", "place"] s_does_take) : Cp T "does_take" 1 sTakes := by
  refine cp_of df sc_does_take (fun ds Q ⟨a, b, h, _⟩ => by rw [h]; rfl) ?_
  rintro hN f cdv A outer s H E0 hr m ds Q E ⟨as, p, rfl, h2, hl, h⟩
  walk_at "x"
  refine xe_lcA (fun l => .str (S l)) D.bl (i := 2) hN rfl (by show blkC n_does_take (defScope s_does_take) _ _ = true; decide +kernel) (fun _ _ _ _ _ => .inl rfl) (fun _ _ _ _ _ => .inr rfl) ?_
  refine xi_any ?_
  walk_at "xv"
  refine ⟨_, items_tup _, as, fun l => some (decide ([fst2 l] = [p])), rfl, by omega, ?_, ?_⟩
  · intro l hl μ' s1 H1 C1 cl1 fp1
    obtain ⟨a, b, rfl⟩ := h2 l hl
    walk_at "x"
    intro s2 H2 C2 cl2 fp2
    walk_at "x"
    exact ⟨rfl, rfl⟩
  refine xa_nil ⟨_, cd_any rfl, ?_⟩
  walk_at "x"
  have e : (as.filterMap fun l => some (decide ([fst2 l] = [p]))).any id = as.any fun l => decide ([fst2 l] = [p]) := by
    rw [List.filterMap_eq_map', List.any_map]
    rfl
  rw [e]
  exact h
theorem c_exchanged (df : De T "exchanged" ["arrows", "place"] s_exchanged) : Cp T "exchanged" 1 sExch := by
  refine cp_of df sc_exchanged (fun ds Q ⟨a, b, h, _⟩ => by rw [h]; rfl) ?_
  rintro hN f cdv A outer s H E0 hr m ds Q E ⟨as, p, rfl, h2, hl, h⟩
  walk_at "x"
  refine xe_lcA (fun l => .str (S l)) (fun l => .str (S l)) (i := 2) hN rfl (by show blkC n_exchanged (defScope s_exchanged) _ _ = true; decide +kernel) (fun _ _ _ _ _ => .inl rfl) (fun _ _ _ _ _ => .inr rfl) ?_
  refine xi_any ?_
  walk_at "xv"
  refine ⟨_, items_tup _, as, fun l => some (exF p l), rfl, by omega, ?_, ?_⟩
  · intro l hl μ' s1 H1 C1 cl1 fp1
    obtain ⟨a, b, rfl⟩ := h2 l hl
    walk_at "x"
    intro s2 H2 C2 cl2 fp2
    walk_at "x"
    refine ite_c (fun hp => ?_) (fun hp => ?_)
    · walk_at "x"
      refine ⟨by simp, ?_⟩
      exact ⟨_, rfl, by unfold exF; rw [if_pos hp], rfl⟩
    · walk_at "x"
      exact ⟨by unfold exF; rw [if_neg hp], rfl⟩
  have e : (as.filterMap fun l => some (exF p l)).map (fun l => D.str (S l)) = SL (exch as p) := by
    rw [List.filterMap_eq_map']
    rfl
  rw [e]
  walk_at "x"
  exact h
theorem m_Way_back (df : DeM T Cy "back" "Way.back" ["self", "place"] s_Way_back) (cl : Cls T.K Cy) (n1 : NoAttr T.K Cy "lot") (p1 : Pr T Cy "web" 8 (sWayWeb Cy Cw)) (c1 : Cp T "check_place" 3 (sChkPlace Cw)) (c2 : Cp T "does_take" 1 sTakes) (c3 : Cp T "exchanged" 1 sExch) (m1 : Mk' T "Way" Cy 5 sWayI) : Me T Cy "back" 10 (sBackN Cy) := by
  refine me_of df sc_Way_back (fun ds Q ⟨a, b, h, _⟩ => by rw [h]; rfl) ?_
  rintro hN f cdv A outer s H E0 hr m ds Q E ⟨as, p, rfl, ha, hp, hg, h⟩
  have hl := ha.len
  walk_at "x"
  intro Qc hq
  refine ⟨as, rfl, ha, hq _ ?_⟩; clear hq Qc
  walk_at "x"
  intro Qc hq
  refine ⟨_, p, rfl, ha.ties, (mem_pr2_flat ha.two).mpr hp, hq _ ?_⟩; clear hq Qc
  refine xb_cons (xs_if_f ?_ ?_)
  · walk_at "x"
    refine ⟨_, _, _, rfl, cl, n1, rfl, ?_⟩
    walk_at "x"
    intro Qc hq
    refine ⟨as, p, rfl, ha.two, by omega, hq _ ?_⟩; clear hq Qc
    rw [(takesB_iff ha.two).mpr hg]
    exact ⟨_, rfl, rfl, rfl⟩
  · walk_at "x"
    refine ⟨_, _, _, rfl, cl, n1, rfl, ?_⟩
    walk_at "x"
    intro Qc hq
    refine ⟨as, p, rfl, ha.two, by omega, hq _ ?_⟩; clear hq Qc
    walk_at "x"
    intro Qc hq
    refine ⟨_, rfl, back_arrs ha hg, hq _ ?_⟩; clear hq Qc
    exact h
theorem a_is_place (df : De T "is_place" ["value"] s_is_place) (gl : GS T.mg "LETTERS" az) : Cp T "is_place" 1 sIsPlaceA := by
  refine cp_of df sc_is_place (fun ds Q ⟨d, h, _⟩ => by rw [h]; rfl) ?_
  rintro hN f cdv A outer s H E0 hr m ds Q E ⟨d, rfl, hd, h⟩
  rcases hd.cases with hn | ⟨l, rfl, hl, hz⟩
  · rw [onS_no hn] at h
    walk_at "x"
    exact h
  · rw [onS_S] at h
    walk_at "x"
    refine ite_c (fun h1 => ?_) (fun h1 => ?_)
    · obtain ⟨c, rfl⟩ : ∃ c, l = [c] := by
        match l, (show l.length = 1 by omega) with
        | [c], _ => exact ⟨c, rfl⟩
      walk_at "x"
      show Q _ _
      have e : decide (c ∈ az) = plL [c] := decide_eq_decide.mpr mem_az
      rw [e]
      exact h
    · have e : plL l = false := by
        match l with
        | [] => rfl
        | [c] => simp at h1
        | _ :: _ :: _ => rfl
      rw [e] at h
      exact h
theorem x_check_place {CU : Addr} (df : De T "check_place" ["web", "value"] s_check_place) (c1 : Cp T "is_place" 1 sIsPlaceA) (p1 : Pr T Cw "places" 1 (sWebPlaces Cw)) (e1 : ErrT T "UnknownPlace" CU "given") : Cpx T "check_place" 3 (sChkPlaceX Cw CU) := by
  refine cpx_of df sc_check_place (fun ds Q E ⟨_, _, h, _⟩ => by rw [h]; rfl) ?_
  rintro hN f cdv A outer s H E0 hr m ds Q E tk ⟨ls, d, rfl, ht, hk, hQ, hE⟩
  by_cases hp : isPl ls d
  · obtain ⟨p, rfl, hpm⟩ := id hp
    have hlet : 97 ≤ p ∧ p ≤ 122 := by
      obtain ⟨l, hl, hx⟩ := List.mem_flatten.mp hpm
      obtain ⟨a, b, rfl, h1, h2, h3⟩ := ht.pr l hl
      simp at hx
      omega
    refine xb_one (xs_if_f ?_ (xb_nil (hQ hp)))
    walk_at "x"
    intro Qc hq
    refine ⟨_, rfl, hk, hq _ ?_⟩; clear hq Qc
    rw [onS_S, show plL [p] = true from decide_eq_true hlet]
    walk_at "x"
    intro Qc hq
    refine ⟨ls, rfl, hq _ ?_⟩; clear hq Qc
    walk_at "x"
    rw [decide_eq_true (mem_us.mpr hpm)]
    exact ⟨rfl, rfl⟩
  · refine xb_one (xs_if_t ?_ ?_)
    · walk_at "x"
      intro Qc hq
      refine ⟨_, rfl, hk, hq _ ?_⟩; clear hq Qc
      cases hpl : onS plL d with
      | false =>
        walk_at "x"
        exact ⟨rfl, rfl⟩
      | true =>
        obtain ⟨q1, q2⟩ := onS_get hpl
        obtain ⟨p, hp2⟩ : ∃ p, textOf d = [p] := by
          unfold plL at q2
          split at q2
          · next c h => exact ⟨c, h⟩
          · cases q2
        rw [hp2] at q1
        subst q1
        have hnp : p ∉ us ls.flatten := fun z => hp ⟨p, rfl, mem_us.mp z⟩
        walk_at "x"
        intro Qc hq
        refine ⟨ls, rfl, hq _ ?_⟩; clear hq Qc
        walk_at "x"
        rw [decide_eq_false hnp]
        exact ⟨rfl, rfl⟩
    refine xb_one (xs_raiseT e1 rfl tk (hr.mono (by decide)) rfl ?_)
    walk_at "x"
    exact hE hp
theorem c_does_give (df : De T "does_give" ["arrows", "place"] s_does_give) : Cp T "does_give" 1 sGives := by
  refine cp_of df sc_does_give (fun ds Q ⟨a, b, h, _⟩ => by rw [h]; rfl) ?_
  rintro hN f cdv A outer s H E0 hr m ds Q E ⟨as, p, rfl, h2, hl, h⟩
  walk_at "x"
  refine xe_lcA (fun l => .str (S l)) D.bl (i := 2) hN rfl (by show blkC n_does_give (defScope s_does_give) _ _ = true; decide +kernel) (fun _ _ _ _ _ => .inl rfl) (fun _ _ _ _ _ => .inr rfl) ?_
  refine xi_any ?_
  walk_at "xv"
  refine ⟨_, items_tup _, as, fun l => some (decide ([snd2 l] = [p])), rfl, by omega, ?_, ?_⟩
  · intro l hl μ' s1 H1 C1 cl1 fp1
    obtain ⟨a, b, rfl⟩ := h2 l hl
    walk_at "x"
    intro s2 H2 C2 cl2 fp2
    walk_at "x"
    exact ⟨rfl, rfl⟩
  refine xa_nil ⟨_, cd_any rfl, ?_⟩
  walk_at "x"
  have e : (as.filterMap fun l => some (decide ([snd2 l] = [p]))).any id = as.any fun l => decide ([snd2 l] = [p]) := by
    rw [List.filterMap_eq_map', List.any_map]
    rfl
  rw [e]
  exact h
theorem x_Way_turnedW {CU CG : Addr} (df : DeM T Cy "turned" "Way.turned" ["self", "place"] s_Way_turned) (cl : Cls T.K Cy) (n1 : NoAttr T.K Cy "lot") (p1 : Pr T Cy "web" 8 (sWayWeb Cy Cw)) (c1 : Cpx T "check_place" 3 (sChkPlaceX Cw CU)) (c2 : Cp T "does_give" 1 sGives) (c3 : Cp T "exchanged" 1 sExch) (m1 : Mk' T "Way" Cy 5 sWayI) (e1 : ErrT T "NotGiving" CG "given") : MeX T Cy "turned" 10 (sTurnW Cy CG) ∧ MeXK T Cy "turned" 10 ["place"] [0] (sTurnW Cy CG) := by
  refine mexk_of df sc_Way_turned (fun ds Q E ⟨a, b, h, _⟩ => by rw [h]; rfl) (fun _ _ _ _ _ _ _ _ u ws hl => match ws, hl with | [_], _ => rfl) ?_
  rintro hN f cdv A outer s H E0 hr m ds Q E tk ⟨as, p, rfl, ha, hp, q1, q2⟩
  have hl := ha.len
  have hpz : p < 1000 := by
    obtain ⟨t, t1, t2⟩ := List.mem_flatten.mp ((mem_pr2_flat ha.two).mp hp)
    exact ha.lw t t1 p t2
  refine xb_cons (xs_expr ?_)
  refine xe_cpx c1 tk hr (by decide) rfl ?_
  walk_at "x"
  intro Qc hq
  refine ⟨as, rfl, ha, hq _ ?_⟩; clear hq Qc
  walk_at "x"
  intro Qc Ec hq he
  refine ⟨_, .str (S [p]), rfl, ha.ties, .str [p] (by simp) (fun c hc => by rw [List.mem_singleton.mp hc]; exact hpz), fun _ => hq _ ?_, fun n => absurd ⟨p, rfl, hp⟩ n⟩
  clear hq he Qc Ec
  cases hg : givesB as p with
  | true =>
    refine xb_cons (xs_if_f ?_ (xb_nil ?_))
    · walk_at "x"
      refine ⟨_, _, _, rfl, cl, n1, rfl, ?_⟩
      walk_at "x"
      intro Qc hq
      refine ⟨as, p, rfl, ha.two, by omega, hq _ ?_⟩; clear hq Qc
      rw [hg]
      exact ⟨_, rfl, rfl, rfl⟩
    walk_at "x"
    refine ⟨_, _, _, rfl, cl, n1, rfl, ?_⟩
    walk_at "x"
    intro Qc hq
    refine ⟨as, p, rfl, ha.two, by omega, hq _ ?_⟩; clear hq Qc
    walk_at "x"
    intro Qc hq
    refine ⟨_, rfl, turn_arrs ha ((givesB_iff ha.two).mp hg), hq _ ?_⟩; clear hq Qc
    exact q1 hg
  | false =>
    refine xb_cons (xs_if_t ?_ ?_)
    · walk_at "x"
      refine ⟨_, _, _, rfl, cl, n1, rfl, ?_⟩
      walk_at "x"
      intro Qc hq
      refine ⟨as, p, rfl, ha.two, by omega, hq _ ?_⟩; clear hq Qc
      rw [hg]
      exact ⟨_, rfl, rfl, rfl⟩
    refine xb_one (xs_raiseT e1 rfl tk (hr.mono (by decide)) rfl ?_)
    walk_at "x"
    exact q2 hg
theorem x_Way_backW {CU CG : Addr} (df : DeM T Cy "back" "Way.back" ["self", "place"] s_Way_back) (cl : Cls T.K Cy) (n1 : NoAttr T.K Cy "lot") (p1 : Pr T Cy "web" 8 (sWayWeb Cy Cw)) (c1 : Cpx T "check_place" 3 (sChkPlaceX Cw CU)) (c2 : Cp T "does_take" 1 sTakes) (c3 : Cp T "exchanged" 1 sExch) (m1 : Mk' T "Way" Cy 5 sWayI) (e1 : ErrT T "NotTaking" CG "given") : MeX T Cy "back" 10 (sBackW Cy CG) ∧ MeXK T Cy "back" 10 ["place"] [0] (sBackW Cy CG) := by
  refine mexk_of df sc_Way_back (fun ds Q E ⟨a, b, h, _⟩ => by rw [h]; rfl) (fun _ _ _ _ _ _ _ _ u ws hl => match ws, hl with | [_], _ => rfl) ?_
  rintro hN f cdv A outer s H E0 hr m ds Q E tk ⟨as, p, rfl, ha, hp, q1, q2⟩
  have hl := ha.len
  have hpz : p < 1000 := by
    obtain ⟨t, t1, t2⟩ := List.mem_flatten.mp ((mem_pr2_flat ha.two).mp hp)
    exact ha.lw t t1 p t2
  refine xb_cons (xs_expr ?_)
  refine xe_cpx c1 tk hr (by decide) rfl ?_
  walk_at "x"
  intro Qc hq
  refine ⟨as, rfl, ha, hq _ ?_⟩; clear hq Qc
  walk_at "x"
  intro Qc Ec hq he
  refine ⟨_, .str (S [p]), rfl, ha.ties, .str [p] (by simp) (fun c hc => by rw [List.mem_singleton.mp hc]; exact hpz), fun _ => hq _ ?_, fun n => absurd ⟨p, rfl, hp⟩ n⟩
  clear hq he Qc Ec
  cases hg : takesB as p with
  | true =>
    refine xb_cons (xs_if_f ?_ (xb_nil ?_))
    · walk_at "x"
      refine ⟨_, _, _, rfl, cl, n1, rfl, ?_⟩
      walk_at "x"
      intro Qc hq
      refine ⟨as, p, rfl, ha.two, by omega, hq _ ?_⟩; clear hq Qc
      rw [hg]
      exact ⟨_, rfl, rfl, rfl⟩
    walk_at "x"
    refine ⟨_, _, _, rfl, cl, n1, rfl, ?_⟩
    walk_at "x"
    intro Qc hq
    refine ⟨as, p, rfl, ha.two, by omega, hq _ ?_⟩; clear hq Qc
    walk_at "x"
    intro Qc hq
    refine ⟨_, rfl, back_arrs ha ((takesB_iff ha.two).mp hg), hq _ ?_⟩; clear hq Qc
    exact q1 hg
  | false =>
    refine xb_cons (xs_if_t ?_ ?_)
    · walk_at "x"
      refine ⟨_, _, _, rfl, cl, n1, rfl, ?_⟩
      walk_at "x"
      intro Qc hq
      refine ⟨as, p, rfl, ha.two, by omega, hq _ ?_⟩; clear hq Qc
      rw [hg]
      exact ⟨_, rfl, rfl, rfl⟩
    refine xb_one (xs_raiseT e1 rfl tk (hr.mono (by decide)) rfl ?_)
    walk_at "x"
    exact q2 hg
theorem j_dip (df : De T "_law_dip" ["_law_jar_here", "_law_wide"] s_Ldip) : Cj T "_law_dip" 1 sTap := by
  refine cj_of df sc_Ldip (fun ds Q ⟨a, h, _⟩ => by rw [h]; rfl) ?_
  rintro hN f cdv A outer s H E0 hr m J ds Q E ⟨n, rfl, hn1, hn2, h⟩
  refine xb_close (J := J) (xb_open (c1 := []) (c2 := []) fun x y z hx hy hz => ?_)
  refine xb_cons (xs_asg (xe_lend (i := 0) (c1 := []) (c2 := []) rfl rfl ?_))
  walk_at "x"
  refine ⟨_, ixd_lst rfl, ?_⟩
  walk_at "x"
  refine ⟨rfl, rfl, ?_⟩
  refine xg_ix (i := 0) rfl (.inl rfl) rfl ?_
  walk_at "x"
  refine ⟨[], _, [], 2, 2, rfl, rfl, rfl, ?_⟩
  refine xb_cons (xs_if (xt_lend (i := 0) (c1 := []) (c2 := []) rfl rfl ?_))
  walk_at "x"
  refine ⟨_, ixd_lst rfl, ?_⟩
  walk_at "x"
  refine ⟨rfl, ?_⟩
  refine ite_c (fun hz0 => ?_) (fun hz0 => ?_)
  · have hz0 : 0 < x := hz0
    refine xb_cons ?_
    walk_at "xset"
    refine xe_lend (i := 0) (c1 := []) (c2 := []) rfl rfl ?_
    walk_at "x"
    refine ⟨_, ixd_lst rfl, ?_⟩
    walk_at "x"
    refine ⟨_, od_mod (by omega), ?_⟩
    refine ⟨rfl, rfl, ?_⟩
    refine xb_cons (xs_asg (xe_lend (i := 0) (c1 := []) (c2 := []) rfl rfl ?_))
    walk_at "x"
    refine ⟨_, ixd_lst rfl, ?_⟩
    walk_at "x"
    refine ⟨_, od_fdiv ⟨by omega, by omega⟩, ?_⟩
    refine ⟨rfl, rfl, ?_⟩
    refine xg_ix (i := 0) rfl (.inl rfl) rfl ?_
    walk_at "x"
    refine ⟨[], _, [], 0, 0, rfl, rfl, rfl, ?_⟩
    walk_at "x"
    have h0 : 0 ≤ x % (n : Int) := Int.emod_nonneg _ (by omega)
    have h1 : x % (n : Int) < n := Int.emod_lt_of_pos _ (by omega)
    refine ⟨x / (n : Int), y, z + 1, Int.ediv_nonneg (by omega) (by omega), hy, by omega, rfl, ?_⟩
    have := h (x % (n : Int)).toNat (by omega)
    rw [Int.toNat_of_nonneg h0] at this
    exact this
  · refine xb_nil (xb_cons ?_)
    walk_at "xset"
    refine xe_lend (i := 0) (c1 := []) (c2 := []) rfl rfl ?_
    walk_at "x"
    refine ⟨_, ixd_lst rfl, ?_⟩
    walk_at "x"
    refine ⟨rfl, rfl, ?_⟩
    refine xb_cons (xs_asg (xe_lend (i := 0) (c1 := []) (c2 := []) rfl rfl ?_))
    walk_at "x"
    refine ⟨_, od_mul (.inr ⟨by omega, by omega⟩), ?_⟩
    walk_at "x"
    refine ⟨_, ixd_lst rfl, ?_⟩
    walk_at "x"
    refine ⟨_, od_mul (.inr ⟨by omega, by omega⟩), ?_⟩
    walk_at "x"
    refine ⟨_, od_mod (by omega), ?_⟩
    refine ⟨rfl, rfl, ?_⟩
    generalize hv : (y * 40692 + (z + 1) * 52021 + 31) % 2147483399 = v
    have hv0 : 0 ≤ v := by rw [← hv]; exact Int.emod_nonneg _ (by omega)
    refine xg_ix (i := 0) rfl (.inl rfl) rfl ?_
    walk_at "x"
    refine ⟨[], _, [], 1, 1, rfl, rfl, rfl, ?_⟩
    refine xb_one (xs_ret (xe_lend (i := 0) (c1 := []) (c2 := []) rfl rfl ?_))
    walk_at "x"
    refine ⟨_, ixd_lst rfl, ?_⟩
    walk_at "x"
    refine ⟨_, od_fdiv ⟨by omega, by omega⟩, ?_⟩
    walk_at "x"
    refine ⟨_, od_mod (by omega), ?_⟩
    refine ⟨rfl, rfl, ?_⟩
    have h0 : 0 ≤ v / 2048 % (n : Int) := Int.emod_nonneg _ (by omega)
    have h1 : v / 2048 % (n : Int) < n := Int.emod_lt_of_pos _ (by omega)
    refine ⟨x, v, z + 1, hx, hv0, by omega, rfl, ?_⟩
    have := h (v / 2048 % (n : Int)).toNat (by omega)
    rw [Int.toNat_of_nonneg h0] at this
    exact this
theorem jj_pick (df : De T "_law_pick" ["_law_jar_here", "_law_menu"] s_Lpick) (c1 : Cj T "_law_dip" 1 sTap) : Cj T "_law_pick" 2 sPick := by
  refine cj_of df sc_Lpick (fun ds Q ⟨a, _, h, _⟩ => by rw [h]; rfl) ?_
  rintro hN f cdv A outer s H E0 hr m J ds Q E ⟨d, xs, rfl, hd, hne, hl, h⟩
  have hpos : 0 < xs.length := List.length_pos_iff.mpr hne
  have hln : ∀ X : Cx, CallD X (.builtin "len") [d] (.int xs.length) := fun X => by
    rcases hd with rfl | rfl | ⟨l, rfl, rfl⟩
    · exact cd_len_lst
    · exact cd_len_tup
    · have hl : l.length ≤ 100000 := by simpa using hl
      rw [List.length_map]
      exact cd_len_str hl
  have hix : ∀ (X : Cx) (i : Nat) (x : D), xs[i]? = some x → IxD X d (.int i) x := fun X i x hx => by
    rcases hd with rfl | rfl | ⟨l, rfl, rfl⟩
    · exact ixd_lst (atI_nat hx)
    · exact ixd_tup (atI_nat hx)
    · have hl : l.length ≤ 100000 := by simpa using hl
      rw [List.getElem?_map] at hx
      obtain ⟨c, hc, rfl⟩ := Option.map_eq_some_iff.mp hx
      exact ixd_str hl (atI_nat hc)
  walk_at "x"
  refine ⟨_, hln _, ?_⟩
  walk_at "x"
  refine ⟨J, [], _, rfl, rfl, ?_⟩
  intro Qc hq
  refine ⟨xs.length, rfl, hpos, by omega, fun i hi => hq _ ?_⟩; clear hq Qc
  obtain ⟨x, hx⟩ : ∃ x, xs[i]? = some x := ⟨_, List.getElem?_eq_getElem hi⟩
  walk_at "x"
  refine ⟨_, hix _ i x hx, ?_⟩
  exact h x (List.mem_of_getElem? hx)
theorem jj_pool (df : De T "_law_pool" ["_law_jar_here", "_law_many"] s_Lpool) (c1 : Cj T "_law_dip" 1 sTap) : Cj T "_law_pool" 3 sLetters := by
  refine cj_of df sc_Lpool (fun ds Q ⟨a, h, _⟩ => by rw [h]; rfl) ?_
  rintro hN f cdv A outer s H E0 hr m J ds Q E ⟨n, rfl, hn, h⟩
  refine xb_cons (xs_par (i := 2) (j := 3) rfl hN rfl rfl (by decide) rfl rfl (xa_cons (xe_own_listS rfl B.list (xa_cons ?_))))
  obtain ⟨w, hwe, hwn, hw7, hwl, hwa⟩ : ∃ w : List Nat, w = [97, 98, 99, 100, 101, 102, 103, 104, 105, 106, 107, 109, 120, 121, 122] ∧ w.Nodup ∧ 7 ≤ w.length ∧ w.length ≤ 100 ∧ Az w := ⟨_, rfl, by decide, by decide, by decide, by unfold Az; decide⟩
  walk_at "x"
  rw [← hwe]
  refine ⟨by omega, fun p => ?_⟩
  refine xa_cons (xe_own_lst (xa_nil ⟨by simp, fun q => xa_nil ⟨_, _, rfl, ?_⟩⟩))
  refine xb_cons (xs_forN (i := 4) PassesOwn.never hN rfl (.inl rfl) (xi_rng1 rfl B.range ?_))
  walk_at "x"
  refine ⟨by omega, by omega, ?_⟩
  refine ⟨fun k Γ1 => ∃ L F o, Γ1 = ⟨[some (.ref J), some (.int (n : Int)), some (.ref p), some (.ref q), o], [(J, .jar), (p, .lst (SL (ch L))), (q, .lst (SL (ch F)))]⟩ ∧ (L ++ F).Perm w ∧ F.length = k, ⟨w, [], none, rfl, by simp, rfl⟩, ?_, ?_⟩
  · rintro k d Γ2 hk ⟨L, F, o, rfl, hp, hF⟩
    obtain ⟨hk1, rfl⟩ := rng_get hk
    have hk1 : k < n := by simpa using hk1
    have hlen := hp.length_eq
    rw [List.length_append] at hlen
    refine xb_one (xs_expr (xe_append (i := 3) rfl (.inl rfl) rfl (xe_pop (i := 2) rfl (.inl rfl) rfl (xe_cj c1 hr (by decide) rfl (xa_cons ?_)) ⟨[(J, .jar)], _, [_], rfl⟩) ⟨[_, _], _, [], rfl⟩))
    walk_at "xv"
    refine xa_cons (xe_lend (i := 2) (c1 := [(J, .jar)]) (c2 := [(q, .lst (SL (ch F)))]) rfl rfl ?_)
    walk_at "x"
    refine ⟨rfl, rfl, ?_⟩
    walk_at "x"
    refine ⟨J, _, _, rfl, rfl, ?_⟩
    intro Qc hq
    refine ⟨L.length, by simp [SL, ch], by omega, by omega, fun i hi => hq _ ?_⟩; clear hq Qc
    obtain ⟨c, hc⟩ : ∃ c, L[i]? = some c := ⟨_, List.getElem?_eq_getElem hi⟩
    refine ⟨[_], _, [_], i, _, rfl, rfl, by omega, ch_get hc, ?_⟩
    refine ⟨[_, _], _, [], rfl, by rw [SL_len, ch_len]; omega, ?_⟩
    rw [ch_erase, ch_snoc]
    exact ⟨_, _, _, rfl, pop_perm hc hp, by simp [hF]⟩
  · rintro Γ2 ⟨L, F, o, rfl, hp, hF⟩
    have hF : F.length = n := by simpa [rngD] using hF
    refine xb_freeze (i := 3) (c1 := [(J, .jar), (p, .lst (SL (ch L)))]) (c2 := []) rfl rfl ?_
    refine xb_drop (c1 := [(J, .jar)]) (c2 := []) ?_
    walk_at "x"
    refine ⟨_, cd_sortedS rfl hr.units (items_lst _) (by rw [ch_len]; omega), ?_⟩
    rw [srt_ch]
    walk_at "x"
    refine ⟨_, md_join_lst (by rw [flat_len, ch_flat, ch_len, sN_len']; simp; omega), ?_⟩
    rw [join_flat, ch_flat]
    have hnd : (L ++ F).Nodup := hp.nodup_iff.mpr hwn
    refine h (sN F) (sN_lt (List.nodup_append.mp hnd).2.1) (by rw [sN_len']; exact hF) fun c hc => hwa c (hp.mem_iff.mp (List.mem_append_right _ (mem_sN'.mp hc)))
theorem c_Ltwo (df : De T "_law_two" ["_law_one", "_law_other"] s_Ltwo) : Cp T "_law_two" 1 sPair := by
  refine cp_of df sc_Ltwo (fun ds Q ⟨a, b, h, _⟩ => by rw [h]; rfl) ?_
  rintro hN f cdv A outer s H E0 hr m ds Q E ⟨a, b, rfl, hl, h⟩
  walk_at "x"
  refine ⟨_, od_addS ?_, ?_⟩
  · split <;> split <;> omega
  · show Q _ _
    by_cases hab : b < a
    · have : ¬ a < b := List.lt_asymm hab
      simp only [hab, this, if_true, if_false] at h ⊢
      exact h
    · by_cases hba : a < b
      · simp only [hab, hba, if_true, if_false] at h ⊢
        exact h
      · have e : a = b := List.le_antisymm (List.not_lt.mp hab) (List.not_lt.mp hba)
        subst e
        simp only [hab, if_false] at h ⊢
        exact h
theorem jj_ties (df : De T "_law_ties" ["_law_jar_here", "_law_most"] s_Lties) (c1 : Cj T "_law_dip" 1 sTap) (c2 : Cj T "_law_pick" 2 sPick) (c3 : Cj T "_law_pool" 3 sLetters) (c4 : Cp T "_law_two" 1 sPair) : Cj T "_law_ties" 4 sJties := by
  refine cj_of df sc_Lties (fun ds Q ⟨a, h, _⟩ => by rw [h]; rfl) ?_
  rintro hN f cdv A outer s H E0 hr m J ds Q E ⟨n, rfl, hn2, hn7, h⟩
  walk_at "x"
  refine ⟨J, [], _, rfl, rfl, ?_⟩
  intro Qc hq
  refine ⟨n - 1, by rw [show (n : Int) - 1 = ((n - 1 : Nat) : Int) by omega], by omega, by omega, fun i hi => hq _ ?_⟩; clear hq Qc
  walk_at "x"
  refine ⟨J, [], _, rfl, rfl, ?_⟩
  intro Qc hq
  refine ⟨2 + i, by rw [show (2 : Int) + (i : Int) = ((2 + i : Nat) : Int) by omega], by omega, fun l hls hll hla => hq _ ?_⟩; clear hq Qc
  have hln : l.Nodup := hls.imp fun h => Nat.ne_of_lt h
  refine xb_cons (xs_asg (xe_own_lst (xa_nil ⟨by simp, fun p => ?_⟩)))
  walk_at "xgn"
  refine xb_cons (xs_forN (i := 5) PassesOwn.never hN rfl (.inl rfl) (xi_rng2 rfl B.range ?_))
  walk_at "x"
  refine ⟨1, l.length, by rw [hll]; simp, ⟨by omega, by omega⟩, ⟨by omega, by omega⟩, ?_⟩
  refine ⟨fun j Γ1 => ∃ ks o5, Γ1 = ⟨[some (.ref J), some (.int (n : Int)), some (.int (2 + (i : Int))), some (.str (S l)), some (.ref p), o5, none, none, none, none, none], [(J, .jar), (p, .lst (SL ks))]⟩ ∧ NetI l (j + 1) ks ∧ ks.length = j ∧ ∀ t ∈ ks, ∀ x ∈ t, ∃ i, i < j + 1 ∧ l[i]? = some x, ⟨[], none, rfl, ⟨List.nodup_nil, fun t ht => (by cases ht), fun j c h1 h2 _ => (by omega)⟩, rfl, fun t ht => by cases ht⟩, ?_, ?_⟩
  · rintro j d Γ2 hj ⟨ks, o5, rfl, hni, hkl, hkx⟩
    obtain ⟨hj1, rfl⟩ := rng_get1 (lo := 1) hj
    have hj1 : 1 + j < l.length := by omega
    obtain ⟨a, ha⟩ : ∃ a, l[1 + j]? = some a := ⟨_, List.getElem?_eq_getElem hj1⟩
    refine xb_one (xs_expr (xe_append (i := 4) rfl (.inl rfl) rfl ?_ ⟨[_], _, [], rfl⟩))
    walk_at "x"
    refine ⟨J, _, _, rfl, rfl, ?_⟩
    intro Qc hq
    refine ⟨1 + j, rfl, by omega, by omega, fun i' hi' => hq _ ?_⟩; clear hq Qc
    obtain ⟨b, hb⟩ : ∃ b, l[i']? = some b := ⟨_, List.getElem?_eq_getElem (by omega)⟩
    refine ⟨_, ixd_str (by omega) (atI_nat hb), ?_⟩
    walk_at "x"
    refine ⟨_, ixd_str (by omega) (atI_nat ha), ?_⟩
    walk_at "x"
    intro Qc hq
    refine ⟨[b], [a], rfl, by simp, hq _ ?_⟩; clear hq Qc
    obtain ⟨hne, hni2⟩ := NetI.next hln (show NetI l (1 + j) ks by rw [Nat.add_comm]; exact hni) ha hb hi'
    have hpr : (if ([a] < [b]) then [a] ++ [b] else [b] ++ [a]) = pr2 [b, a] := pr2_pair
    rw [hpr]
    have hnew : pr2 [a, b] ∉ ks := fun hm => by
      have hx : a ∈ pr2 [a, b] := by unfold pr2; dsimp only; split <;> simp
      obtain ⟨i2, hi2, hi3⟩ := hkx _ hm a hx
      have := (List.getElem?_inj (by omega) hln).mp (hi3.trans ha.symm)
      omega
    have hins : insT ks (pr2 [a, b]) = ks ++ [pr2 [a, b]] := if_neg hnew
    rw [hins] at hni2
    rw [pr2_comm (a := b)]
    refine ⟨[_], _, [], rfl, by rw [SL_len]; omega, ?_⟩
    rw [SL_snoc]
    refine ⟨_, _, rfl, ?_, by simp [hkl], ?_⟩
    · rw [show j + 1 + 1 = 1 + j + 1 by omega]
      exact hni2
    · intro t ht x hx
      rcases List.mem_append.mp ht with z | z
      · obtain ⟨i2, h1, h2⟩ := hkx t z x hx
        exact ⟨i2, by omega, h2⟩
      · rw [List.mem_singleton.mp z] at hx
        have hx : x = a ∨ x = b := by
          unfold pr2 at hx
          dsimp only at hx
          split at hx
          · simp at hx; omega
          · simp at hx; omega
        rcases hx with rfl | rfl
        · exact ⟨1 + j, by omega, ha⟩
        · exact ⟨i', by omega, hb⟩
  rintro Γ2 ⟨ks, o5, rfl, hni, hkl, hkx0⟩
  clear hkx0
  have hrl : (rngD 1 ((l.length : Int) - 1).toNat).length = l.length - 1 := by rw [rng_len]; omega
  rw [hrl] at hni hkl
  replace hni : NetI l l.length ks := by
    have e : l.length - 1 + 1 = l.length := by omega
    rw [e] at hni
    exact hni
  have hk10 : ks.length ≤ 10 := by omega
  clear hkl
  walk_at "x"
  refine ⟨by simp, ?_⟩
  walk_at "x"
  refine xs_forN (i := 7) PassesOwn.never hN rfl (.inr rfl) (xi_str ?_)
  walk_at "xv"
  refine ⟨l, rfl, ?_⟩
  refine ⟨fun j Γ1 => ∃ ev o7, Γ1 = ⟨[some (.ref J), some (.int (n : Int)), some (.int (2 + (i : Int))), some (.str (S l)), some (.ref p), o5, some (.lst (SL ev)), o7, none, none, none], [(J, .jar), (p, .lst (SL ks))]⟩ ∧ ev.length ≤ 7 * j ∧ (∀ t ∈ ev, ∃ a b, t = [a, b] ∧ a < b ∧ a ∈ l ∧ b ∈ l) ∧ (1 ≤ j → ev ≠ []), ⟨[], none, rfl, Nat.le_refl _, fun t ht => (by cases ht), fun z => (by omega)⟩, ?_, ?_⟩
  · rintro j d Γ2 hj ⟨ev, o7, rfl, hev, hep, hen⟩
    rw [List.getElem?_map] at hj
    obtain ⟨a, ha, rfl⟩ := Option.map_eq_some_iff.mp hj
    have hjl : j < l.length := (List.getElem?_eq_some_iff.mp ha).1
    have haw : a ∈ l := List.mem_of_getElem? ha
    walk_at "x"
    refine xe_lcA (fun c => .str (S [c])) (fun l => .str (S l)) (i := 10) hN rfl (by show blkC n_Lties (defScope s_Lties) _ _ = true; decide +kernel) (fun _ _ _ _ _ => .inl rfl) (fun _ _ _ _ _ => .inr rfl) ?_
    refine xi_any ?_
    walk_at "xv"
    refine ⟨_, items_str _, l, fun c => if decide ([a] < [c]) = true then some [a, c] else none, by simp [SL, ch], by omega, ?_, ?_⟩
    · intro c hc μ' s1 H1 C1 cl1 fp1
      walk_at "x"
      refine ite_b (fun hg => ?_) (fun hg => ?_)
      · intro s3 H3 C3 cl3 fp3
        walk_at "x"
        exact ⟨_, od_addS (by simp), _, if_pos hg, rfl, rfl⟩
      · exact ⟨if_neg (by rw [hg]; exact Bool.false_ne_true), rfl⟩
    obtain ⟨nw, hnw⟩ : ∃ nw, nw = l.filterMap fun c => if decide ([a] < [c]) = true then some [a, c] else none := ⟨_, rfl⟩
    rw [← hnw]
    have hnl : nw.length ≤ 7 := by rw [hnw]; exact Nat.le_trans (List.length_filterMap_le _ _) (by omega)
    refine ⟨_, od_catL (xs := SL ev) (ys := SL nw) (by rw [SL_len, SL_len]; omega), ?_⟩
    walk_at "x"
    have ecat : SL ev ++ SL nw = SL (ev ++ nw) := by unfold SL; rw [List.map_append]
    rw [ecat]
    refine ⟨ev ++ nw, _, rfl, by rw [List.length_append]; omega, ?_, fun _ => ?_⟩
    · intro t ht
      rcases List.mem_append.mp ht with z | z
      · exact hep t z
      · rw [hnw] at z
        obtain ⟨c, hc, e⟩ := List.mem_filterMap.mp z
        split at e
        · next hlt =>
          cases e
          exact ⟨a, c, rfl, lt1.mp (of_decide_eq_true hlt), haw, hc⟩
        · cases e
    · intro z
      rcases Nat.eq_zero_or_pos j with rfl | hj0
      · -- the first letter is tied to the second one
        obtain ⟨c, hc⟩ : ∃ c, l[1]? = some c := ⟨_, List.getElem?_eq_getElem (by omega)⟩
        have hac : a < c := by
          obtain ⟨h0, e0⟩ := List.getElem?_eq_some_iff.mp ha
          obtain ⟨h1, e1⟩ := List.getElem?_eq_some_iff.mp hc
          rw [← e0, ← e1]
          exact List.pairwise_iff_getElem.mp hls 0 1 h0 h1 (by omega)
        have : [a, c] ∈ nw := by
          rw [hnw]
          exact List.mem_filterMap.mpr ⟨c, List.mem_of_getElem? hc, if_pos (decide_eq_true (lt1.mpr hac))⟩
        rw [(List.append_eq_nil_iff.mp z).2] at this
        cases this
      · exact hen hj0 (List.append_eq_nil_iff.mp z).1
  rintro Γ2 ⟨ev, o7, rfl, hev, hep, hen⟩
  rw [List.length_map] at hev hen
  have hne : ev ≠ [] := hen (by omega)
  clear hen
  walk_at "x"
  refine xs_forN (i := 8) PassesOwn.never hN rfl (.inl rfl) (xi_rng1 rfl B.range ?_)
  walk_at "x"
  refine ⟨by simp, ?_⟩
  walk_at "x"
  refine ⟨J, _, _, rfl, rfl, ?_⟩
  intro Qc hq
  refine ⟨_, _, rfl, .inl rfl, by simp, by simp, fun x hx => hq _ ?_⟩; clear hq Qc
  obtain ⟨w, rfl, hw1, hw2⟩ : ∃ w : Nat, x = .int w ∧ 1 ≤ w ∧ w ≤ 9 := by
    simp only [List.mem_cons, List.not_mem_nil, or_false] at hx
    rcases hx with rfl | rfl | rfl
    · exact ⟨1, rfl, by omega, by omega⟩
    · exact ⟨4, rfl, by omega, by omega⟩
    · exact ⟨9, rfl, by omega, by omega⟩
  clear hx
  walk_at "x"
  refine ⟨J, _, _, rfl, rfl, ?_⟩
  intro Qc hq
  refine ⟨w, rfl, by omega, by omega, fun r hr' => hq _ ?_⟩; clear hq Qc
  walk_at "x"
  refine ⟨by omega, by omega, ?_⟩
  refine ⟨fun j Γ1 => ∃ ks o8 o9, Γ1 = ⟨[some (.ref J), some (.int (n : Int)), some (.int (2 + (i : Int))), some (.str (S l)), some (.ref p), o5, some (.lst (SL ev)), o7, o8, o9, none], [(J, .jar), (p, .lst (SL ks))]⟩ ∧ NetI l l.length ks ∧ ks.length ≤ 10, ⟨ks, none, none, rfl, hni, hk10⟩, ?_, ?_⟩
  · clear hni hk10
    clear ks
    rintro j d Γ2 hj ⟨ks, o8, o9, rfl, hni, hk10⟩
    walk_at "x"
    refine ⟨J, _, _, rfl, rfl, ?_⟩
    intro Qc hq
    refine ⟨_, _, rfl, .inl rfl, by simpa [SL] using hne, by rw [SL_len]; omega, fun x hx => hq _ ?_⟩; clear hq Qc
    obtain ⟨t, ht, rfl⟩ := List.mem_map.mp hx
    obtain ⟨a, b, rfl, hab, ha, hb⟩ := hep t ht
    clear hx ht
    by_cases hc : [a, b] ∉ ks ∧ ks.length < 10
    · refine xb_one (xs_if_t ?_ ?_)
      · refine xt_lend (i := 4) (c1 := [(J, .jar)]) (c2 := []) rfl rfl ?_
        walk_at "x"
        rw [if_pos (by simp [hc.1])]
        walk_at "x"
        exact ⟨rfl, by rw [SL_len]; simp; omega, rfl⟩
      refine xb_one (xs_expr (xe_append (i := 4) rfl (.inl rfl) rfl ?_ ⟨[_], _, [], rfl⟩))
      walk_at "xv"
      refine ⟨[_], _, [], rfl, by rw [SL_len]; omega, ?_⟩
      rw [SL_snoc]
      have hp2 : pr2 [a, b] = [a, b] := if_neg (by omega)
      have := hni.ins (a := a) (b := b) (by omega) ha hb
      rw [hp2, show insT ks [a, b] = ks ++ [[a, b]] from if_neg hc.1] at this
      exact ⟨_, _, _, rfl, this, by simp; omega⟩
    · refine xb_one (xs_if_f ?_ (xb_nil ⟨_, _, _, rfl, hni, hk10⟩))
      refine xt_lend (i := 4) (c1 := [(J, .jar)]) (c2 := []) rfl rfl ?_
      walk_at "x"
      by_cases hm : [a, b] ∈ ks
      · rw [if_neg (by simp [hm])]
        exact ⟨rfl, rfl, rfl⟩
      · rw [if_pos (by simp [hm])]
        walk_at "x"
        have hge : ¬ ks.length < 10 := fun z => hc ⟨hm, z⟩
        exact ⟨rfl, by rw [SL_len]; simp; omega, rfl⟩
  · clear hni hk10
    clear ks
    rintro Γ2 ⟨ks, o8, o9, rfl, hni, hk10⟩
    refine xb_freeze (i := 4) (c1 := [(J, .jar)]) (c2 := []) rfl rfl ?_
    walk_at "x"
    refine ⟨_, cd_sortedS rfl hr.units (items_lst _) (by omega), ?_⟩
    walk_at "x"
    refine ⟨by simp, ?_⟩
    obtain ⟨hti, hmem⟩ := net_ties hln hla (by omega) (by omega) hk10 hni
    exact h l _ ⟨hti, us_eq hls fun x => (hmem x).symm, by omega, by omega, hla⟩
theorem jj_laid (df : De T "_law_laid" ["_law_jar_here", "_law_ties_here", "_law_glyphs"] s_Llaid) (c1 : Cj T "_law_dip" 1 sTap) : Cj T "_law_laid" 2 sJlaid := by
  refine cj_of df sc_Llaid (fun ds Q ⟨a, b, h, _⟩ => by rw [h]; rfl) ?_
  rintro hN f cdv A outer s H E0 hr m J ds Q E ⟨ls, w, rfl, ht, hw, h⟩
  have hwn : w.Nodup := by rw [← hw]; exact us_nodup _
  have hwl : w.length ≤ 7 := by rw [← hw]; exact ht.few
  have hwa : Az w := fun c hc => by
    rw [← hw, mem_us] at hc
    obtain ⟨t, h1, h2⟩ := List.mem_flatten.mp hc
    obtain ⟨a, b, rfl, h3, h4, h5⟩ := ht.pr t h1
    simp at h2
    omega
  refine xb_cons (xs_asg (xe_tup (xa_cons (xe_own_listS rfl B.list (xa_cons ?_)))))
  walk_at "xv"
  refine xa_nil ⟨w, rfl, by omega, fun p => ?_⟩
  walk_at "x"
  refine ⟨by simp, ?_⟩
  refine xg_tup rfl rfl (xgs_cons ?_)
  walk_at "xgn"
  refine xgs_cons ?_
  walk_at "xgn"
  refine xgs_nil ?_
  refine xb_cons (xs_while PassesOwn.never (fun Γ1 => ∃ L F, Γ1 = ⟨[some (.ref J), some (.tup (SL ls)), some (.str (S w)), some (.ref p), some (.str (S F)), none], [(J, .jar), (p, .lst (SL (ch L)))]⟩ ∧ (L ++ F).Perm w) (fun Γ1 => match Γ1.c with | [_, (_, .lst xs)] => xs.length | _ => 0) ⟨w, [], rfl, by simp⟩ ?_)
  rintro Γ1 ⟨L, F, rfl, hp⟩
  have hlen := hp.length_eq
  rw [List.length_append] at hlen
  have hlw : Lw (ch L) := fun l hl c hc => by
    obtain ⟨x, hx, rfl⟩ := List.mem_map.mp hl
    simp at hc
    subst hc
    have := hwa c (hp.mem_iff.mp (List.mem_append_left _ hx))
    omega
  refine xt_lend (i := 3) (c1 := [(J, .jar)]) (c2 := []) rfl rfl ?_
  walk_at "x"
  refine ⟨by simp, ?_⟩
  refine ⟨_, od_neL (b := []) hr.units hlw (fun l hl => by cases hl), ?_⟩
  refine ⟨rfl, ?_⟩
  by_cases he : L = []
  · subst he
    rw [if_neg (by simp [ch])]
    have hpF : F.Perm w := by simpa using hp
    refine xb_drop (c1 := [(J, .jar)]) (c2 := []) ?_
    have hin : ∀ x ∈ ls.flatten, x ∈ F := fun x hx => hpF.mem_iff.mpr (by rw [← hw]; exact mem_us.mpr hx)
    walk_at "x"
    refine xe_lcA (fun l => .str (S l)) (fun l => .str (S l)) (i := 5) hN rfl (by show blkC n_Llaid (defScope s_Llaid) _ _ = true; decide +kernel) (fun _ _ _ _ _ => .inl rfl) (fun _ _ _ _ _ => .inr rfl) ?_
    refine xi_any ?_
    walk_at "x"
    refine ⟨_, items_tup _, ls, fun l => some (lay F l), rfl, by have := ht.len; omega, ?_, ?_⟩
    · intro l hl μ' s1 H1 C1 cl1 fp1
      obtain ⟨a, b, rfl, h1, h2, h3⟩ := ht.pr l hl
      have ha : a ∈ F := hin a (List.mem_flatten.mpr ⟨_, hl, by simp⟩)
      have hb : b ∈ F := hin b (List.mem_flatten.mpr ⟨_, hl, by simp⟩)
      walk_at "x"
      intro s3 H3 C3 cl3 fp3
      walk_at "x"
      refine ⟨_, md_index ha, ?_⟩
      walk_at "x"
      refine ⟨_, md_index hb, ?_⟩
      walk_at "x"
      refine ite_c (fun hlt => ?_) (fun hlt => ?_)
      · walk_at "x"
        refine ⟨?_, rfl⟩
        show _ = D.str (S (if idx F a < idx F b then [a, b] else [b, a]))
        rw [if_pos (by omega)]
      · walk_at "x"
        refine ⟨by simp, _, rfl, ?_, rfl⟩
        show _ = D.str (S (if idx F a < idx F b then [a, b] else [b, a]))
        rw [if_neg (by omega)]
        rfl
    have e : (ls.filterMap fun l => some (lay F l)) = ls.map (lay F) := by simp
    rw [e]
    walk_at "x"
    exact h F hpF
  · rw [if_pos (by simp [ch, he])]
    have hpos : 0 < L.length := List.length_pos_iff.mpr he
    refine xb_one (xs_asg (xe_op ?_))
    walk_at "xv"
    refine xe_pop (i := 3) rfl (.inl rfl) rfl (xe_cj c1 hr (by decide) rfl (xa_cons ?_)) ⟨[(J, .jar)], _, [], rfl⟩
    walk_at "xv"
    refine xa_cons (xe_lend (i := 3) (c1 := [(J, .jar)]) (c2 := []) rfl rfl ?_)
    walk_at "x"
    refine ⟨rfl, rfl, ?_⟩
    walk_at "x"
    refine ⟨J, _, _, rfl, rfl, ?_⟩
    intro Qc hq
    refine ⟨L.length, by simp [SL, ch], by omega, by omega, fun i hi => hq _ ?_⟩; clear hq Qc
    obtain ⟨c, hc⟩ : ∃ c, L[i]? = some c := ⟨_, List.getElem?_eq_getElem hi⟩
    refine ⟨[_], _, [], i, _, rfl, rfl, by omega, ch_get hc, ?_⟩
    refine ⟨_, od_addS (by simp; omega), ?_⟩
    walk_at "xgn"
    rw [ch_erase]
    refine ⟨⟨_, _, rfl, pop_perm hc hp⟩, ?_⟩
    show (SL (ch (L.eraseIdx i))).length < (SL (ch L)).length
    rw [SL_len, SL_len, ch_len, ch_len, List.length_eraseIdx_of_lt hi]
    omega
theorem c_Lglyphs_of (df : De T "_law_glyphs_of" ["_law_ties_here"] s_Lglyphs_of) : Cp T "_law_glyphs_of" 1 sPlaces := by
  refine cp_of df sc_Lglyphs_of (fun ds Q ⟨d, ls, h, _⟩ => by rw [h]; rfl) ?_
  rintro hN f cdv A outer s H E0 hr m ds Q E ⟨d, ls, rfl, hd, hl0, hl, h⟩
  have hlen : (ls.map List.length).sum + ls.length * ([] : List Nat).length ≤ 100000 := by rw [flat_len]; show _ + ls.length * 0 ≤ _; omega
  have hus : (us ls.flatten).length ≤ ls.flatten.length := us_len_le fun x h => h
  have hj : ∃ r, MtD (cX T ["_law_ties_here"] "_law_glyphs_of" s_Lglyphs_of f cdv A outer s H E0) "str.join" (.str (S [])) [d] (.str (S r)) ∧ r = ls.flatten := by
    rcases hd with rfl | rfl
    · exact ⟨_, md_join_lst hlen, join_flat ls⟩
    · exact ⟨_, md_join_tup hlen, join_flat ls⟩
  obtain ⟨r, hj, rfl⟩ := hj
  walk_at "x"
  refine ⟨_, hj, ?_⟩
  walk_at "x"
  refine ⟨_, cd_set rfl (items_str _) (by rw [ch_len]; omega), ?_⟩
  walk_at "x"
  refine ⟨_, cd_sorted_set rfl hr.units (by rw [ch_len]; omega), ?_⟩
  rw [usL_ch]
  walk_at "x"
  refine ⟨_, md_join_lst (by rw [flat_len, ch_flat, ch_len]; simp; omega), ?_⟩
  rw [join_flat, ch_flat]
  exact h
theorem jj_walk (df : De T "_law_walk" ["_law_jar_here", "_law_arrows_here", "_law_most"] s_Lwalk) (c1 : Cj T "_law_dip" 1 sTap) (c2 : Cj T "_law_pick" 2 sPick) (c3 : Cp T "_law_glyphs_of" 1 sPlaces) (c4 : Cp T "_law_gives" 1 sGives') (c5 : Cp T "_law_flip" 1 sExch) : Cj T "_law_walk" 3 sWalk := by
  refine cj_of df sc_Lwalk (fun ds Q ⟨a, b, h, _⟩ => by rw [h]; rfl) ?_
  rintro hN f cdv A outer s H E0 hr m J ds Q E ⟨as, n, rfl, ha, hn, h⟩
  have hfew := ha.few
  refine xb_cons (xs_par (i := 3) (j := 4) rfl hN rfl rfl (by decide) rfl rfl (xa_cons ?_))
  walk_at "x"
  intro Qc hq
  refine ⟨_, as, rfl, .inr rfl, by have := ha.len; omega, by have := ha.flat; omega, hq _ ?_⟩; clear hq Qc
  refine xa_nil ⟨_, _, rfl, ?_⟩
  refine xb_cons (xs_forN (i := 5) PassesOwn.never hN rfl (.inl rfl) (xi_rng1 rfl B.range ?_))
  walk_at "x"
  refine ⟨J, _, _, rfl, rfl, ?_⟩
  intro Qc hq
  refine ⟨n + 1, by rw [show (n : Int) + 1 = ((n + 1 : Nat) : Int) by omega], by omega, by omega, fun r hr' => hq _ ?_⟩; clear hq Qc
  walk_at "x"
  refine ⟨by omega, by omega, ?_⟩
  refine ⟨fun j Γ1 => ∃ row bs o5 o6, Γ1 = ⟨[some (.ref J), some (.tup (SL bs)), some (.int (n : Int)), some (.str (S row)), some (.str (S (us as.flatten))), o5, o6, none], [(J, .jar)]⟩ ∧ Row as row bs ∧ row.length = j, ⟨[], as, none, none, rfl, .nil, rfl⟩, ?_, ?_⟩
  · rintro j d Γ2 hj ⟨row, bs, o5, o6, rfl, hrow, hrl⟩
    obtain ⟨hj1, rfl⟩ := rng_get hj
    have hb := hrow.arrs ha
    have husb : us bs.flatten = us as.flatten := by
      obtain ⟨t1, _, t3, _⟩ := hrow.facts ha.two ha.rk
      rw [← us_pr2 t1, ← us_pr2 ha.two, show as.map pr2 = bs.map pr2 from t3]
    refine xb_cons ?_
    walk_at "xset"
    walk_at "x"
    refine xe_lcA (fun c => .str (S [c])) (fun c => .str (S [c])) (i := 7) hN rfl (by show blkC n_Lwalk (defScope s_Lwalk) _ _ = true; decide +kernel) (fun _ _ _ _ _ => .inl rfl) (fun _ _ _ _ _ => .inr rfl) ?_
    refine xi_any ?_
    walk_at "xv"
    refine ⟨_, items_str _, us as.flatten, fun c => if givesB bs c = true then some c else none, by simp [SL, ch], by omega, ?_, ?_⟩
    · intro c hc μ' s1 H1 C1 cl1 fp1
      walk_at "x"
      intro Qc hq
      refine ⟨bs, c, rfl, hb.two, by have := hb.len; omega, hb.lw, hq _ ?_⟩; clear hq Qc
      refine ⟨_, rfl, ?_⟩
      refine ite_b (fun hg => ?_) (fun hg => ?_)
      · intro s3 H3 C3 cl3 fp3
        walk_at "x"
        exact ⟨c, if_pos hg, rfl, rfl⟩
      · exact ⟨if_neg (by rw [hg]; exact Bool.false_ne_true), rfl⟩
    rw [fm_filter]
    have hhd : (us as.flatten).filter (givesB bs) = heads bs := by rw [← husb]; rfl
    rw [hhd]
    have hfb : (heads bs).length ≤ 7 := Nat.le_trans (List.length_filter_le _ _) hb.few
    walk_at "x"
    refine ⟨J, _, _, rfl, rfl, ?_⟩
    intro Qc hq
    refine ⟨_, _, rfl, .inl rfl, by simpa using heads_ne hb, by rw [List.length_map]; omega, fun x hx => hq _ ?_⟩; clear hq Qc
    obtain ⟨c, hc, rfl⟩ := List.mem_map.mp hx
    obtain ⟨hc1, hc2⟩ := (mem_heads hb.two).mp hc
    refine xb_one (xs_asg ?_)
    walk_at "x"
    refine ⟨_, od_addS (by simp; omega), ?_⟩
    walk_at "x"
    intro Qc hq
    refine ⟨bs, c, rfl, hb.two, by have := hb.len; omega, hq _ ?_⟩; clear hq Qc
    refine xa_nil ⟨by simp, ?_⟩
    refine xg_tup rfl rfl (xgs_cons ?_)
    walk_at "xgn"
    refine xgs_cons ?_
    walk_at "xgn"
    refine xgs_nil ?_
    exact ⟨row ++ [c], exch bs c, _, _, rfl, hrow.snoc hc1 hc2, by simp [hrl]⟩
  · rintro Γ2 ⟨row, bs, o5, o6, rfl, hrow, hrl⟩
    rw [rng_len] at hrl
    walk_at "x"
    refine ⟨by simp, ?_⟩
    exact h row bs hrow (by omega)
theorem c_Lrow_due (df : De T "_law_row_due" ["_law_arrows_here", "_law_row"] s_Lrow_due) (zr : T.mg "repr" = none) (c1 : Cp T "_law_glyphs_of" 1 sPlaces) (c2 : Cp T "_law_gives" 1 sGives') (c3 : Cp T "_law_flip" 1 sExch) : CpG T "_law_row_due" 2 sRowDue := by
  refine cpg_of df sc_Lrow_due (fun ds Q ⟨_, _, h, _⟩ => by rw [h]; rfl) ?_
  rintro hN f cdv A outer s H E0 hr gd m ds Q E ⟨as, row, rfl, ha, hrl, hq1, hq2⟩
  have hl := ha.len
  obtain ⟨pl, hpl⟩ : ∃ pl, pl = us as.flatten := ⟨_, rfl⟩
  rw [← hpl] at hq1 hq2
  refine xb_cons (xs_forN (i := 2) PassesOwn.never hN rfl (.inl rfl) (xi_rng1 rfl B.range ?_))
  walk_at "x"
  refine ⟨by omega, by omega, ?_⟩
  rw [show ((row.length : Int)).toNat = row.length by omega]
  refine ⟨fun k Γ1 => ∃ here o2, Γ1 = ⟨[some (.tup (SL here)), some (.str (S row)), o2], []⟩ ∧ Two here ∧ Lw here ∧ here.length = as.length ∧ here.map pr2 = as.map pr2 ∧ slipR pl as row 0 = slipR pl here (row.drop k) k ∧ behindR as row = behindR here (row.drop k), ⟨as, none, rfl, ha.two, ha.lw, rfl, rfl, by simp, by simp⟩, ?_, ?_⟩
  · rintro k d Γ2 hd ⟨here, o2, rfl, h2, hlw, hlh, hpr, hsl, hbh⟩
    obtain ⟨hk, rfl⟩ := rng_get hd
    have hkc : row[k]? = some row[k] := List.getElem?_eq_getElem hk
    have hdrop : row.drop k = row[k] :: row.drop (k + 1) := List.drop_eq_getElem_cons hk
    rw [hdrop, show ∀ c r, slipR pl here (c :: r) k = if c ∈ pl ∧ givesB here c = true then slipR pl (exch here c) r (k + 1) else (k : Int) from fun _ _ => rfl] at hsl
    rw [hdrop, show ∀ c r, behindR here (c :: r) = behindR (exch here c) r from fun _ _ => rfl] at hbh
    generalize row[k] = c at hkc hsl hbh
    have hup : us here.flatten = pl := by rw [hpl, ← us_pr2 h2, ← us_pr2 ha.two, hpr]
    have hfl : here.flatten.length ≤ 1000 := by
      have := flat2 (fun l hl => h2 l hl)
      omega
    refine xb_cons (xs_if_b (!decide (c ∈ pl ∧ givesB here c = true)) ?_ ?_)
    · walk_at "x"
      refine ⟨_, ixd_str (by omega) (atI_nat hkc), ?_⟩
      walk_at "x"
      intro Qc hq
      refine ⟨_, here, rfl, .inr rfl, by omega, by omega, hq _ ?_⟩; clear hq Qc
      rw [hup]
      walk_at "x"
      by_cases h1 : c ∈ pl
      · rw [decide_eq_true h1]
        walk_at "x"
        refine ⟨_, ixd_str (by omega) (atI_nat hkc), ?_⟩
        walk_at "x"
        intro Qc hq
        refine ⟨here, c, rfl, h2, by omega, hlw, hq _ ?_⟩; clear hq Qc
        refine ⟨_, rfl, ?_, rfl⟩
        by_cases h3 : givesB here c = true <;> simp [h1, h3]
      · rw [decide_eq_false h1]
        walk_at "x"
        refine ⟨?_, rfl⟩
        simp [h1]
    · by_cases hc : c ∈ pl ∧ givesB here c = true
      · rw [decide_eq_true hc]
        rw [if_pos hc] at hsl
        refine ite_nt (xb_nil ?_)
        walk_at "x"
        refine ⟨_, ixd_str (by omega) (atI_nat hkc), ?_⟩
        walk_at "x"
        intro Qc hq
        refine ⟨here, c, rfl, h2, by omega, hq _ ?_⟩; clear hq Qc
        exact ⟨_, _, rfl, exch_two h2, fun l hl x hx => by
          obtain ⟨t, ht, rfl⟩ := List.mem_map.mp hl
          exact hlw t ht x (mem_exF.mp hx), by rw [exch_len]; exact hlh, by rw [exch_pr2 h2]; exact hpr, hsl, hbh⟩
      · rw [decide_eq_false hc]
        rw [if_neg hc] at hsl
        refine ite_nf ?_
        walk_at "x"
        refine xe_callB rfl zr PyProof.Rows.boot_repr ?_
        walk_at "x"
        refine ⟨_, (val_nat (k := k) (by omega)).rep _ gd hr.units, ?_⟩
        walk_at "x"
        exact ⟨by simp, hq2 k hsl⟩
  · rintro Γ2 ⟨here, o2, rfl, h2, hlw, hlh, hpr, hsl, hbh⟩
    rw [rng_len, List.drop_length] at hsl hbh
    walk_at "x"
    refine ⟨by simp, ?_⟩
    rw [show here = behindR as row from hbh.symm]
    exact hq1 hsl
theorem p_Way_arrows (df : DeP T Cy "arrows" "Way.arrows" ["self"] s_Way_arrows) (cl : Cls T.K Cy) (n1 : NoAttr T.K Cy "lot") : Pr T Cy "arrows" 1 (sWayArrows Cy) := by
  refine pr_of df sc_Way_arrows (fun ds Q ⟨ls, h, _⟩ => by rw [h]; rfl) ?_
  rintro hN f cdv A outer s H E0 hr m ds Q E ⟨ls, rfl, h⟩
  walk_at "x"
  exact ⟨Cy, _, _, rfl, cl, n1, rfl, h⟩
theorem c_row_slip (df : De T "row_slip" ["arrows", "row"] s_row_slip) (c1 : Cp T "places_in" 1 sPlaces) (c2 : Cp T "does_give" 1 sGives) (c3 : Cp T "exchanged" 1 sExch) : Cp T "row_slip" 2 sSlip := by
  refine cp_of df sc_row_slip (fun ds Q ⟨a, b, h, _⟩ => by rw [h]; rfl) ?_
  rintro hN f cdv A outer s H E0 hr m ds Q E ⟨as, row, rfl, h2, hl, hrl, h⟩
  have hfl : as.flatten.length ≤ 1000 := by
    have := flat2 (fun l hl => h2 l hl)
    omega
  obtain ⟨pl, hpl⟩ : ∃ pl, pl = us as.flatten := ⟨_, rfl⟩
  rw [← hpl] at h
  refine xb_cons (xs_par (i := 2) (j := 3) rfl hN rfl rfl (by decide) rfl rfl ?_)
  walk_at "x"
  intro Qc hq
  refine ⟨_, as, rfl, .inr rfl, by omega, by omega, hq _ ?_⟩; clear hq Qc
  rw [← hpl]
  walk_at "x"
  refine ⟨_, _, rfl, ?_⟩
  refine xb_cons (xs_forN (i := 4) PassesOwn.never hN rfl (.inl rfl) (xi_rng1 rfl B.range ?_))
  walk_at "x"
  refine ⟨by omega, by omega, ?_⟩
  rw [show ((row.length : Int)).toNat = row.length by omega]
  refine ⟨fun k Γ1 => ∃ here o4, Γ1 = ⟨[some (.tup (SL as)), some (.str (S row)), some (.str (S pl)), some (.tup (SL here)), o4], []⟩ ∧ Two here ∧ here.length = as.length ∧ slipR pl as row 0 = slipR pl here (row.drop k) k, ⟨as, none, rfl, h2, rfl, by simp⟩, ?_, ?_⟩
  · rintro k d Γ2 hd ⟨here, o4, rfl, h2', hlh, hsl⟩
    obtain ⟨hk, rfl⟩ := rng_get hd
    have hkc : row[k]? = some row[k] := List.getElem?_eq_getElem hk
    have hdrop : row.drop k = row[k] :: row.drop (k + 1) := List.drop_eq_getElem_cons hk
    rw [hdrop, show ∀ c r, slipR pl here (c :: r) k = if c ∈ pl ∧ givesB here c = true then slipR pl (exch here c) r (k + 1) else (k : Int) from fun _ _ => rfl] at hsl
    generalize row[k] = c at hkc hsl
    refine xb_cons (xs_if_b (!decide (c ∈ pl ∧ givesB here c = true)) ?_ ?_)
    · walk_at "x"
      refine ⟨_, ixd_str (by omega) (atI_nat hkc), ?_⟩
      walk_at "x"
      by_cases h1 : c ∈ pl
      · rw [decide_eq_true h1]
        walk_at "x"
        refine ⟨_, ixd_str (by omega) (atI_nat hkc), ?_⟩
        walk_at "x"
        intro Qc hq
        refine ⟨here, c, rfl, h2', by omega, hq _ ?_⟩; clear hq Qc
        refine ⟨_, rfl, ?_, rfl⟩
        by_cases h3 : givesB here c = true <;> simp [h1, h3]
      · rw [decide_eq_false h1]
        walk_at "x"
        refine ⟨?_, rfl⟩
        simp [h1]
    · by_cases hc : c ∈ pl ∧ givesB here c = true
      · rw [decide_eq_true hc]
        rw [if_pos hc] at hsl
        refine ite_nt (xb_nil ?_)
        walk_at "x"
        refine ⟨_, ixd_str (by omega) (atI_nat hkc), ?_⟩
        walk_at "x"
        intro Qc hq
        refine ⟨here, c, rfl, h2', by omega, hq _ ?_⟩; clear hq Qc
        exact ⟨_, _, rfl, exch_two h2', by rw [exch_len]; exact hlh, hsl⟩
      · rw [decide_eq_false hc]
        rw [if_neg hc] at hsl
        refine ite_nf ?_
        walk_at "x"
        rw [hsl] at h
        exact h
  · rintro Γ2 ⟨here, o4, rfl, h2', hlh, hsl⟩
    rw [rng_len, List.drop_length] at hsl
    walk_at "x"
    rw [hsl] at h
    exact h
theorem c_check_row (df : De T "check_row" ["way", "row"] s_check_row) (p1 : Pr T Cy "arrows" 1 (sWayArrows Cy)) (c1 : Cp T "row_slip" 2 sSlip) : Cp T "check_row" 3 (sChkRow Cy) := by
  refine cp_of df sc_check_row (fun ds Q ⟨a, b, r, h, _⟩ => by rw [h]; rfl) ?_
  rintro hN f cdv A outer s H E0 hr m ds Q E ⟨as, bs, row, rfl, ha, hrow, hrl, h⟩
  have hl := ha.len
  refine xb_cons (xs_if_f ?_ ?_)
  · walk_at "x"
    exact ⟨rfl, rfl⟩
  · walk_at "x"
    intro Qc hq
    refine ⟨as, rfl, hq _ ?_⟩; clear hq Qc
    walk_at "x"
    intro Qc hq
    refine ⟨as, row, rfl, ha.two, by omega, hrl, hq _ ?_⟩; clear hq Qc
    rw [(row_slip hrow ha.two (fun x => mem_us)).1]
    refine xb_one (xs_if_f ?_ ?_)
    · walk_at "x"
      exact ⟨rfl, rfl⟩
    · walk_at "x"
      exact h
theorem c_arrows_behind (df : De T "arrows_behind" ["arrows", "row"] s_arrows_behind) (c3 : Cp T "exchanged" 1 sExch) : Cp T "arrows_behind" 2 sBehindR := by
  refine cp_of df sc_arrows_behind (fun ds Q ⟨a, b, h, _⟩ => by rw [h]; rfl) ?_
  rintro hN f cdv A outer s H E0 hr m ds Q E ⟨as, row, rfl, h2, hl, hrl, h⟩
  refine xb_cons (xs_forN (i := 2) PassesOwn.never hN rfl (.inl rfl) (xi_str ?_))
  walk_at "x"
  refine ⟨fun k Γ1 => ∃ here o, Γ1 = ⟨[some (.tup (SL here)), some (.str (S row)), o], []⟩ ∧ Two here ∧ here.length = as.length ∧ behindR as row = behindR here (row.drop k), ⟨as, none, rfl, h2, rfl, by simp⟩, ?_, ?_⟩
  · rintro k d Γ2 hd ⟨here, o, rfl, h2', hlh, hsl⟩
    rw [List.getElem?_map] at hd
    obtain ⟨c, hc, rfl⟩ := Option.map_eq_some_iff.mp hd
    have hk : k < row.length := (List.getElem?_eq_some_iff.mp hc).1
    have hdrop : row.drop k = c :: row.drop (k + 1) := by
      rw [List.drop_eq_getElem_cons hk, (List.getElem?_eq_some_iff.mp hc).2]
    rw [hdrop] at hsl
    walk_at "x"
    intro Qc hq
    refine ⟨here, c, rfl, h2', by omega, hq _ ?_⟩; clear hq Qc
    exact ⟨_, _, rfl, exch_two h2', by rw [exch_len]; exact hlh, hsl⟩
  · rintro Γ2 ⟨here, o, rfl, h2', hlh, hsl⟩
    rw [List.length_map, List.drop_length] at hsl
    walk_at "x"
    rw [hsl] at h
    exact h
theorem m_Way_by (df : DeM T Cy "by" "Way.by" ["self", "row"] s_Way_by) (cl : Cls T.K Cy) (n1 : NoAttr T.K Cy "lot") (c1 : Cp T "check_row" 3 (sChkRow Cy)) (c2 : Cp T "arrows_behind" 2 sBehindR) (m1 : Mk' T "Way" Cy 5 sWayI) : Me T Cy "by" 10 (sBy Cy) := by
  refine me_of df sc_Way_by (fun ds Q ⟨a, b, r, h, _⟩ => by rw [h]; rfl) ?_
  rintro hN f cdv A outer s H E0 hr m ds Q E ⟨as, bs, row, rfl, ha, hrow, hrl, h⟩
  have hl := ha.len
  walk_at "x"
  intro Qc hq
  refine ⟨as, bs, row, rfl, ha, hrow, hrl, hq _ ?_⟩; clear hq Qc
  walk_at "x"
  refine ⟨_, _, _, rfl, cl, n1, rfl, ?_⟩
  walk_at "x"
  intro Qc hq
  refine ⟨as, row, rfl, ha.two, by omega, hrl, hq _ ?_⟩; clear hq Qc
  rw [(row_slip (i := 0) hrow ha.two (fun x => mem_us)).2]
  walk_at "x"
  intro Qc hq
  refine ⟨_, rfl, hrow.arrs ha, hq _ ?_⟩; clear hq Qc
  exact h
theorem x_check_rowW {CR : Addr} (df : De T "check_row" ["way", "row"] s_check_row) (p1 : Pr T Cy "arrows" 1 (sWayArrows Cy)) (c1 : Cp T "row_slip" 2 sSlip) (e1 : ErrC T "InvalidRow" CR "index") : Cpx T "check_row" 3 (sChkRowW Cy CR) := by
  refine cpx_of df sc_check_row (fun ds Q E ⟨_, _, h, _⟩ => by rw [h]; rfl) ?_
  rintro hN f cdv A outer s H E0 hr m ds Q E tk ⟨as, row, rfl, ha, hrl, hq1, hq2⟩
  have hl := ha.len
  refine xb_cons (xs_if_f ?_ (xb_nil ?_))
  · walk_at "x"
    exact ⟨rfl, rfl⟩
  walk_at "x"
  intro Qc hq
  refine ⟨as, rfl, hq _ ?_⟩; clear hq Qc
  walk_at "x"
  intro Qc hq
  refine ⟨as, row, rfl, ha.two, by omega, hrl, hq _ ?_⟩; clear hq Qc
  rcases slip_range (pl := us as.flatten) (row := row) (as := as) (i := 0) with h | ⟨k, h1, h2⟩
  · rw [h]
    refine xb_one (xs_if_f ?_ ?_)
    · walk_at "x"
      exact ⟨rfl, rfl⟩
    walk_at "x"
    exact hq1 h
  · rw [h1]
    refine xb_one (xs_if_t ?_ ?_)
    · walk_at "x"
      exact ⟨by simp, rfl⟩
    refine xb_one (xs_raise1 e1 rfl tk (hr.mono (by decide)) rfl ?_)
    walk_at "x"
    exact hq2 k h1
theorem x_Way_byW {CR : Addr} (df : DeM T Cy "by" "Way.by" ["self", "row"] s_Way_by) (cl : Cls T.K Cy) (n1 : NoAttr T.K Cy "lot") (c1 : Cpx T "check_row" 3 (sChkRowW Cy CR)) (c2 : Cp T "arrows_behind" 2 sBehindR) (m1 : Mk' T "Way" Cy 5 sWayI) : MeX T Cy "by" 10 (sByW Cy CR) ∧ MeXK T Cy "by" 10 ["row"] [0] (sByW Cy CR) := by
  refine mexk_of df sc_Way_by (fun ds Q E ⟨a, b, h, _⟩ => by rw [h]; rfl) (fun _ _ _ _ _ _ _ _ u ws hl => match ws, hl with | [_], _ => rfl) ?_
  rintro hN f cdv A outer s H E0 hr m ds Q E tk ⟨as, row, rfl, ha, hrl, hq1, hq2⟩
  have hl := ha.len
  refine xb_cons (xs_expr ?_)
  refine xe_cpx c1 tk hr (by decide) rfl ?_
  walk_at "x"
  intro Qc Ec hq he
  refine ⟨as, row, rfl, ha, hrl, fun h => hq _ ?_, fun k h => he _ (hq2 k h)⟩
  clear hq he Qc Ec
  walk_at "x"
  refine ⟨_, _, _, rfl, cl, n1, rfl, ?_⟩
  walk_at "x"
  intro Qc hq
  refine ⟨as, row, rfl, ha.two, by omega, hrl, hq _ ?_⟩; clear hq Qc
  walk_at "x"
  intro Qc hq
  refine ⟨_, rfl, behind_arrs ha h, hq _ ?_⟩; clear hq Qc
  exact hq1 h
theorem k_jar (df : De T "_law_jar" ["_law_script", "_law_k"] s_Ljar) : Ck T "_law_jar" 1 kKeg := by
  refine ck_of df sc_Ljar (fun ds ⟨ns, k, h, _⟩ => by rw [h]; rfl) ?_
  rintro hN f cdv A outer s H E0 hr m ds Q E ⟨ns, k, rfl, hk, hl⟩ h
  refine xb_closeN ?_
  walk_at "x"
  refine ⟨_, od_mul (.inl ⟨by omega, by omega⟩), ?_⟩
  walk_at "x"
  refine ⟨_, od_mul (.inr ⟨by omega, by omega⟩), ?_⟩
  walk_at "x"
  refine ⟨_, od_mul (.inl ⟨by omega, by omega⟩), ?_⟩
  walk_at "x"
  refine xs_forN (i := 3) PassesOwn.never hN rfl (.inl rfl) (xi_lst ?_)
  walk_at "x"
  have hcut : cutD (ns.map D.int) none (some 4) = (ns.take 4).map D.int := by
    have := cutD_to (ns.map D.int) 4
    rw [show ((4 : Nat) : Int) = 4 from rfl] at this
    rw [this, List.map_take]
  rw [hcut]
  refine ⟨fun j Γ1 => ∃ u o, Γ1 = ⟨[some (.lst (ns.map D.int)), some (.int (k : Int)), some (.int u), o, none, none], []⟩, ⟨_, none, rfl⟩, ?_, ?_⟩
  · rintro j d Γ2 hd ⟨u, o, rfl⟩
    rw [List.getElem?_map] at hd
    obtain ⟨z, hz, rfl⟩ := Option.map_eq_some_iff.mp hd
    walk_at "x"
    refine ⟨_, od_mul (.inr ⟨by omega, by omega⟩), ?_⟩
    walk_at "x"
    refine ⟨_, od_mod (by omega), ?_⟩
    walk_at "x"
    exact ⟨_, _, rfl⟩
  · rintro Γ2 ⟨u, o, rfl⟩
    refine xb_cons ?_
    walk_at "xset"
    refine XE.imp (Q := fun d Γ1 => ∃ v : Int, d = .int v ∧ Γ1 = ⟨[some (.lst (ns.map D.int)), some (.int (k : Int)), some (.int u), o, none, none], []⟩) ?_ ?_
    · walk_at "x"
      refine ite_c (fun hlt => ?_) (fun hlt => ?_)
      · have hlt : k < ns.length := by simpa using hlt
        walk_at "x"
        refine ⟨_, ixd_lst (atI_nat (d := .int ns[k]) (by simp [hlt])), ?_⟩
        exact ⟨_, rfl, rfl⟩
      · walk_at "x"
        rfl
    rintro d Γ1 ⟨v, rfl, rfl⟩
    refine xb_cons ?_
    walk_at "xset"
    refine XE.imp (Q := fun d Γ1 => ∃ c : Int, 0 ≤ c ∧ d = .int c ∧ Γ1 = ⟨[some (.lst (ns.map D.int)), some (.int (k : Int)), some (.int u), o, some (.int v), none], []⟩) ?_ ?_
    · walk_at "x"
      refine ite_c (fun hneg => ?_) (fun hneg => ?_)
      · walk_at "x"
        exact ⟨_, by split <;> omega, rfl, rfl⟩
      · walk_at "x"
        refine ⟨_, od_pow ⟨by omega, by omega, by decide⟩, ?_⟩
        walk_at "x"
        refine ite_c (fun hbig => ?_) (fun hbig => ?_)
        · walk_at "x"
          exact ⟨_, by split <;> omega, rfl, rfl⟩
        · walk_at "x"
          exact ⟨_, by omega, rfl, rfl⟩
    rintro d Γ1 ⟨c, hc, rfl, rfl⟩
    refine xb_one (xs_ret (xe_own_lst (xa_cons ?_)))
    walk_at "x"
    refine ⟨_, od_mul (.inr ⟨by omega, by omega⟩), ?_⟩
    walk_at "x"
    refine ⟨_, od_mul (.inr ⟨by omega, by omega⟩), ?_⟩
    walk_at "x"
    refine ⟨_, od_mul (.inl ⟨by omega, by omega⟩), ?_⟩
    walk_at "x"
    refine ⟨_, od_mod (by omega), ?_⟩
    generalize ha : (u * 8117 + v * 64013 + 105019 * ((k : Int) + 1)) % 2147483563 = a
    have ha0 : 0 ≤ a := by rw [← ha]; exact Int.emod_nonneg _ (by omega)
    refine xa_cons (xe_int ?_)
    exact xa_nil ⟨by simp, fun p => ⟨p, c, a, 0, hc, ha0, by omega, rfl, rfl, h p⟩⟩
theorem k11_places {W1 W2 W3 CG CT CR c0 P1 P2 : Addr} {q2 : Str} (df : DeT T "_law_places_right" ["_law_mine", "_law_arrows_here", "_law_glyph"] s_Lplaces_right c0) (TB : LamX.TabB T.base T.mg c0 P1) (zr : T.mg "repr" = none) (c1 : Cp T "_law_gives" 1 sGives') (c2 : Cp T "_law_flip" 1 sExch)
    (ct : CtOk T "_law_caught" 6 (fun cls => PySem.W.exmAny T.K cls [.ref W1, .ref W2, .ref W3]) (sShownF [(CG, "gives", "given"), (CT, "takes", "given"), (CR, "row", "index")])) (mk : Mk' T "Way" Cy 5 sWayI) (eq : Eq' T Cy 1 (sWayEq Cy)) (bk0 : Me T Cy "back" 10 (sBackN Cy))
    (tu : MeX T Cy "turned" 10 (sTurnW Cy CG)) (tuk : MeXK T Cy "turned" 10 ["place"] [0] (sTurnW Cy CG)) (bk : MeX T Cy "back" 10 (sBackW Cy CT)) (bkk : MeXK T Cy "back" 10 ["place"] [0] (sBackW Cy CT))
    (eG : PySem.W.exmAny T.K (.ref CG) [.ref W1, .ref W2, .ref W3] = some true) (eT : PySem.W.exmAny T.K (.ref CT) [.ref W1, .ref W2, .ref W3] = some true) : CaG T "_law_places_right" 13 (ctS2 P1 (lamQ "_law_places_right") P2 q2 (sPlacesR Cy)) := by
  refine ca_ofT df sc_Lplaces_right (fun ds c Q E ⟨_, _, _, _, h, _⟩ => by rw [h]; rfl) ?_
  rintro hN f A outer s H E0 hr gd m ds c Q E ⟨J, rfl, as, p, rfl, ha, hp, h⟩
  have hl := ha.len
  have h2 := ha.two
  have hpz : p < 1000 := by
    obtain ⟨t, t1, t2⟩ := List.mem_flatten.mp ((mem_pr2_flat h2).mp hp)
    exact ha.lw t t1 p t2
  have hv : ValOk (.str (S [p])) := val_str (by simp) (fun c hc => by rw [List.mem_singleton.mp hc]; exact hpz)
  have okd : ∀ {w : Str}, okD (.str w) = true → okD (.lst [.lst [.str w, .str (shownA (.str (S [p])))], .lst [.str w, .str (shownA (.str (S [p])))]]) = true ∧ dpD (.lst [.lst [.str w, .str (shownA (.str (S [p])))], .lst [.str w, .str (shownA (.str (S [p])))]]) ≤ 64 := fun hw => ⟨by rw [okD, okL, okL, okL, hv.ok hw]; rfl, by simp [dpD, dpL]⟩
  have ownW : ∀ L : List (List Nat), Lw L → ∀ x ∈ [D.lst [.str "told", wayD Cy L], D.lst [.str "told", wayD Cy L]], OwnQ Cy (SelfQ (sWayEq Cy) Cy) 1 x := fun L hL x hx => by
    have hx : x = D.lst [.str "told", wayD Cy L] := by simpa using hx
    rw [hx]
    refine .lst fun y hy => ?_
    rcases List.mem_cons.mp hy with rfl | hy
    · exact .flat rfl
    · rw [List.mem_singleton.mp hy]
      exact .ins fun Qc hq => ⟨L, L, rfl, hL, hL, by rw [decide_eq_true rfl]; exact hq⟩
  -- what is behind turning back
  have ph2 : ∀ o3 o4, XB (cX T n_Lplaces_right "_law_places_right" s_Lplaces_right f (.ref c0) A outer s H E0) (mdOf m (cel2 J P1 (lamQ "_law_places_right") P2 q2) H E) ((defBody s_Lplaces_right).drop 5) ⟨[some (wayD Cy as), some (.tup (SL as)), some (.str (S [p])), o3, o4, none, none, none], cel2 J P1 (lamQ "_law_places_right") P2 q2⟩ (poOf Q) := by
    intro o3 o4
    refine xb_cons (xs_asg ?_)
    walk_at "x"
    refine xe_lcA (fun l => .str (S l)) (fun l => .str (S l)) (i := 7) hN rfl (by show blkC n_Lplaces_right (defScope s_Lplaces_right) _ _ = true; decide +kernel) (fun _ _ _ _ _ => .inl rfl) (fun _ _ _ _ _ => .inr rfl) ?_
    refine xi_any ?_
    walk_at "xv"
    refine ⟨_, items_tup _, as, fun l => if decide ([fst2 l] = [p]) = true then some l else none, rfl, by omega, ?_, ?_⟩
    · intro l hl μ' s1 H1 C1 cl1 fp1
      obtain ⟨a, b, rfl⟩ := h2 l hl
      walk_at "x"
      refine ite_b (fun hg => ?_) (fun hg => ?_)
      · intro s3 H3 C3 cl3 fp3
        walk_at "x"
        exact ⟨_, if_pos hg, rfl, rfl⟩
      · exact ⟨if_neg (by rw [show decide ([fst2 [a, b]] = [p]) = false from hg]; exact Bool.false_ne_true), rfl⟩
    rw [fm_filter]
    have hlf : Lw (as.filter fun l => decide ([fst2 l] = [p])) := fun l hl => ha.lw l (List.mem_filter.mp hl).1
    walk_at "x"
    refine ⟨by simp, ?_⟩
    refine ⟨_, od_eqL (b := []) hr.units hlf (fun l hl => by cases hl), ?_⟩
    have e : decide ((as.filter fun l => decide ([fst2 l] = [p])) = []) = takesB as p := by
      unfold takesB
      rw [Bool.eq_iff_iff]
      simp [List.filter_eq_nil_iff]
    rw [e]
    walk_at "xgn"
    cases hg : takesB as p with
    | true =>
      refine xb_cons (xs_asg (xe_own_lst (xa_cons ?_)))
      refine xe_lam (n := 10) (k := 6) (Qd := fun d => d = wayD Cy (exch as p)) (Ex := fun _ => False) ct hr (by decide) gd rfl TB rfl (.tail _ (.head _)) (LamX.lamS_by (sc := defScope s_Lplaces_right) (by decide +kernel)) (fun A outer s H E f c' hr2 μ' tk hx => ?_) (fun d hd => ?_) (fun y hy => hy.elim)
      · refine xe_mex bk tk hr2 (by decide) ?_
        walk_at "x"
        exact fun Qc Ec hq he => ⟨as, p, rfl, ha, hp, fun _ => hq _ ⟨rfl, rfl⟩, fun n => absurd (hg.symm.trans n) (by decide)⟩
      subst hd
      refine xa_nil ⟨by simp, fun pm => ?_⟩
      walk_at "xgn"
      refine xb_cons (xs_expr (xe_append (i := 4) rfl (.inl rfl) rfl ?_ ⟨[_, _, _], _, [], rfl⟩))
      refine xe_lam (n := 10) (k := 6) (Qd := fun d => d = wayD Cy (exch as p)) (Ex := fun _ => False) ct hr (by decide) gd rfl TB rfl (.tail _ (.head _)) (LamX.lamS_by (sc := defScope s_Lplaces_right) (by decide +kernel)) (fun A outer s H E f c' hr2 μ' tk hx => ?_) (fun d hd => ?_) (fun y hy => hy.elim)
      · refine xe_mexw bkk tk hr2 (by decide) ?_
        walk_at "x"
        exact ⟨rfl, fun Qc Ec hq he => ⟨as, p, rfl, ha, hp, fun _ => hq _ ⟨rfl, rfl⟩, fun n => absurd (hg.symm.trans n) (by decide)⟩⟩
      subst hd
      refine ⟨[_, _, _], _, [], rfl, by simp, ?_⟩
      refine xb_freeze (i := 4) (c1 := (cel2 J P1 (lamQ "_law_places_right") P2 q2)) (c2 := []) rfl rfl ?_
      refine xb_cons (xs_asg ?_)
      walk_at "x"
      intro Qc hq
      refine ⟨as, p, rfl, h2, by omega, hq _ ?_⟩; clear hq Qc
      walk_at "x"
      intro Qc hq
      refine ⟨_, rfl, back_arrs ha ((takesB_iff h2).mp hg), hq _ ?_⟩; clear hq Qc
      walk_at "x"
      refine ⟨by simp, ?_⟩
      walk_at "xgn"
      walk_at "x"
      refine ⟨by simp, ?_⟩
      refine ⟨_, od_eqLs (n := 1) (xs := [.lst [.str "told", wayD Cy (exch as p)], .lst [.str "told", wayD Cy (exch as p)]]) eq hr (by decide) (ownW _ (back_arrs ha ((takesB_iff h2).mp hg)).lw), ?_⟩
      exact h
    | false =>
      refine xb_cons (xs_asg (xe_own_lst (xa_cons ?_)))
      refine xe_lam (n := 10) (k := 6) (Qd := fun d => False) (Ex := fun y => y = givX CT (.str (S [p]))) ct hr (by decide) gd rfl TB rfl (.tail _ (.head _)) (LamX.lamS_by (sc := defScope s_Lplaces_right) (by decide +kernel)) (fun A outer s H E f c' hr2 μ' tk hx => ?_) (fun d hd => hd.elim) (fun y hy => ?_)
      · refine xe_mex bk tk hr2 (by decide) ?_
        walk_at "x"
        exact fun Qc Ec hq he => ⟨as, p, rfl, ha, hp, fun n => absurd (hg.symm.trans n) (by decide), fun _ => he _ (hx _ rfl)⟩
      subst hy
      refine ⟨eT, CT, rfl, fun Qc hq => ⟨CT, "takes", "given", .str (S [p]), rfl, by simp, hv, hq _ ?_⟩⟩
      refine xa_nil ⟨by simp, fun pm => ?_⟩
      walk_at "xgn"
      refine xb_cons (xs_expr (xe_append (i := 4) rfl (.inl rfl) rfl ?_ ⟨[_, _, _], _, [], rfl⟩))
      refine xe_lam (n := 10) (k := 6) (Qd := fun d => False) (Ex := fun y => y = givX CT (.str (S [p]))) ct hr (by decide) gd rfl TB rfl (.tail _ (.head _)) (LamX.lamS_by (sc := defScope s_Lplaces_right) (by decide +kernel)) (fun A outer s H E f c' hr2 μ' tk hx => ?_) (fun d hd => hd.elim) (fun y hy => ?_)
      · refine xe_mexw bkk tk hr2 (by decide) ?_
        walk_at "x"
        exact ⟨rfl, fun Qc Ec hq he => ⟨as, p, rfl, ha, hp, fun n => absurd (hg.symm.trans n) (by decide), fun _ => he _ (hx _ rfl)⟩⟩
      subst hy
      refine ⟨eT, CT, rfl, fun Qc hq => ⟨CT, "takes", "given", .str (S [p]), rfl, by simp, hv, hq _ ?_⟩⟩
      refine ⟨[_, _, _], _, [], rfl, by simp, ?_⟩
      refine xb_freeze (i := 4) (c1 := (cel2 J P1 (lamQ "_law_places_right") P2 q2)) (c2 := []) rfl rfl ?_
      refine xb_cons (xs_asg ?_)
      walk_at "x"
      refine xe_callB rfl zr PyProof.Rows.boot_repr ?_
      walk_at "x"
      refine ⟨_, hv.rep _ gd hr.units, ?_⟩
      walk_at "x"
      refine ⟨by simp, ?_⟩
      walk_at "xgn"
      walk_at "x"
      refine ⟨by simp, ?_⟩
      refine ⟨_, od_eqRefl hr.units (okd (w := "takes") (by decide +kernel)).1 (okd (w := "takes") (by decide +kernel)).2, ?_⟩
      exact h
  cases hg : givesB as p with
  | true =>
    have hB := turn_arrs ha ((givesB_iff h2).mp hg)
    refine xb_cons (xs_asg ?_)
    walk_at "x"
    intro Qc hq
    refine ⟨as, p, rfl, h2, by omega, ha.lw, hq _ ?_⟩; clear hq Qc
    rw [hg]
    refine ⟨_, rfl, ?_⟩
    walk_at "x"
    intro Qc hq
    refine ⟨as, p, rfl, h2, by omega, hq _ ?_⟩; clear hq Qc
    walk_at "x"
    intro Qc hq
    refine ⟨_, rfl, hB, hq _ ?_⟩; clear hq Qc
    walk_at "xgn"
    refine xb_cons (xs_asg (xe_own_lst (xa_cons ?_)))
    refine xe_lam (n := 10) (k := 6) (Qd := fun d => d = wayD Cy (exch as p)) (Ex := fun _ => False) ct hr (by decide) gd rfl TB rfl (.tail _ (.head _)) (LamX.lamS_by (sc := defScope s_Lplaces_right) (by decide +kernel)) (fun A outer s H E f c' hr2 μ' tk hx => ?_) (fun d hd => ?_) (fun y hy => hy.elim)
    · refine xe_mex tu tk hr2 (by decide) ?_
      walk_at "x"
      exact fun Qc Ec hq he => ⟨as, p, rfl, ha, hp, fun _ => hq _ ⟨rfl, rfl⟩, fun n => absurd (hg.symm.trans n) (by decide)⟩
    subst hd
    refine xa_nil ⟨by simp, fun pm => ?_⟩
    walk_at "xgn"
    refine xb_cons (xs_expr (xe_append (i := 4) rfl (.inl rfl) rfl ?_ ⟨[_, _, _], _, [], rfl⟩))
    refine xe_lam (n := 10) (k := 6) (Qd := fun d => d = wayD Cy (exch as p)) (Ex := fun _ => False) ct hr (by decide) gd rfl TB rfl (.tail _ (.head _)) (LamX.lamS_by (sc := defScope s_Lplaces_right) (by decide +kernel)) (fun A outer s H E f c' hr2 μ' tk hx => ?_) (fun d hd => ?_) (fun y hy => hy.elim)
    · refine xe_mexw tuk tk hr2 (by decide) ?_
      walk_at "x"
      exact ⟨rfl, fun Qc Ec hq he => ⟨as, p, rfl, ha, hp, fun _ => hq _ ⟨rfl, rfl⟩, fun n => absurd (hg.symm.trans n) (by decide)⟩⟩
    subst hd
    refine ⟨[_, _, _], _, [], rfl, by simp, ?_⟩
    refine xb_freeze (i := 4) (c1 := (cel2 J P1 (lamQ "_law_places_right") P2 q2)) (c2 := []) rfl rfl ?_
    refine xb_cons (xs_if_f (xt_cmp rfl ?_) (xb_nil ?_))
    · walk_at "xv"
      refine xe_repIf (k := 2) (by omega) ?_
      walk_at "x"
      refine ⟨by simp, ?_⟩
      walk_at "x"
      refine ⟨by simp, ?_⟩
      refine ⟨_, od_neLs (n := 1) (xs := [.lst [.str "told", wayD Cy (exch as p)], .lst [.str "told", wayD Cy (exch as p)]]) eq hr (by decide) (ownW _ hB.lw), ?_⟩
      exact ⟨rfl, rfl⟩
    refine xb_cons (xs_if_f ?_ (xb_nil ?_))
    · walk_at "x"
      intro Qc hq
      refine ⟨_, p, rfl, hB, (by rw [← mem_pr2_flat hB.two, exch_pr2 h2]; exact hp), takes_turned h2 ha.rk.noLoop ((givesB_iff h2).mp hg), hq _ ?_⟩; clear hq Qc
      walk_at "x"
      refine ⟨_, od_neOwn (r := true) eq (hr.mono (by decide)) fun Qc hq => ⟨_, as, rfl, by rw [exch_exch]; exact ha.lw, ha.lw, by rw [exch_exch, decide_eq_true rfl]; exact hq⟩, ?_⟩
      exact ⟨rfl, rfl⟩
    exact ph2 _ _
  | false =>
    refine xb_cons (xs_asg ?_)
    walk_at "x"
    intro Qc hq
    refine ⟨as, p, rfl, h2, by omega, ha.lw, hq _ ?_⟩; clear hq Qc
    rw [hg]
    refine ⟨_, rfl, ?_⟩
    walk_at "x"
    walk_at "xgn"
    refine xb_cons (xs_asg (xe_own_lst (xa_cons ?_)))
    refine xe_lam (n := 10) (k := 6) (Qd := fun d => False) (Ex := fun y => y = givX CG (.str (S [p]))) ct hr (by decide) gd rfl TB rfl (.tail _ (.head _)) (LamX.lamS_by (sc := defScope s_Lplaces_right) (by decide +kernel)) (fun A outer s H E f c' hr2 μ' tk hx => ?_) (fun d hd => hd.elim) (fun y hy => ?_)
    · refine xe_mex tu tk hr2 (by decide) ?_
      walk_at "x"
      exact fun Qc Ec hq he => ⟨as, p, rfl, ha, hp, fun n => absurd (hg.symm.trans n) (by decide), fun _ => he _ (hx _ rfl)⟩
    subst hy
    refine ⟨eG, CG, rfl, fun Qc hq => ⟨CG, "gives", "given", .str (S [p]), rfl, by simp, hv, hq _ ?_⟩⟩
    refine xa_nil ⟨by simp, fun pm => ?_⟩
    walk_at "xgn"
    refine xb_cons (xs_expr (xe_append (i := 4) rfl (.inl rfl) rfl ?_ ⟨[_, _, _], _, [], rfl⟩))
    refine xe_lam (n := 10) (k := 6) (Qd := fun d => False) (Ex := fun y => y = givX CG (.str (S [p]))) ct hr (by decide) gd rfl TB rfl (.tail _ (.head _)) (LamX.lamS_by (sc := defScope s_Lplaces_right) (by decide +kernel)) (fun A outer s H E f c' hr2 μ' tk hx => ?_) (fun d hd => hd.elim) (fun y hy => ?_)
    · refine xe_mexw tuk tk hr2 (by decide) ?_
      walk_at "x"
      exact ⟨rfl, fun Qc Ec hq he => ⟨as, p, rfl, ha, hp, fun n => absurd (hg.symm.trans n) (by decide), fun _ => he _ (hx _ rfl)⟩⟩
    subst hy
    refine ⟨eG, CG, rfl, fun Qc hq => ⟨CG, "gives", "given", .str (S [p]), rfl, by simp, hv, hq _ ?_⟩⟩
    refine ⟨[_, _, _], _, [], rfl, by simp, ?_⟩
    refine xb_freeze (i := 4) (c1 := (cel2 J P1 (lamQ "_law_places_right") P2 q2)) (c2 := []) rfl rfl ?_
    refine xb_cons (xs_if_f (xt_cmp rfl ?_) (xb_nil ?_))
    · walk_at "xv"
      refine xe_repIf (k := 2) (by omega) ?_
      walk_at "x"
      refine xe_callB rfl zr PyProof.Rows.boot_repr ?_
      walk_at "x"
      refine ⟨_, hv.rep _ gd hr.units, ?_⟩
      walk_at "x"
      refine ⟨by simp, ?_⟩
      walk_at "x"
      refine ⟨by simp, ?_⟩
      refine ⟨_, od_neRefl hr.units (okd (w := "gives") (by decide +kernel)).1 (okd (w := "gives") (by decide +kernel)).2, ?_⟩
      exact ⟨rfl, rfl⟩
    refine xb_cons (xs_if_f ?_ (xb_nil ?_))
    · walk_at "x"
      exact ⟨rfl, rfl⟩
    exact ph2 _ _
theorem k11_right {W1 W2 W3 CG CT CR c0 P1 P2 : Addr} (df : DeT T "_law_right" ["_law_jar_here"] s_Lright c0) (TB : LamX.TabB T.base T.mg c0 P2) (c1 : Cj T "_law_ties" 4 sJties) (c2 : Cj T "_law_laid" 2 sJlaid) (c3 : Cj T "_law_dip" 1 sTap) (c4 : Cj T "_law_pick" 2 sPick) (c5 : Cj T "_law_walk" 3 sWalk) (c6 : CpG T "_law_row_due" 2 sRowDue)
    (c7 : CaG T "_law_places_right" 13 (ctS2 P1 (lamQ "_law_places_right") P2 (lamQ "_law_right") (sPlacesR Cy)))
    (ct : CtOk T "_law_caught" 6 (fun cls => PySem.W.exmAny T.K cls [.ref W1, .ref W2, .ref W3]) (sShownF [(CG, "gives", "given"), (CT, "takes", "given"), (CR, "row", "index")])) (mk : Mk' T "Way" Cy 5 sWayI) (eq : Eq' T Cy 1 (sWayEq Cy)) (pt : Pr T Cy "arrows" 1 (sWayArrows Cy)) (by0 : Me T Cy "by" 10 (sBy Cy)) (byk : MeXK T Cy "by" 10 ["row"] [0] (sByW Cy CR))
    (eR : PySem.W.exmAny T.K (.ref CR) [.ref W1, .ref W2, .ref W3] = some true) : CaG T "_law_right" 14 (jtS2 P1 (lamQ "_law_places_right") P2 (lamQ "_law_right") sRight) := by
  refine ca_ofT df sc_Lright (fun ds c Q E ⟨_, _, h, _, h2, _⟩ => by rw [h, h2]; rfl) ?_
  rintro hN f A outer s H E0 hr gd m ds c Q E ⟨J, ds', rfl, rfl, rfl, h⟩
  refine xb_cons (xs_forN (i := 1) PassesOwn.never hN rfl (.inl rfl) (xi_rng1 rfl B.range ?_))
  walk_at "x"
  refine ⟨by omega, by omega, ?_⟩
  refine ⟨fun k Γ1 => ∃ o1 o2 o3 o4 o5 o6 o7 o8 o9 o10 o11, Γ1 = ⟨[some (.ref J), o1, o2, o3, o4, o5, o6, o7, o8, o9, o10, o11, none], cel2 J P1 (lamQ "_law_places_right") P2 (lamQ "_law_right")⟩, ⟨none, none, none, none, none, none, none, none, none, none, none, rfl⟩, ?_, ?_⟩
  · rintro k d Γ2 hk ⟨o1, o2, o3, o4, o5, o6, o7, o8, o9, o10, o11, rfl⟩
    refine xb_cons (xs_asg ?_)
    walk_at "x"
    refine ⟨J, _, _, rfl, rfl, ?_⟩
    intro Qc hq
    refine ⟨7, rfl, by omega, by omega, fun l ls hn => hq _ ?_⟩; clear hq Qc
    have ht := hn.ties
    have hall := hn.all
    have hl7 := hn.most
    have hl2 := hn.two
    have hmem : ∀ c, c ∈ l ↔ c ∈ ls.flatten := fun c => by rw [← hn.all]; exact mem_us
    refine xg_tup rfl rfl (xgs_cons ?_)
    walk_at "xgn"
    refine xgs_cons ?_
    walk_at "xgn"
    refine xgs_nil ?_
    refine xb_cons (xs_asg ?_)
    walk_at "x"
    refine ⟨J, _, _, rfl, rfl, ?_⟩
    intro Qc hq
    refine ⟨ls, l, rfl, ht, hn.all, fun o hp => hq _ ?_⟩; clear hq Qc
    have ha : Arrs (ls.map (lay o)) := lay_arrs ht fun x hx => hp.mem_iff.mpr (by rw [← hn.all]; exact mem_us.mpr hx)
    have hpr : (ls.map (lay o)).map pr2 = ls := lay_pr2 ht
    generalize ls.map (lay o) = as at ha hpr
    clear hp
    have hal := ha.len
    refine xg_name (i := 4) hN rfl (.inr rfl) ?_
    refine xb_cons (xs_asg ?_)
    walk_at "x"
    intro Qc hq
    refine ⟨as, rfl, ha, hq _ ?_⟩; clear hq Qc
    refine xg_name (i := 5) hN rfl (.inr rfl) ?_
    -- all places
    refine xb_cons (xs_if_f (xt_not (xt_val ?_)) (xb_nil ?_))
    · refine xe_callB rfl B.all PyProof.Rows.boot_all (xa_cons ?_)
      refine xe_lcA (fun c => .str (S [c])) D.bl (i := 12) hN rfl (by show blkC n_Lright (defScope s_Lright) _ _ = true; decide +kernel) (fun _ _ _ _ _ => .inl rfl) (fun _ _ _ _ _ => .inr rfl) ?_
      refine xi_any ?_
      walk_at "xv"
      refine ⟨_, items_str _, l, fun _ => some true, by rw [SL, ch, List.map_map]; rfl, by omega, ?_, ?_⟩
      · intro c hc μ' s1 H1 C1 cl1 fp1
        walk_at "x"
        intro s2 H2 C2 cl2 fp2
        refine xe_ct2 c7 hr gd (by decide) rfl ?_
        walk_at "x"
        refine ⟨J, [], rfl, ?_⟩
        intro Qc hq
        exact ⟨as, c, rfl, ha, by rw [hpr]; exact (hmem c).mp hc, hq _ ⟨true, rfl, rfl, rfl⟩⟩
      rw [show (l.filterMap fun _ => some true).map D.bl = (List.replicate l.length true).map D.bl from by
        congr 1
        rw [List.filterMap_eq_map', List.map_const']]
      refine xa_nil ⟨_, cd_all rfl, ?_⟩
      walk_at "x"
      refine ⟨by simp, rfl⟩
    -- five rows
    have LW : ∀ L : List (List Nat), Lw L → ∀ x ∈ [D.str (S [116, 111, 108, 100]), wayD Cy L], OwnQ Cy (SelfQ (sWayEq Cy) Cy) 0 x := fun L hL x hx => by
      rcases List.mem_cons.mp hx with rfl | hx
      · exact .flat rfl
      · rw [List.mem_singleton.mp hx]
        exact .ins fun Qc hq => ⟨L, L, rfl, hL, hL, by rw [decide_eq_true rfl]; exact hq⟩
    refine xb_cons (xs_forN (i := 6) PassesOwn.never hN rfl (.inl rfl) (xi_rng1 rfl B.range ?_))
    walk_at "x"
    refine ⟨by omega, by omega, ?_⟩
    refine ⟨fun j Γ1 => ∃ o6 o7 o8 o9 o10 o11, Γ1 = ⟨[some (.ref J), some d, some (.tup (SL ls)), some (.str (S l)), some (.tup (SL as)), some (wayD Cy as), o6, o7, o8, o9, o10, o11, none], cel2 J P1 (lamQ "_law_places_right") P2 (lamQ "_law_right")⟩, ⟨o6, o7, o8, o9, o10, o11, rfl⟩, ?_, ?_⟩
    · rintro j d2 Γ3 hj ⟨o6, o7, o8, o9, o10, o11, rfl⟩
      refine xb_cons (xs_asg ?_)
      walk_at "x"
      refine ⟨J, _, _, rfl, rfl, ?_⟩
      intro Qc hq
      refine ⟨as, 9, rfl, ha, by omega, fun row bs hrow hrl => hq _ ?_⟩; clear hq Qc
      walk_at "x"
      refine ⟨_, ixd_tup (atI_nat (k := 0) rfl), ?_⟩
      refine xg_name (i := 7) hN rfl (.inr rfl) ?_
      refine xb_cons (xs_asg ?_)
      walk_at "x"
      refine ⟨J, _, _, rfl, rfl, ?_⟩
      intro Qc hq
      refine ⟨row.length + 1, by rw [show (row.length : Int) + 1 = ((row.length + 1 : Nat) : Int) by omega], by omega, by omega, fun i hi => hq _ ?_⟩; clear hq Qc
      refine xg_name (i := 8) hN rfl (.inl rfl) ?_
      refine xb_cons (xs_asg ?_)
      walk_at "x"
      refine ⟨_, sd_str (by omega), ?_⟩
      rw [cutD_to]
      walk_at "x"
      refine ⟨J, _, _, rfl, rfl, ?_⟩
      intro Qc hq
      refine ⟨_, _, rfl, .inr (.inr ⟨l, rfl, rfl⟩), fun e => by rw [List.map_eq_nil_iff] at e; rw [e] at hl2; simp at hl2, by rw [List.length_map]; omega, fun x hx => hq _ ?_⟩; clear hq Qc
      obtain ⟨c, hc, rfl⟩ := List.mem_map.mp hx
      clear hx
      walk_at "x"
      refine ⟨_, od_addS (by simp; omega), ?_⟩
      walk_at "x"
      refine ⟨_, sd_str (by omega), ?_⟩
      rw [cutD_from]
      walk_at "x"
      refine ⟨_, od_addS (by simp; omega), ?_⟩
      walk_at "x"
      refine ⟨_, sd_str (by omega), ?_⟩
      rw [cutD_to]
      walk_at "x"
      refine ⟨_, sd_str (by omega), ?_⟩
      rw [show ((i : Int) + 1) = ((i + 1 : Nat) : Int) by omega, cutD_from]
      refine ⟨_, od_addS (by simp; omega), ?_⟩
      walk_at "x"
      refine ⟨by simp, ?_⟩
      refine xg_name (i := 9) hN rfl (.inl rfl) ?_
      refine xb_cons (xs_asg ?_)
      walk_at "x"
      refine ⟨_, od_addS (by simp; omega), ?_⟩
      walk_at "x"
      refine ⟨_, od_addS (by simp; omega), ?_⟩
      walk_at "x"
      refine ⟨by simp, ?_⟩
      refine ⟨_, od_catL (by simp), ?_⟩
      refine xg_name (i := 9) hN rfl (.inl rfl) ?_
      refine xb_cons (xs_asg ?_)
      walk_at "x"
      refine ⟨by simp, ?_⟩
      walk_at "x"
      refine ⟨_, od_catL (by simp), ?_⟩
      walk_at "x"
      refine ⟨J, _, _, rfl, rfl, ?_⟩
      intro Qc hq
      refine ⟨_, _, rfl, .inl rfl, by simp, by simp, fun x hx => hq _ ?_⟩; clear hq Qc
      obtain ⟨r, rfl, hrl2⟩ : ∃ r, x = .str (S r) ∧ r.length ≤ 40 := by
        simp only [List.mem_append, List.mem_cons, List.not_mem_nil, or_false] at hx
        rcases hx with (rfl | rfl) | (rfl | rfl) | (rfl | rfl)
        · exact ⟨_, rfl, by omega⟩
        · exact ⟨_, rfl, by omega⟩
        · exact ⟨_, rfl, by simp; omega⟩
        · exact ⟨_, rfl, by simp; omega⟩
        · exact ⟨_, rfl, by simp; omega⟩
        · exact ⟨_, rfl, by simp; omega⟩
      clear hx
      refine xg_name (i := 7) hN rfl (.inr rfl) ?_
      refine xb_cons (xs_asg ?_)
      refine xe_cpG c6 hr gd (by decide) rfl ?_
      walk_at "x"
      intro Qc hq
      rcases slip_range (pl := us as.flatten) (row := r) (as := as) (i := 0) with hs | ⟨k2, hs, hk2⟩
      · refine ⟨as, r, rfl, ha, by omega, fun _ => hq _ ?_, fun k3 h3 => absurd (hs.symm.trans h3) (by omega)⟩; clear hq Qc
        have hB := behind_arrs ha hs
        refine xg_name (i := 10) hN rfl (.inl rfl) ?_
        refine xb_cons (xs_asg ?_)
        refine xe_lam (n := 10) (k := 6) (Qd := fun d => d = wayD Cy (behindR as r)) (Ex := fun _ => False) ct (hr.mono (by decide)) (by decide) gd rfl TB rfl (.tail _ (.tail _ (.head _))) (LamX.lamS_by (sc := defScope s_Lright) (by decide +kernel)) (fun A outer s H E f c' hr2 μ' tk hx => ?_) (fun d hd => ?_) (fun y hy => hy.elim)
        · refine xe_mexw byk tk hr2 (by decide) ?_
          walk_at "x"
          exact ⟨rfl, fun Qc Ec hq he => ⟨as, r, rfl, ha, by omega, fun _ => hq _ ⟨rfl, rfl⟩, fun k3 h3 => absurd (hs.symm.trans h3) (by omega)⟩⟩
        subst hd
        refine xg_name (i := 11) hN rfl (.inl rfl) ?_
        refine xb_one (xs_if_f (xt_w (xw_or (xt_cut false ?_ ?_))) (xb_nil ⟨_, _, _, _, _, _, rfl⟩))
        · walk_at "x"
          refine ⟨_, ixd_lst (atI_nat (k := 0) rfl), ?_⟩
          walk_at "x"
          exact ⟨rfl, rfl⟩
        refine ite_ff ?_
        walk_at "x"
        refine ⟨_, ixd_lst (atI_nat (k := 0) rfl), ?_⟩
        walk_at "x"
        refine ⟨_, ixd_lst (atI_nat (k := 1) rfl), ?_⟩
        walk_at "x"
        intro Qc hq
        refine ⟨_, rfl, hB, hq _ ?_⟩; clear hq Qc
        walk_at "x"
        refine ⟨by simp, ?_⟩
        refine ⟨_, od_neLs (n := 0) eq hr (by decide) (LW _ hB.lw), ?_⟩
        exact ⟨rfl, rfl⟩
      · refine ⟨as, r, rfl, ha, by omega, fun h3 => absurd (hs.symm.trans h3) (by omega), fun k3 h3 => hq _ ?_⟩; clear hq Qc
        obtain rfl : k2 = k3 := by have := hs.symm.trans h3; omega
        have hv := val_nat (k := k2) (by omega)
        refine xg_name (i := 10) hN rfl (.inl rfl) ?_
        refine xb_cons (xs_asg ?_)
        refine xe_lam (n := 10) (k := 6) (Qd := fun d => False) (Ex := fun y => y = idxX CR k2) ct (hr.mono (by decide)) (by decide) gd rfl TB rfl (.tail _ (.tail _ (.head _))) (LamX.lamS_by (sc := defScope s_Lright) (by decide +kernel)) (fun A outer s H E f c' hr2 μ' tk hx => ?_) (fun d hd => hd.elim) (fun y hy => ?_)
        · refine xe_mexw byk tk hr2 (by decide) ?_
          walk_at "x"
          exact ⟨rfl, fun Qc Ec hq he => ⟨as, r, rfl, ha, by omega, fun h4 => absurd (hs.symm.trans h4) (by omega), fun k4 h4 => he _ (hx _ (by rw [show k4 = k2 from by have := hs.symm.trans h4; omega]))⟩⟩
        subst hy
        refine ⟨eR, CR, rfl, fun Qc hq => ⟨CR, "row", "index", .int (k2 : Int), rfl, by simp, hv, hq _ ?_⟩⟩
        refine xg_name (i := 11) hN rfl (.inl rfl) ?_
        refine xb_one (xs_if_f (xt_w (xw_or (xt_cut false ?_ ?_))) (xb_nil ⟨_, _, _, _, _, _, rfl⟩))
        · walk_at "x"
          refine ⟨_, ixd_lst (atI_nat (k := 0) rfl), ?_⟩
          walk_at "x"
          refine ⟨_, od_neRefl hr.units (hv.ok (by decide +kernel)) (by have := dp_tw2 (a := "row") (b := shownA (.int (k2 : Int))); omega), ?_⟩
          exact ⟨rfl, rfl⟩
        refine ite_ff ?_
        walk_at "x"
        refine ⟨_, ixd_lst (atI_nat (k := 0) rfl), ?_⟩
        walk_at "x"
        exact ⟨rfl, rfl⟩
    · rintro Γ3 ⟨o6, o7, o8, o9, o10, o11, rfl⟩
      refine xb_one (xs_if_f ?_ (xb_nil ⟨_, _, _, _, _, _, _, _, _, _, _, rfl⟩))
      refine xt_w (xw_or (xt_cut false ?_ ?_))
      · walk_at "x"
        intro Qc hq
        refine ⟨as, rfl, hq _ ?_⟩; clear hq Qc
        walk_at "x"
        refine ⟨_, od_neT hr.units ha.lw ha.lw, ?_⟩
        rw [decide_eq_true rfl]
        exact ⟨rfl, rfl⟩
      refine ite_ff ?_
      walk_at "x"
      intro Qc hq
      refine ⟨as, as, [], rfl, ha, .nil, by simp, hq _ ?_⟩; clear hq Qc
      walk_at "x"
      refine ⟨_, od_neOwn (r := true) eq (hr.mono (by decide)) fun Qc hq => ⟨as, as, rfl, ha.lw, ha.lw, by rw [decide_eq_true rfl]; exact hq⟩, ?_⟩
      exact ⟨rfl, rfl⟩
  · rintro Γ2 ⟨o1, o2, o3, o4, o5, o6, o7, o8, o9, o10, o11, rfl⟩
    walk_at "x"
    exact h
theorem f_lawT2 {k : Nat} {g P1 P2 : Addr} {fd : FuncData} (hk1 : 1 ≤ k) (df : Fun T.K "law" "law" s_law g fd) (c1 : Ck T "_law_jar" 1 kKeg) (c2 : CaG T "_law_right" k (jtS2 P1 (lamQ "_law_places_right") P2 (lamQ "_law_right") sRight)) : FnG T.P T.w T.K T.mg T.base (k + 1) g fd ["_law_script"] (spD T.K (sLawT2 P1 (lamQ "_law_places_right") P2 (lamQ "_law_right"))) := by
  refine fn_GD df sc_law (fun ds c Q E ⟨_, ⟨ns, h, _⟩, _⟩ => by rw [h]; rfl) ?_
  rintro cdv A outer s H E0 hr hgd m ds c Q E ⟨rfl, ⟨ns, rfl, hl⟩, h⟩
  have hN := sc_law.nd
  show XB (cX T n_law "law" s_law g cdv A outer s H E0) (mdOf m [(P1, .tbl (lamQ "_law_places_right")), (P2, .tbl (lamQ "_law_right"))] H E) (defBody s_law) ⟨startD n_law [.lst (ns.map D.int)], [(P1, .tbl (lamQ "_law_places_right")), (P2, .tbl (lamQ "_law_right"))]⟩ (poOf Q)
  refine xb_cons (xs_forN (i := 1) PassesOwn.never hN rfl (.inl rfl) (xi_rng1 rfl B.range ?_))
  walk_at "x"
  obtain ⟨z, hze⟩ : ∃ z : Int, (if (if (5 : Int) < ((ns.map D.int).length : Int) then (5 : Int) else ((ns.map D.int).length : Int)) > 2 then (if (5 : Int) < ((ns.map D.int).length : Int) then (5 : Int) else ((ns.map D.int).length : Int)) else 2) = z := ⟨_, rfl⟩
  rw [hze]
  have hz2 : 2 ≤ z := by rw [← hze]; split <;> omega
  have hz4 : z ≤ 5 := by rw [← hze]; split <;> (try split) <;> omega
  clear hze
  refine ⟨by omega, by omega, fun k Γ1 => ∃ o c, Γ1 = ⟨[some (.lst (ns.map D.int)), o], (P1, .tbl (lamQ "_law_places_right")) :: (P2, .tbl (lamQ "_law_right")) :: c⟩, ⟨none, [], rfl⟩, ?_, ?_⟩
  · rintro k d Γ2 hd ⟨o, cs, rfl⟩
    obtain ⟨hk, rfl⟩ := rng_get hd
    refine xb_one (xs_if (xt_not (xt_val (xe_cjt2 c2 hr hgd (Nat.le_refl _) rfl (xa_cons (xe_ck c1 hr hk1 rfl ?_))))))
    walk_at "x"
    refine ⟨⟨ns, k, rfl, by omega, hl⟩, fun p => ?_⟩
    walk_at "x"
    refine ⟨p, cs, [], rfl, rfl, ?_⟩
    intro Qc hq
    refine ⟨rfl, hq _ ?_⟩
    refine ⟨_, rfl, ite_nt ?_⟩
    refine xb_drop (c1 := []) (xb_nil ⟨_, cs, rfl⟩)
  · rintro Γ2 ⟨o, cs, rfl⟩
    walk_at "x"
    exact h _
end
theorem all_mk {P : Program} {w : World} {K : PySem.W.Frag} {h : Heap} {mg : Str → Option Value} {fa : Addr} (KX : K.In h) (G : h.Ns mainGlobals mg) (hfa : mg "law" = some (.ref fa)) (c : SaysX fcs dfs K) :
    ∃ fd : FuncData, (∀ (s : Shared) (v : Value), BindsTo s fd ⟨[v], []⟩ [("_law_script", v)]) ∧ ∀ base : Heap, K.In base → base.Ns mainGlobals mg → LamX.TabB base mg (codeA K "_law_places_right") (tabA K "_law_places_right") → LamX.TabB base mg (codeA K "_law_right") (tabA K "_law_right") → FnG P w K mg base 15 fa fd ["_law_script"] (spD K (sLawT2 (tabA K "_law_places_right") (lamQ "_law_places_right") (tabA K "_law_right") (lamQ "_law_right"))) := by
  have e := hfa.symm.trans (glo_mg KX G (c.fact 57))
  cases e
  have B : Bl mg := ⟨free_mg KX G (c.fact 0), free_mg KX G (c.fact 1), free_mg KX G (c.fact 2), free_mg KX G (c.fact 3), free_mg KX G (c.fact 4), free_mg KX G (c.fact 5), free_mg KX G (c.fact 6), free_mg KX G (c.fact 7), free_mg KX G (c.fact 8), free_mg KX G (c.fact 9), free_mg KX G (c.fact 10), free_mg KX G (c.fact 11), free_mg KX G (c.fact 12), free_mg KX G (c.fact 13), free_mg KX G (c.fact 14)⟩
  obtain ⟨fdl, Fl⟩ := c.fo 35
  have bl := Fl.binds (ps := ["_law_script"]) fun _ _ _ _ _ _ us hl => match us, hl with | [_], _ => rfl
  refine ⟨fdl, fun s v => ?_, fun base _ _ TB TB2 => ?_⟩
  · obtain ⟨oc, od, kV, doc, pm, an, cdv, ct, osl, rfl, lk, hcd⟩ := Fl.ex
    exact .of_eq rfl
  let T : Wd := ⟨P, w, K, mg, base⟩
  have B : Bl T.mg := B
  have KX : T.K.In h := KX
  have G : h.Ns mainGlobals T.mg := G
  have z_ArithmeticError : T.mg "ArithmeticError" = none := free_mg KX G (c.fact 15)
  have z_LookupError : T.mg "LookupError" = none := free_mg KX G (c.fact 16)
  have z_ValueError : T.mg "ValueError" = none := free_mg KX G (c.fact 17)
  have z_repr : T.mg "repr" = none := free_mg KX G (c.fact 18)
  have g_MOST_PLACES : GI T.mg "MOST_PLACES" 7 := int_mg KX G (c.fact 19)
  have g_MOST_TIES : GI T.mg "MOST_TIES" 10 := int_mg KX G (c.fact 20)
  have g_LETTERS : GS T.mg "LETTERS" az := str_mg KX G (c.fact 21)
  have d_Lbases : De T "_law_bases" ["_law_e"] s_Lbases := de_at KX G (c.fact 22) (c.fo 0) fun _ _ _ _ _ _ us hl => match us, hl with | [_], _ => rfl
  have d_Lcaught : De T "_law_caught" ["_law_act"] s_Lcaught := de_at KX G (c.fact 23) (c.fo 1) fun _ _ _ _ _ _ us hl => match us, hl with | [_], _ => rfl
  have d_Ldip : De T "_law_dip" ["_law_jar_here", "_law_wide"] s_Ldip := de_at KX G (c.fact 24) (c.fo 2) fun _ _ _ _ _ _ us hl => match us, hl with | [_, _], _ => rfl
  have d_Lflip : De T "_law_flip" ["_law_arrows_here", "_law_glyph"] s_Lflip := de_at KX G (c.fact 25) (c.fo 3) fun _ _ _ _ _ _ us hl => match us, hl with | [_, _], _ => rfl
  have d_Lgives : De T "_law_gives" ["_law_arrows_here", "_law_glyph"] s_Lgives := de_at KX G (c.fact 26) (c.fo 4) fun _ _ _ _ _ _ us hl => match us, hl with | [_, _], _ => rfl
  have d_Lglyphs_of : De T "_law_glyphs_of" ["_law_ties_here"] s_Lglyphs_of := de_at KX G (c.fact 27) (c.fo 5) fun _ _ _ _ _ _ us hl => match us, hl with | [_], _ => rfl
  have d_Ljar : De T "_law_jar" ["_law_script", "_law_k"] s_Ljar := de_at KX G (c.fact 28) (c.fo 6) fun _ _ _ _ _ _ us hl => match us, hl with | [_, _], _ => rfl
  have d_Llaid : De T "_law_laid" ["_law_jar_here", "_law_ties_here", "_law_glyphs"] s_Llaid := de_at KX G (c.fact 29) (c.fo 7) fun _ _ _ _ _ _ us hl => match us, hl with | [_, _, _], _ => rfl
  have d_Lpick : De T "_law_pick" ["_law_jar_here", "_law_menu"] s_Lpick := de_at KX G (c.fact 30) (c.fo 8) fun _ _ _ _ _ _ us hl => match us, hl with | [_, _], _ => rfl
  have d_Lplaces_right : De T "_law_places_right" ["_law_mine", "_law_arrows_here", "_law_glyph"] s_Lplaces_right := de_at KX G (c.fact 31) (c.fo 9) fun _ _ _ _ _ _ us hl => match us, hl with | [_, _, _], _ => rfl
  have d_Lpool : De T "_law_pool" ["_law_jar_here", "_law_many"] s_Lpool := de_at KX G (c.fact 32) (c.fo 10) fun _ _ _ _ _ _ us hl => match us, hl with | [_, _], _ => rfl
  have d_Lright : De T "_law_right" ["_law_jar_here"] s_Lright := de_at KX G (c.fact 33) (c.fo 11) fun _ _ _ _ _ _ us hl => match us, hl with | [_], _ => rfl
  have d_Lrow_due : De T "_law_row_due" ["_law_arrows_here", "_law_row"] s_Lrow_due := de_at KX G (c.fact 34) (c.fo 12) fun _ _ _ _ _ _ us hl => match us, hl with | [_, _], _ => rfl
  have d_Lshown : De T "_law_shown" ["_law_e"] s_Lshown := de_at KX G (c.fact 35) (c.fo 13) fun _ _ _ _ _ _ us hl => match us, hl with | [_], _ => rfl
  have d_Lties : De T "_law_ties" ["_law_jar_here", "_law_most"] s_Lties := de_at KX G (c.fact 36) (c.fo 14) fun _ _ _ _ _ _ us hl => match us, hl with | [_, _], _ => rfl
  have d_Ltwo : De T "_law_two" ["_law_one", "_law_other"] s_Ltwo := de_at KX G (c.fact 37) (c.fo 15) fun _ _ _ _ _ _ us hl => match us, hl with | [_, _], _ => rfl
  have d_Lwalk : De T "_law_walk" ["_law_jar_here", "_law_arrows_here", "_law_most"] s_Lwalk := de_at KX G (c.fact 38) (c.fo 16) fun _ _ _ _ _ _ us hl => match us, hl with | [_, _, _], _ => rfl
  have d_arrows_behind : De T "arrows_behind" ["arrows", "row"] s_arrows_behind := de_at KX G (c.fact 39) (c.fo 17) fun _ _ _ _ _ _ us hl => match us, hl with | [_, _], _ => rfl
  have d_check_arrows : De T "check_arrows" ["arrows"] s_check_arrows := de_at KX G (c.fact 40) (c.fo 18) fun _ _ _ _ _ _ us hl => match us, hl with | [_], _ => rfl
  have d_check_place : De T "check_place" ["web", "value"] s_check_place := de_at KX G (c.fact 41) (c.fo 19) fun _ _ _ _ _ _ us hl => match us, hl with | [_, _], _ => rfl
  have d_check_row : De T "check_row" ["way", "row"] s_check_row := de_at KX G (c.fact 42) (c.fo 20) fun _ _ _ _ _ _ us hl => match us, hl with | [_, _], _ => rfl
  have d_check_ties : De T "check_ties" ["ties"] s_check_ties := de_at KX G (c.fact 43) (c.fo 21) fun _ _ _ _ _ _ us hl => match us, hl with | [_], _ => rfl
  have d_do_hang : De T "do_hang" ["ties"] s_do_hang := de_at KX G (c.fact 44) (c.fo 22) fun _ _ _ _ _ _ us hl => match us, hl with | [_], _ => rfl
  have d_does_give : De T "does_give" ["arrows", "place"] s_does_give := de_at KX G (c.fact 45) (c.fo 23) fun _ _ _ _ _ _ us hl => match us, hl with | [_, _], _ => rfl
  have d_does_take : De T "does_take" ["arrows", "place"] s_does_take := de_at KX G (c.fact 46) (c.fo 24) fun _ _ _ _ _ _ us hl => match us, hl with | [_, _], _ => rfl
  have d_exchanged : De T "exchanged" ["arrows", "place"] s_exchanged := de_at KX G (c.fact 47) (c.fo 25) fun _ _ _ _ _ _ us hl => match us, hl with | [_, _], _ => rfl
  have d_is_pair : De T "is_pair" ["value"] s_is_pair := de_at KX G (c.fact 48) (c.fo 26) fun _ _ _ _ _ _ us hl => match us, hl with | [_], _ => rfl
  have d_is_place : De T "is_place" ["value"] s_is_place := de_at KX G (c.fact 49) (c.fo 27) fun _ _ _ _ _ _ us hl => match us, hl with | [_], _ => rfl
  have d_is_ringed : De T "is_ringed" ["arrows"] s_is_ringed := de_at KX G (c.fact 50) (c.fo 28) fun _ _ _ _ _ _ us hl => match us, hl with | [_], _ => rfl
  have d_is_two : De T "is_two" ["value"] s_is_two := de_at KX G (c.fact 51) (c.fo 29) fun _ _ _ _ _ _ us hl => match us, hl with | [_], _ => rfl
  have d_met_from : De T "met_from" ["ties", "places"] s_met_from := de_at KX G (c.fact 52) (c.fo 30) fun _ _ _ _ _ _ us hl => match us, hl with | [_, _], _ => rfl
  have d_pair_of : De T "pair_of" ["one", "other"] s_pair_of := de_at KX G (c.fact 53) (c.fo 31) fun _ _ _ _ _ _ us hl => match us, hl with | [_, _], _ => rfl
  have d_places_in : De T "places_in" ["ties"] s_places_in := de_at KX G (c.fact 54) (c.fo 32) fun _ _ _ _ _ _ us hl => match us, hl with | [_], _ => rfl
  have d_row_slip : De T "row_slip" ["arrows", "row"] s_row_slip := de_at KX G (c.fact 55) (c.fo 33) fun _ _ _ _ _ _ us hl => match us, hl with | [_, _], _ => rfl
  have d_web_of : De T "web_of" ["arrows"] s_web_of := de_at KX G (c.fact 56) (c.fo 34) fun _ _ _ _ _ _ us hl => match us, hl with | [_], _ => rfl
  have dt_Lplaces_right : DeT T "_law_places_right" ["_law_mine", "_law_arrows_here", "_law_glyph"] s_Lplaces_right (codeA T.K "_law_places_right") := det_at KX G (c.fact 31) (c.fo 9) fun _ _ _ _ _ _ us hl => match us, hl with | [_, _, _], _ => rfl
  have TB : LamX.TabB T.base T.mg (codeA T.K "_law_places_right") (tabA T.K "_law_places_right") := TB
  have dt_Lright : DeT T "_law_right" ["_law_jar_here"] s_Lright (codeA T.K "_law_right") := det_at KX G (c.fact 33) (c.fo 11) fun _ _ _ _ _ _ us hl => match us, hl with | [_], _ => rfl
  have TB2 : LamX.TabB T.base T.mg (codeA T.K "_law_right") (tabA T.K "_law_right") := TB2
  have e1_InvalidRow_index : ErrC T "InvalidRow" (gA "InvalidRow" T.K) "index" := errc_at KX G (c.fact 76) (c.fact 77) (c.fact 78) (c.fact 79) (c.fo 45) (fun _ F => ini_ok F sc_InvalidRow___init__ rfl rfl rfl (.inl rfl) (.inl rfl) (by decide) (by decide) (by decide) (by decide) fun _ => rfl) (ps := ["self", "index"]) fun _ _ _ _ _ _ us hl => match us, hl with | [_, _], _ => rfl
  have e1_NotGiving_given : ErrT T "NotGiving" (gA "NotGiving" T.K) "given" := errt_at PySem.F.excBase_ArithmeticError PySem.F.store_ArithmeticError KX G (c.fact 80) (c.fact 81) (c.fact 82) (c.fact 83) (c.fo 46) (fun _ F => ini_okT F sc_NotGiving___init__ rfl rfl rfl (.inl rfl) (.inl rfl) (by decide) (by decide) (by decide) (by decide) fun _ => rfl) (ps := ["self", "given"]) fun _ _ _ _ _ _ us hl => match us, hl with | [_, _], _ => rfl
  have e1_NotTaking_given : ErrT T "NotTaking" (gA "NotTaking" T.K) "given" := errt_at PySem.F.excBase_ArithmeticError PySem.F.store_ArithmeticError KX G (c.fact 84) (c.fact 85) (c.fact 86) (c.fact 87) (c.fo 47) (fun _ F => ini_okT F sc_NotTaking___init__ rfl rfl rfl (.inl rfl) (.inl rfl) (by decide) (by decide) (by decide) (by decide) fun _ => rfl) (ps := ["self", "given"]) fun _ _ _ _ _ _ us hl => match us, hl with | [_, _], _ => rfl
  have e1_UnknownPlace_given : ErrT T "UnknownPlace" (gA "UnknownPlace" T.K) "given" := errt_at PySem.F.excBase_LookupError PySem.F.store_LookupError KX G (c.fact 88) (c.fact 89) (c.fact 90) (c.fact 91) (c.fo 48) (fun _ F => ini_okT F sc_UnknownPlace___init__ rfl rfl rfl (.inl rfl) (.inl rfl) (by decide) (by decide) (by decide) (by decide) fun _ => rfl) (ps := ["self", "given"]) fun _ _ _ _ _ _ us hl => match us, hl with | [_, _], _ => rfl
  have bp_NotGiving := basP_of (T := T) (x := "NotGiving") (c.fact 92) (c.fact 93) (c.fact 94) (c.fact 95) (c.fact 96)
  have bp_NotTaking := basP_of (T := T) (x := "NotTaking") (c.fact 97) (c.fact 98) (c.fact 99) (c.fact 100) (c.fact 101)
  have bv_InvalidRow := basV_of (T := T) (x := "InvalidRow") (c.fact 102) (c.fact 103) (c.fact 104) (c.fact 105) (c.fact 106)
  have kf_InvalidRow_NotGiving := kit_of (T := T) (c.fact 107)
  have kf_InvalidRow_NotTaking := kit_of (T := T) (c.fact 108)
  have kf_NotGiving_InvalidRow := kit_of (T := T) (c.fact 109)
  have kf_NotGiving_NotTaking := kit_of (T := T) (c.fact 110)
  have kf_NotTaking_InvalidRow := kit_of (T := T) (c.fact 111)
  have kf_NotTaking_NotGiving := kit_of (T := T) (c.fact 112)
  have kt_InvalidRow_InvalidRow := kit_of (T := T) (c.fact 113)
  have kt_NotGiving_NotGiving := kit_of (T := T) (c.fact 114)
  have kt_NotTaking_NotTaking := kit_of (T := T) (c.fact 115)
  have xm_InvalidRow := exm_of (T := T) (c.fact 116)
  have xm_NotGiving := exm_of (T := T) (c.fact 117)
  have xm_NotTaking := exm_of (T := T) (c.fact 118)
  have gm_InvalidRow : T.mg "InvalidRow" = some (.ref (gA "InvalidRow" T.K)) := glo_mg KX G (c.fact 76)
  have gm_NotGiving : T.mg "NotGiving" = some (.ref (gA "NotGiving" T.K)) := glo_mg KX G (c.fact 80)
  have gm_NotPossible : T.mg "NotPossible" = some (.ref (gA "NotPossible" T.K)) := glo_mg KX G (c.fact 119)
  have gm_NotTaking : T.mg "NotTaking" = some (.ref (gA "NotTaking" T.K)) := glo_mg KX G (c.fact 84)
  have gm_WrongName : T.mg "WrongName" = some (.ref (gA "WrongName" T.K)) := glo_mg KX G (c.fact 120)
  have gm_WrongValue : T.mg "WrongValue" = some (.ref (gA "WrongValue" T.K)) := glo_mg KX G (c.fact 121)
  have hm_Way : T.mg "Way" = some (.ref (gA "Way" T.K)) := glo_mg KX G (c.fact 58)
  have io_Way : IsO T.K (gA "Way" T.K) := isO_self
  have cl_Way : Cls T.K (gA "Way" T.K) := cls_of (c.fact 59)
  have oc_Way : OCls T.K (gA "Way" T.K) := ocls_of (c.fact 59) (c.fact 60)
  have di_Way : DeI T "Way" (gA "Way" T.K) "Way.__init__" ["self", "arrows"] s_Way___init__ := dei_at KX G (c.fact 58) (c.fact 61) (c.fo 36) fun _ _ _ _ _ _ us hl => match us, hl with | [_, _], _ => rfl
  have dm_Way_back : DeM T (gA "Way" T.K) "back" "Way.back" ["self", "place"] s_Way_back := dem_at (c.fact 59) (c.fact 62) (c.fo 37) fun _ _ _ _ _ _ us hl => match us, hl with | [_, _], _ => rfl
  have dm_Way_by : DeM T (gA "Way" T.K) "by" "Way.by" ["self", "row"] s_Way_by := dem_at (c.fact 59) (c.fact 63) (c.fo 38) fun _ _ _ _ _ _ us hl => match us, hl with | [_, _], _ => rfl
  have dm_Way_turned : DeM T (gA "Way" T.K) "turned" "Way.turned" ["self", "place"] s_Way_turned := dem_at (c.fact 59) (c.fact 64) (c.fo 39) fun _ _ _ _ _ _ us hl => match us, hl with | [_, _], _ => rfl
  have dp_Way_arrows : DeP T (gA "Way" T.K) "arrows" "Way.arrows" ["self"] s_Way_arrows := dep_at (c.fact 59) (c.fact 65) (c.fo 40) fun _ _ _ _ _ _ us hl => match us, hl with | [_], _ => rfl
  have dp_Way_web : DeP T (gA "Way" T.K) "web" "Way.web" ["self"] s_Way_web := dep_at (c.fact 59) (c.fact 66) (c.fo 41) fun _ _ _ _ _ _ us hl => match us, hl with | [_], _ => rfl
  have dq_Way : DeQ T (gA "Way" T.K) "Way.__eq__" ["self", "other"] s_Way___eq__ := deq_at (c.fact 67) (c.fo 42) fun _ _ _ _ _ _ us hl => match us, hl with | [_, _], _ => rfl
  have na_Way_lot : NoAttr T.K (gA "Way" T.K) "lot" := no_of (c.fact 68)
  have hm_Web : T.mg "Web" = some (.ref (gA "Web" T.K)) := glo_mg KX G (c.fact 69)
  have io_Web : IsO T.K (gA "Web" T.K) := isO_self
  have cl_Web : Cls T.K (gA "Web" T.K) := cls_of (c.fact 70)
  have oc_Web : OCls T.K (gA "Web" T.K) := ocls_of (c.fact 70) (c.fact 71)
  have di_Web : DeI T "Web" (gA "Web" T.K) "Web.__init__" ["self", "ties"] s_Web___init__ := dei_at KX G (c.fact 69) (c.fact 72) (c.fo 43) fun _ _ _ _ _ _ us hl => match us, hl with | [_, _], _ => rfl
  have dp_Web_places : DeP T (gA "Web" T.K) "places" "Web.places" ["self"] s_Web_places := dep_at (c.fact 70) (c.fact 73) (c.fo 44) fun _ _ _ _ _ _ us hl => match us, hl with | [_], _ => rfl
  have na_Web_letters : NoAttr T.K (gA "Web" T.K) "letters" := no_of (c.fact 74)
  have na_Web_pairs : NoAttr T.K (gA "Web" T.K) "pairs" := no_of (c.fact 75)
  have k_Lgives := Pdl.c_Lgives B d_Lgives
  have k_Lflip := Pdl.c_Lflip B d_Lflip
  have k_Lbases := Pdl.w_Lbases B d_Lbases gm_WrongValue gm_WrongName gm_NotPossible z_ValueError z_LookupError z_ArithmeticError
  have k_Lshown11 := Pdl.w_Lshown11 B d_Lshown gm_NotGiving gm_NotTaking gm_InvalidRow z_repr e1_NotGiving_given e1_NotTaking_given e1_InvalidRow_index bp_NotGiving bp_NotTaking bv_InvalidRow kt_NotGiving_NotGiving kf_NotGiving_NotTaking kf_NotGiving_InvalidRow kf_NotTaking_NotGiving kt_NotTaking_NotTaking kf_NotTaking_InvalidRow kf_InvalidRow_NotGiving kf_InvalidRow_NotTaking kt_InvalidRow_InvalidRow k_Lbases
  have k_Lcaught11 := Pdl.f_Lcaught B d_Lcaught gm_WrongValue gm_WrongName gm_NotPossible k_Lshown11 (by decide)
  have k_is_place := Pdl.c_is_place B d_is_place g_LETTERS
  have k_is_two := Pdl.c_is_two B d_is_two k_is_place
  have k_pair_of := Pdl.c_pair_of B d_pair_of
  have k_places_in := Pdl.c_places_in B d_places_in
  have k_met_from := Pdl.c_met_from B d_met_from k_places_in
  have k_do_hang := Pdl.c_do_hang B d_do_hang k_places_in k_met_from
  have k_is_ringed := Pdl.c_is_ringed B d_is_ringed
  have k_check_arrows := Pdl.c_check_arrows B d_check_arrows g_MOST_TIES g_MOST_PLACES k_is_two k_pair_of k_places_in k_do_hang k_is_ringed
  have k_Way := Pdl.m_Way B di_Way cl_Way na_Way_lot k_check_arrows
  have k_Way_eq := Pdl.e_Way B dq_Way oc_Way io_Way na_Way_lot hm_Way
  have k_is_pair := Pdl.c_is_pair B d_is_pair k_is_two
  have k_check_ties := Pdl.c_check_ties B d_check_ties g_MOST_TIES g_MOST_PLACES k_places_in k_is_pair k_do_hang
  have k_Web := Pdl.m_Web B di_Web cl_Web na_Web_pairs na_Web_letters k_check_ties k_places_in
  have k_web_of := Pdl.c_web_of B d_web_of k_Web k_pair_of
  have k_Way_web := Pdl.p_Way_web B dp_Way_web cl_Way na_Way_lot k_web_of
  have k_Web_places := Pdl.p_Web_places B dp_Web_places cl_Web na_Web_letters
  have k_check_place := Pdl.c_check_place B d_check_place k_is_place k_Web_places
  have k_does_take := Pdl.c_does_take B d_does_take
  have k_exchanged := Pdl.c_exchanged B d_exchanged
  have k_Way_back := Pdl.m_Way_back B dm_Way_back cl_Way na_Way_lot k_Way_web k_check_place k_does_take k_exchanged k_Way
  have k_is_placeA := Pdl.a_is_place B d_is_place g_LETTERS
  have k_check_placeX := Pdl.x_check_place B d_check_place k_is_placeA k_Web_places e1_UnknownPlace_given
  have k_does_give := Pdl.c_does_give B d_does_give
  have k_Way_turnedW := Pdl.x_Way_turnedW B dm_Way_turned cl_Way na_Way_lot k_Way_web k_check_placeX k_does_give k_exchanged k_Way e1_NotGiving_given
  have k_Way_turnedWp := Pdl.fst_of k_Way_turnedW
  have k_Way_turnedWk := Pdl.snd_of k_Way_turnedW
  have k_Way_backW := Pdl.x_Way_backW B dm_Way_back cl_Way na_Way_lot k_Way_web k_check_placeX k_does_take k_exchanged k_Way e1_NotTaking_given
  have k_Way_backWp := Pdl.fst_of k_Way_backW
  have k_Way_backWk := Pdl.snd_of k_Way_backW
  have k_dip := Pdl.j_dip B d_Ldip
  have k_Jpick := Pdl.jj_pick B d_Lpick k_dip
  have k_pool := Pdl.jj_pool B d_Lpool k_dip
  have k_Ltwo := Pdl.c_Ltwo B d_Ltwo
  have k_Jties := Pdl.jj_ties B d_Lties k_dip k_Jpick k_pool k_Ltwo
  have k_Jlaid := Pdl.jj_laid B d_Llaid k_dip
  have k_Lglyphs_of := Pdl.c_Lglyphs_of B d_Lglyphs_of
  have k_Jwalk := Pdl.jj_walk B d_Lwalk k_dip k_Jpick k_Lglyphs_of k_Lgives k_Lflip
  have k_Lrow_due := Pdl.c_Lrow_due B d_Lrow_due z_repr k_Lglyphs_of k_Lgives k_Lflip
  have k_Way_arrows := Pdl.p_Way_arrows B dp_Way_arrows cl_Way na_Way_lot
  have k_row_slip := Pdl.c_row_slip B d_row_slip k_places_in k_does_give k_exchanged
  have k_check_row := Pdl.c_check_row B d_check_row k_Way_arrows k_row_slip
  have k_arrows_behind := Pdl.c_arrows_behind B d_arrows_behind k_exchanged
  have k_Way_by := Pdl.m_Way_by B dm_Way_by cl_Way na_Way_lot k_check_row k_arrows_behind k_Way
  have k_check_rowW := Pdl.x_check_rowW B d_check_row k_Way_arrows k_row_slip e1_InvalidRow_index
  have k_Way_byW := Pdl.x_Way_byW B dm_Way_by cl_Way na_Way_lot k_check_rowW k_arrows_behind k_Way
  have k_Way_byWk := Pdl.snd_of k_Way_byW
  have k_jar' := Pdl.k_jar B d_Ljar
  have k_places := k11_places (P2 := tabA T.K "_law_right") (q2 := lamQ "_law_right") B dt_Lplaces_right TB z_repr k_Lgives k_Lflip k_Lcaught11 k_Way k_Way_eq k_Way_back k_Way_turnedWp k_Way_turnedWk k_Way_backWp k_Way_backWk xm_NotGiving xm_NotTaking
  have k_right := k11_right B dt_Lright TB2 k_Jties k_Jlaid k_dip k_Jpick k_Jwalk k_Lrow_due k_places k_Lcaught11 k_Way k_Way_eq k_Way_arrows k_Way_by k_Way_byWk xm_InvalidRow
  exact Pdl.f_lawT2 B (by decide) Fl k_jar' k_right
end Pdl
open PySem PySem.W PySem.Calls PyProof.Rows
set_option maxHeartbeats 0 in
theorem PySem.Challenge.cw_pushdowns_k11_whole_ways_turned_holds : PySem.Challenge.rw_pushdowns_k11_whole_ways_turned.Holds := by
  w_on; o_law
  refine HandSHeadRun.head_any (r := Pdl.Rw) (q := view Pdl.Rw.prog [61]) (H := Pdl.hk) (ob := Pdl.ob) (M := 20000) (loose := Pdl.loose) (d := HandSHeadRun.topDef Pdl.Rw.prog 61) (kwd := []) Pdl.ob_eq
    (by kernel_rfl) (fun s => by kernel_rfl) Pdl.run (by kernel_rfl) (by kernel_rfl) (by kernel_rfl) (by rfl) (by first | assumption | decide +kernel) (by decide +kernel) ⟨rfl, rfl, rfl, rfl, rfl, by decide +kernel⟩ ?hw ?hc
  case hw => w_witness2
  case hc =>
    have hname : (HandSHeadRun.topDef Pdl.Rw.prog 61).name = ("law" : PySem.Str) := by kernel_rfl
    refine Pdl.walk_endGT2 (l := PySem.Challenge.rw_pushdowns_k11_whole_ways_turned) (k := 15) rfl (by kernel_rfl) ⟨rfl, by decide, by decide⟩ hname fun w mg fa h K KX G hmg c => Pdl.all_mk KX G hmg c
