import PyProof.Rows.All
import Wide.All
import OpenK.AllK
import Wide.FinOn
import HandS.ForMost
import HandS.SetFor
import HandS.Exc
import HandS.Lambda
import HandS.Property
import HandS.Defaults
import HandS.TupAny
import HandS.Replace
import KE.SortData
import HandS.SetTxtIn
import HandS.StrMore
import HandS.Style
import HandS.IsInst
import HandS.WordsDict
import HandS.Small
import HandS.More
import HandS.OwnEq
import PyProof.ListStr
import PyProof.ReprRoads
import PyProof.Rows.RegFStrParts
import HandS.Head0
import HandS.Head1
import HandS.Head2
import HandS.HeadEnd
import HandS.HeadHook1
import HandS.HeadHook2
import KE.KStateDown
import HandS.HeadNt
import HandS.Star
import HandS.Zip
import HandS.Comp
import HandS.ClsMeth
import KE.KDictPairs
import KE.KDictDisplayH
import HandS.Conv
import HandS.SlotsOwn
import KE.RegKCallOwn
import KE.GoesEnum
import HandS.TupMul
import HandS.WordsExc
import HandS.ExcOwn
import HandS.ExcInit
import HandS.ExcField
import HandS.TryMany
import PyProof.TupleOfStr
import HandS.HeadHook3
import PyProof.EqKinds
import PyProof.FactsAll.dict_1
import PyProof.Conv_bool
import HandS.MakeKwOnly
import HandS.Text
import KE.GoesZip
import HandS.ReplaceLit
import KE.KRevSl
import HandS.TryOnly
import HandS.ExcValue
import KE.KExcIs
import HandS.HotCalls
import HandS.EndTab
import HandS.HeadHook4
import HandS.RaiseMore
import KE.KExcInit
import PyProof.ExcBaseAll.ValueError
import PyProof.ExcBaseAll.LookupError
import PyProof.ExcBaseAll.ArithmeticError
import PyProof.CallFns
import PyProof.StrLawsRepr
import PyProof.ReprText
import PyProof.FactsAll.list_3
import PyProof.NeKinds
import PyProof.InstStoreFacts
import PySem.Challenge.RW_pushdowns_k01_limits_and_errors
set_option Elab.async false
set_option linter.all false
set_option maxRecDepth 100000
set_option maxHeartbeats 4000000
namespace Pdl
open PySem L2
def kOf (e : Int × Value) : Key := match e.2 with | .int k _ => .inl k | .str x _ => .inr x | _ => .inl 0
def GoodK (w : World) (e : Int × Value) : Prop := keyIs (kOf e) e.2 = true ∧ e.1 = keyH w (kOf e)
/-- at a stands a set with just the keys of L -/
def SetQ (w : World) (h : Heap) (a : Addr) (L : List Key) : Prop :=
  ∃ o es ep t, h.get? a = some o ∧ o.ExactSet ∧ o.data = .set es ep t ∧ (∀ e ∈ es.toList, GoodK w e) ∧ (es.toList.map kOf).Nodup ∧ (∀ k, k ∈ L ↔ k ∈ es.toList.map kOf) ∧
    es.size ≤ L.length ∧ t.fits es.size = true ∧ Ris t.place.toList ∧ (w.params.followText "set-order" = true ∨ t.led = true)
theorem SetQ.at {w : World} {h h' : Heap} {a : Addr} {L : List Key} (R : SetQ w h a L) (k : ∀ o, h.get? a = some o → h'.get? a = some o) : SetQ w h' a L := let ⟨o, es, ep, t, ho, r⟩ := R; ⟨o, es, ep, t, k o ho, r⟩
def SetE (w : World) (a : Addr) (L : List Key) : HO := .ext fun h => SetQ w h a L
inductive D where
  | non | bl (b : Bool) | int (i : Int) | str (x : Str) | ty (n : String) | ref (a : Addr)
  | lst (xs : List D) | tup (xs : List D) | dct (kvs : List (Key × D)) | ins (C : Addr) (fs : List (Str × D)) | exc (C : Addr) (fs : List (Str × D)) | set (w : World) (L : List Key) | dcT (kvs : List (List Key × D)) | tupx (xs : List D) | dcL (kvs : List (List Key × D))
/-- an exception as a value: of the class at C, its dict (none | at d) -/
def exV (a C : Addr) (d : Option Addr) : HO := .ext fun h => ∃ oe : Obj, h.get? a = some oe ∧ Zc (.ref C) d oe ∧ ∃ vs, oe.data = .fields vs
/-- a tuple that is tracked as such -/
def TpX (G : Hp) (a : Addr) (xs : List V) : Prop := G a = some (.tup xs)
theorem TpX.of {G : Hp} {a : Addr} {xs : List V} (h : G a = some (.tup xs)) : TpX G a xs := h
theorem TpX.sq {K : PySem.W.Frag} {G : Hp} {a : Addr} {xs : List V} (h : TpX G a xs) : SqT K G a xs := .of h
mutual
/-- a value shows data in a heap -/
inductive Rp (K : PySem.W.Frag) (G : Hp) : V → D → Prop
  | non : Rp K G .non .non
  | bl (b : Bool) : Rp K G (.bl b) (.bl b)
  | int (i : Int) : Rp K G (.int i) (.int i)
  | str (x : Str) : Rp K G (.str x) (.str x)
  | ty (n : String) : Rp K G (.ty n) (.ty n)
  | ref (a : Addr) : Rp K G (.ref a) (.ref a)
  | lst {a : Addr} {xs : List V} {ds : List D} : SqL K G a xs → RpA K G xs ds → Rp K G (.ref a) (.lst ds)
  | tup {a : Addr} {xs : List V} {ds : List D} : TpX G a xs → RpA K G xs ds → Rp K G (.ref a) (.tup ds)
  | tupx {a : Addr} {xs : List V} {ds : List D} : SqT K G a xs → RpA K G xs ds → Rp K G (.ref a) (.tupx ds)
  | dct {a : Addr} {kvs : List (Key × V)} {ds : List (Key × D)} : G a = some (.dK kvs) → RpK K G kvs ds → Rp K G (.ref a) (.dct ds)
  | ins {a C dx : Addr} {fs : List (Str × V)} {ds : List (Str × D)} : G a = some (.ins C dx fs) → RpF K G fs ds → Rp K G (.ref a) (.ins C ds)
  | exc0 {a C : Addr} : G a = some (exV a C none) → Rp K G (.ref a) (.exc C [])
  | exc1 {a C dx : Addr} {fs : List (Str × V)} {ds : List (Str × D)} : G a = some (exV a C (some dx)) → G dx = some (.xd fs) → RpF K G fs ds → Rp K G (.ref a) (.exc C ds)
  | set {a : Addr} {w : World} {L : List Key} : G a = some (SetE w a L) → Rp K G (.ref a) (.set w L)
  | dcT {a : Addr} {kvs : List (List Key × V)} {ds : List (List Key × D)} : G a = some (.dT kvs) → RpT K G kvs ds → Rp K G (.ref a) (.dcT ds)
  | dcL {a : Addr} {o : Obj} {kvs : List (List Key × V)} {ds : List (List Key × D)} : G a = some (.frz o (.dT kvs)) → RpT K G kvs ds → Rp K G (.ref a) (.dcL ds)
inductive RpA (K : PySem.W.Frag) (G : Hp) : List V → List D → Prop
  | nil : RpA K G [] []
  | cons {v : V} {d : D} {vs : List V} {ds : List D} : Rp K G v d → RpA K G vs ds → RpA K G (v :: vs) (d :: ds)
inductive RpK (K : PySem.W.Frag) (G : Hp) : List (Key × V) → List (Key × D) → Prop
  | nil : RpK K G [] []
  | cons {k : Key} {v : V} {d : D} {vs : List (Key × V)} {ds : List (Key × D)} : Rp K G v d → RpK K G vs ds → RpK K G ((k, v) :: vs) ((k, d) :: ds)
inductive RpT (K : PySem.W.Frag) (G : Hp) : List (List Key × V) → List (List Key × D) → Prop
  | nil : RpT K G [] []
  | cons {k : List Key} {v : V} {d : D} {vs : List (List Key × V)} {ds : List (List Key × D)} : Rp K G v d → RpT K G vs ds → RpT K G ((k, v) :: vs) ((k, d) :: ds)
inductive RpF (K : PySem.W.Frag) (G : Hp) : List (Str × V) → List (Str × D) → Prop
  | nil : RpF K G [] []
  | cons {k : Str} {v : V} {d : D} {vs : List (Str × V)} {ds : List (Str × D)} : Rp K G v d → RpF K G vs ds → RpF K G ((k, v) :: vs) ((k, d) :: ds)
end
/-- every object of the one stands in the other -/
def Sub (G G' : Hp) : Prop := ∀ a o, G a = some o → G' a = some o
theorem Sub.refl (G : Hp) : Sub G G := fun _ _ h => h
theorem Sub.trans {G G1 G2 : Hp} (a : Sub G G1) (b : Sub G1 G2) : Sub G G2 := fun x o h => b x o (a x o h)
theorem Sub.sqL {K : PySem.W.Frag} {G G' : Hp} {a : Addr} {xs : List V} (e : Sub G G') (h : SqL K G a xs) : SqL K G' a xs := by
  rcases h with (h | ⟨o, h⟩) | h
  · exact .inl (.inl (e _ _ h))
  · exact .inl (.inr ⟨o, e _ _ h⟩)
  · exact .inr h
theorem Sub.sqT {K : PySem.W.Frag} {G G' : Hp} {a : Addr} {xs : List V} (e : Sub G G') (h : SqT K G a xs) : SqT K G' a xs := by
  rcases h with (h | ⟨o, h⟩) | h
  · exact .inl (.inl (e _ _ h))
  · exact .inl (.inr ⟨o, e _ _ h⟩)
  · exact .inr h
section
variable {K : PySem.W.Frag} {G G' : Hp}
mutual
theorem Rp.mono (e : Sub G G') : ∀ {v : V} {d : D}, Rp K G v d → Rp K G' v d
  | _, _, .non => .non
  | _, _, .bl b => .bl b
  | _, _, .int i => .int i
  | _, _, .str x => .str x
  | _, _, .ty n => .ty n
  | _, _, .ref a => .ref a
  | _, _, .lst h r => .lst (e.sqL h) (RpA.mono e r)
  | _, _, .tup h r => .tup (e _ _ h) (RpA.mono e r)
  | _, _, .tupx h r => .tupx (e.sqT h) (RpA.mono e r)
  | _, _, .dct h r => .dct (e _ _ h) (RpK.mono e r)
  | _, _, .ins h r => .ins (e _ _ h) (RpF.mono e r)
  | _, _, .exc0 h => .exc0 (e _ _ h)
  | _, _, .exc1 h h2 r => .exc1 (e _ _ h) (e _ _ h2) (RpF.mono e r)
  | _, _, .set h => .set (e _ _ h)
  | _, _, .dcT h r => .dcT (e _ _ h) (RpT.mono e r)
  | _, _, .dcL h r => .dcL (e _ _ h) (RpT.mono e r)
theorem RpA.mono (e : Sub G G') : ∀ {v : List V} {d : List D}, RpA K G v d → RpA K G' v d
  | _, _, .nil => .nil
  | _, _, .cons h r => .cons (Rp.mono e h) (RpA.mono e r)
theorem RpK.mono (e : Sub G G') : ∀ {v : List (Key × V)} {d : List (Key × D)}, RpK K G v d → RpK K G' v d
  | _, _, .nil => .nil
  | _, _, .cons h r => .cons (Rp.mono e h) (RpK.mono e r)
theorem RpT.mono (e : Sub G G') : ∀ {v : List (List Key × V)} {d : List (List Key × D)}, RpT K G v d → RpT K G' v d
  | _, _, .nil => .nil
  | _, _, .cons h r => .cons (Rp.mono e h) (RpT.mono e r)
theorem RpF.mono (e : Sub G G') : ∀ {v : List (Str × V)} {d : List (Str × D)}, RpF K G v d → RpF K G' v d
  | _, _, .nil => .nil
  | _, _, .cons h r => .cons (Rp.mono e h) (RpF.mono e r)
end
end
theorem RpA.length {K : PySem.W.Frag} {G : Hp} : ∀ {vs : List V} {ds : List D}, RpA K G vs ds → vs.length = ds.length
  | _, _, .nil => rfl
  | _, _, .cons _ r => by simp [RpA.length r]
theorem RpA.get {K : PySem.W.Frag} {G : Hp} : ∀ {vs : List V} {ds : List D} {i : Nat} {v : V}, RpA K G vs ds → vs[i]? = some v → ∃ d, ds[i]? = some d ∧ Rp K G v d
  | _, _, _, _, .nil, e => by simp at e
  | _, _, 0, _, .cons h _, e => by simp at e; subst e; exact ⟨_, rfl, h⟩
  | _, _, i + 1, v, .cons _ r, e => by
    obtain ⟨d, h1, h2⟩ := RpA.get (i := i) (v := v) r (by simpa using e)
    exact ⟨d, by simpa using h1, h2⟩
theorem RpA.got {K : PySem.W.Frag} {G : Hp} : ∀ {vs : List V} {ds : List D} {i : Nat} {d : D}, RpA K G vs ds → ds[i]? = some d → ∃ v, vs[i]? = some v ∧ Rp K G v d
  | _, _, _, _, .nil, e => by simp at e
  | _, _, 0, _, .cons h _, e => by simp at e; subst e; exact ⟨_, rfl, h⟩
  | _, _, i + 1, v, .cons _ r, e => by
    obtain ⟨d, h1, h2⟩ := RpA.got (i := i) r (by simpa using e)
    exact ⟨d, by simpa using h1, h2⟩
theorem RpA.app {K : PySem.W.Frag} {G : Hp} : ∀ {vs us : List V} {ds es : List D}, RpA K G vs ds → RpA K G us es → RpA K G (vs ++ us) (ds ++ es)
  | _, _, _, _, .nil, r => r
  | _, _, _, _, .cons h t, r => .cons h (RpA.app t r)
theorem RpA.take {K : PySem.W.Frag} {G : Hp} : ∀ {vs : List V} {ds : List D} (n : Nat), RpA K G vs ds → RpA K G (vs.take n) (ds.take n)
  | _, _, 0, _ => by simpa using .nil
  | _, _, _ + 1, .nil => .nil
  | _, _, n + 1, .cons h t => .cons h (RpA.take n t)
theorem RpA.drop {K : PySem.W.Frag} {G : Hp} : ∀ {vs : List V} {ds : List D} (n : Nat), RpA K G vs ds → RpA K G (vs.drop n) (ds.drop n)
  | _, _, 0, r => by simpa using r
  | _, _, _ + 1, .nil => .nil
  | _, _, n + 1, .cons _ t => RpA.drop n t
theorem RpA.set {K : PySem.W.Frag} {G : Hp} {v : V} {d : D} (h : Rp K G v d) : ∀ {vs : List V} {ds : List D} (n : Nat), RpA K G vs ds → RpA K G (vs.set n v) (ds.set n d)
  | _, _, _, .nil => .nil
  | _, _, 0, .cons _ t => .cons h t
  | _, _, n + 1, .cons q t => .cons q (RpA.set h n t)
theorem RpA.reverse {K : PySem.W.Frag} {G : Hp} : ∀ {vs : List V} {ds : List D}, RpA K G vs ds → RpA K G vs.reverse ds.reverse
  | _, _, .nil => .nil
  | _, _, .cons h t => by
    rw [List.reverse_cons, List.reverse_cons]
    exact (RpA.reverse t).app (.cons h .nil)
theorem RpA.strs {K : PySem.W.Frag} {G : Hp} : ∀ (zs : List Str), RpA K G (zs.map V.str) (zs.map D.str)
  | [] => .nil
  | z :: zs => .cons (.str z) (RpA.strs zs)
theorem RpA.of_strs {K : PySem.W.Frag} {G : Hp} : ∀ {zs : List Str} {vs : List V}, RpA K G vs (zs.map D.str) → vs = zs.map V.str
  | [], _, .nil => rfl
  | _ :: _, _, .cons h t => by
    cases h
    rw [RpA.of_strs t]
    all_goals rfl
theorem RpA.ints {K : PySem.W.Frag} {G : Hp} : ∀ (zs : List Int), RpA K G (zs.map V.int) (zs.map D.int)
  | [] => .nil
  | z :: zs => .cons (.int z) (RpA.ints zs)
theorem RpA.of_ints {K : PySem.W.Frag} {G : Hp} : ∀ {zs : List Int} {vs : List V}, RpA K G vs (zs.map D.int) → vs = zs.map V.int
  | [], _, .nil => rfl
  | _ :: _, _, .cons h t => by
    cases h
    rw [RpA.of_ints t]
    all_goals rfl
theorem RpF.lookup {K : PySem.W.Frag} {G : Hp} {f : Str} : ∀ {fs : List (Str × V)} {ds : List (Str × D)}, RpF K G fs ds →
    (∀ d, ds.lookup f = some d → ∃ v, fs.lookup f = some v ∧ Rp K G v d) ∧ (ds.lookup f = none → fs.lookup f = none)
  | _, _, .nil => ⟨fun d h => (by cases h), fun _ => rfl⟩
  | _, _, .cons (k := k) h t => by
    obtain ⟨i1, i2⟩ := RpF.lookup (f := f) t
    simp only [List.lookup]
    cases e : (f == k) with
    | true => exact ⟨fun d hd => (by cases hd; exact ⟨_, rfl, h⟩), fun hd => (by cases hd)⟩
    | false => exact ⟨i1, i2⟩
theorem RpF.length {K : PySem.W.Frag} {G : Hp} : ∀ {vs : List (Str × V)} {ds : List (Str × D)}, RpF K G vs ds → vs.length = ds.length
  | _, _, .nil => rfl
  | _, _, .cons _ r => by simp [RpF.length r]
/-- what is known of an object that may change -/
inductive Cell where
  | jar | lst (xs : List D) | dct (kvs : List (Key × D)) | ins (C : Addr) (fs : List (Str × D)) | dcT (kvs : List (List Key × D)) | tupx (xs : List D) | dcL (kvs : List (List Key × D)) | tbl (q : Str)
def CellRp (K : PySem.W.Frag) (G : Hp) (o : Option HO) : Cell → Prop
  | .jar => ∃ a b c : Int, o = some (.lst [.int a, .int b, .int c]) ∧ 0 ≤ a ∧ 0 ≤ b ∧ 0 ≤ c
  | .lst xs => ∃ vs, o = some (.lst vs) ∧ RpA K G vs xs
  | .dct kvs => ∃ vs, o = some (.dK vs) ∧ RpK K G vs kvs
  | .ins C fs => ∃ dx vs, o = some (.ins C dx vs) ∧ RpF K G vs fs
  | .dcT kvs => ∃ vs, o = some (.dT vs) ∧ RpT K G vs kvs
  | .dcL kvs => ∃ (ob : Obj) (vs : List (List Key × V)), o = some (.frz ob (.dT vs)) ∧ RpT K G vs kvs
  | .tupx xs => ∃ (ob : Obj) (vs : List V), o = some (.frz ob (.tup vs)) ∧ ob.cls = .type "tuple" ∧ ob.dict = none ∧ RpA K G vs xs
  | .tbl q => ∃ ps : Array Value, o = some (.tbl ps) ∧ TriplesOk ps.toList ∧ ∀ (pos : Pos) (cv : Value), codeAmong pos ps.toList = some cv → ∃ c, cv = .ref c ∧ G c = some (LamX.CodeO c q)
theorem CellRp.mono {K : PySem.W.Frag} {G G' : Hp} {o : Option HO} (e : Sub G G') : ∀ {c : Cell}, CellRp K G o c → CellRp K G' o c
  | .jar, h => h
  | .lst _, ⟨vs, h, r⟩ => ⟨vs, h, r.mono e⟩
  | .dct _, ⟨vs, h, r⟩ => ⟨vs, h, r.mono e⟩
  | .ins _ _, ⟨dx, vs, h, r⟩ => ⟨dx, vs, h, r.mono e⟩
  | .dcT _, ⟨vs, h, r⟩ => ⟨vs, h, r.mono e⟩
  | .dcL _, ⟨ob, vs, h, r⟩ => ⟨ob, vs, h, r.mono e⟩
  | .tupx _, ⟨ob, vs, h, h1, h2, r⟩ => ⟨ob, vs, h, h1, h2, r.mono e⟩
  | .tbl _, ⟨ps, h, ht, r⟩ => ⟨ps, h, ht, fun pos cv hc => let ⟨c, e1, e2⟩ := r pos cv hc; ⟨c, e1, e _ _ e2⟩⟩
/-- no tuple -/
def nT : HO → Bool
  | .tup _ => false
  | .ext _ => false
  | _ => true
theorem CellRp.someT {K : PySem.W.Frag} {G : Hp} {o : Option HO} : ∀ {c : Cell}, CellRp K G o c → ∃ u, o = some u ∧ nT u = true
  | .jar, ⟨_, _, _, h, _⟩ => ⟨_, h, rfl⟩
  | .lst _, ⟨_, h, _⟩ => ⟨_, h, rfl⟩
  | .dct _, ⟨_, h, _⟩ => ⟨_, h, rfl⟩
  | .ins _ _, ⟨_, _, h, _⟩ => ⟨_, h, rfl⟩
  | .dcT _, ⟨_, h, _⟩ => ⟨_, h, rfl⟩
  | .dcL _, ⟨_, _, h, _⟩ => ⟨_, h, rfl⟩
  | .tupx _, ⟨_, _, h, _⟩ => ⟨_, h, rfl⟩
  | .tbl _, ⟨_, h, _⟩ => ⟨_, h, rfl⟩
theorem CellRp.some {K : PySem.W.Frag} {G : Hp} {o : Option HO} {c : Cell} (h : CellRp K G o c) : ∃ u, o = some u := let ⟨u, e, _⟩ := h.someT; ⟨u, e⟩
abbrev Cs := List (Addr × Cell)
structure En where
  s : List (Option D)
  c : Cs := []
def inC (c : Cs) (a : Addr) : Bool := c.any fun p => p.1 == a
def tot (m : Addr → Bool) (c : Cs) : Addr → Bool := fun a => m a || inC c a
def hid (m : Addr → Bool) (H : Hp) : Hp := fun a => if m a = true then none else H a
theorem inC_of {c : Cs} {p : Addr × Cell} (h : p ∈ c) : inC c p.1 = true := List.any_eq_true.mpr ⟨p, h, by simp⟩
theorem of_inC {c : Cs} {a : Addr} (h : inC c a = true) : ∃ p ∈ c, p.1 = a := by
  obtain ⟨p, h1, h2⟩ := List.any_eq_true.mp h
  exact ⟨p, h1, by simpa using h2⟩
theorem hid_some {m : Addr → Bool} {H : Hp} {a : Addr} {o : HO} : hid m H a = some o ↔ m a = false ∧ H a = some o := by
  unfold hid
  cases e : m a <;> simp
theorem hid_sub (m : Addr → Bool) (H : Hp) : Sub (hid m H) H := fun a o h => (hid_some.mp h).2
theorem hid_mono {m m' : Addr → Bool} {H H' : Hp} (h : ∀ a o, m a = false → H a = some o → m' a = false ∧ H' a = some o) : Sub (hid m H) (hid m' H') := fun a o e => by
  obtain ⟨h1, h2⟩ := hid_some.mp e
  exact hid_some.mpr (h a o h1 h2)
theorem tot_false {m : Addr → Bool} {c : Cs} {a : Addr} : tot m c a = false ↔ m a = false ∧ inC c a = false := by
  unfold tot
  simp
def SlotRp (K : PySem.W.Frag) (G : Hp) (σ : L2.St) (s : List (Option D)) : Prop := σ.length = s.length ∧ ∀ (i : Nat) (d : D), s[i]? = some (some d) → ∃ v, σ[i]? = some (some v) ∧ Rp K G v d
theorem SlotRp.mono {K : PySem.W.Frag} {G G' : Hp} {σ : L2.St} {s : List (Option D)} (e : Sub G G') (h : SlotRp K G σ s) : SlotRp K G' σ s := ⟨h.1, fun i d q => let ⟨v, a, b⟩ := h.2 i d q; ⟨v, a, b.mono e⟩⟩
theorem SlotRp.set {K : PySem.W.Frag} {G : Hp} {σ : L2.St} {s : List (Option D)} {v : V} {d : D} (i : Nat) (h : SlotRp K G σ s) (r : Rp K G v d) : SlotRp K G (σ.set i (some v)) (s.set i (some d)) := by
  refine ⟨by simp [h.1], fun j e q => ?_⟩
  by_cases hj : i = j
  · subst hj
    have hlt : i < s.length := by
      have := (List.getElem?_eq_some_iff.mp q).1
      simpa using this
    rw [List.getElem?_set_self hlt] at q
    cases q
    exact ⟨v, by rw [List.getElem?_set_self (by rw [h.1]; exact hlt)], r⟩
  · rw [List.getElem?_set_ne hj] at q
    obtain ⟨w, h1, h2⟩ := h.2 j e q
    exact ⟨w, by rw [List.getElem?_set_ne hj]; exact h1, h2⟩
theorem SlotRp.unset {K : PySem.W.Frag} {G : Hp} {σ : L2.St} {s : List (Option D)} (i : Nat) (h : SlotRp K G σ s) : SlotRp K G (σ.set i none) (s.set i none) := by
  refine ⟨by simp [h.1], fun j e q => ?_⟩
  by_cases hj : i = j
  · subst hj
    by_cases hlt : i < s.length
    · rw [List.getElem?_set_self hlt] at q; cases q
    · rw [List.getElem?_eq_none (by simpa using hlt)] at q; cases q
  · rw [List.getElem?_set_ne hj] at q
    obtain ⟨w, h1, h2⟩ := h.2 j e q
    exact ⟨w, by rw [List.getElem?_set_ne hj]; exact h1, h2⟩
/-- an exception: its class, what it keeps -/
structure Xn where
  cls : Value
  fs : Option (List (Str × D))
/-- where one stands: what is masked (others' cells); the cells and the heap at the entry; what is wanted of an exception -/
structure Md where
  m : Addr → Bool
  c0 : Cs
  H0 : Hp
  E : Xn → En → Prop
/-- what is no cell stays, and becomes none -/
def Fw (c c' : Cs) (H H' : Hp) : Prop := ∀ a o, inC c a = false → H a = some o → H' a = some o ∧ inC c' a = false
theorem Fw.refl (c : Cs) (H : Hp) : Fw c c H H := fun _ _ h e => ⟨e, h⟩
theorem Fw.trans {c c1 c2 : Cs} {H H1 H2 : Hp} (a : Fw c c1 H H1) (b : Fw c1 c2 H1 H2) : Fw c c2 H H2 := fun x o h e =>
  let ⟨h1, h2⟩ := a x o h e
  b x o h2 h1
theorem Fw.sub {c c' : Cs} {H H' : Hp} {m : Addr → Bool} (a : Fw c c' H H') : Sub (hid (tot m c) H) (hid (tot m c') H') := hid_mono fun x o h e => by
  obtain ⟨h1, h2⟩ := tot_false.mp h
  obtain ⟨h3, h4⟩ := a x o h2 e
  exact ⟨tot_false.mpr ⟨h1, h4⟩, h3⟩
theorem Fw.of_sub {c : Cs} {H H' : Hp} (e : Sub H H') : Fw c c H H' := fun a o h q => ⟨e a o q, h⟩
/-- the cells as they stand; m: what is masked -/
structure COk (K : PySem.W.Frag) (m : Addr → Bool) (H : Hp) (c : Cs) : Prop where
  dom : ∀ a, m a = true → ∃ o, H a = some o ∧ nT o = true
  nd : (c.map (·.1)).Nodup
  off : ∀ p ∈ c, m p.1 = false
  cells : ∀ p ∈ c, CellRp K (hid (tot m c) H) (H p.1) p.2
theorem COk.more {K : PySem.W.Frag} {m : Addr → Bool} {H H' : Hp} {c : Cs} (R : COk K m H c) (e : Sub H H') : COk K m H' c := by
  have f : Sub (hid (tot m c) H) (hid (tot m c) H') := (Fw.of_sub (c := c) e).sub
  refine ⟨fun a h => ?_, R.nd, R.off, fun p hp => ?_⟩
  · obtain ⟨o, q, z⟩ := R.dom a h
    exact ⟨o, e a o q, z⟩
  · have h := R.cells p hp
    obtain ⟨u, hu⟩ := h.some
    have e' : H' p.1 = H p.1 := by rw [hu]; exact e _ _ hu
    rw [e']
    exact h.mono f
theorem COk.domT {K : PySem.W.Frag} {m : Addr → Bool} {H : Hp} {c : Cs} (R : COk K m H c) : ∀ a, tot m c a = true → ∃ o, H a = some o ∧ nT o = true := fun a h => by
  unfold tot at h
  rcases (Bool.or_eq_true _ _).mp h with h | h
  · exact R.dom a h
  · obtain ⟨p, hp, rfl⟩ := of_inC h
    exact (R.cells p hp).someT
/-- a def's slots and heap show an environment -/
structure Rel (K : PySem.W.Frag) (μ : Md) (H : Hp) (σ : L2.St) (Γ : En) : Prop where
  co : COk K μ.m H Γ.c
  slots : SlotRp K (hid (tot μ.m Γ.c) H) σ Γ.s
  fw : Fw μ.c0 Γ.c μ.H0 H
abbrev Vw (μ : Md) (Γ : En) (H : Hp) : Hp := hid (tot μ.m Γ.c) H
section
variable {K : PySem.W.Frag} {μ : Md} {H H' : Hp} {σ : L2.St} {Γ : En} {v : V} {d : D}
/-- new objects alone -/
theorem Rel.more (R : Rel K μ H σ Γ) (e : Sub H H') : Rel K μ H' σ Γ :=
  ⟨R.co.more e, R.slots.mono (Fw.of_sub (c := Γ.c) e).sub, R.fw.trans (Fw.of_sub e)⟩
theorem Rel.domT (R : Rel K μ H σ Γ) : ∀ a, tot μ.m Γ.c a = true → ∃ o, H a = some o ∧ nT o = true := R.co.domT
theorem Rel.set (R : Rel K μ H σ Γ) (i : Nat) (r : Rp K (Vw μ Γ H) v d) : Rel K μ H (σ.set i (some v)) { Γ with s := Γ.s.set i (some d) } :=
  ⟨R.co, R.slots.set i r, R.fw⟩
/-- a new address is not masked -/
theorem Rel.fresh (R : Rel K μ H σ Γ) {p : Addr} (h : H p = none) : tot μ.m Γ.c p = false := by
  cases e : tot μ.m Γ.c p with
  | false => rfl
  | true =>
    obtain ⟨o, q, _⟩ := R.domT p e
    rw [h] at q
    cases q
end
theorem sub_upd {H : Hp} {p : Addr} {o : HO} (h : H p = none) : Sub H (upd H p o) := fun a u e => by
  rw [upd_ne (ne_of_none e h)]
  exact e
theorem hid_upd {m : Addr → Bool} {H : Hp} {p : Addr} {o : HO} (h : m p = false) : hid m (upd H p o) p = some o := hid_some.mpr ⟨h, upd_same⟩
/-- all readings at once -/
def uE (X : Cx) (e : Expr) : TE := fun σ H Q => ∃ t, PE X e t ∧ t σ H Q
theorem pe_u {X : Cx} {e : Expr} : PE X e (uE X e) := ⟨fun pins s σ H Q I ⟨_, h, q⟩ => h.run pins s σ H Q I q⟩
def uW (X : Cx) (e : Expr) : TT := fun σ H Q => ∃ t, PW X e t ∧ t σ H Q
theorem pw_u {X : Cx} {e : Expr} : PW X e (uW X e) := ⟨fun wh pins s σ H Q I ⟨_, h, q⟩ => h.run wh pins s σ H Q I q⟩
def uA (X : Cx) (es : List Expr) : TA := fun σ H Q => ∃ t, PA X es t ∧ t σ H Q
theorem pa_u {X : Cx} {es : List Expr} : PA X es (uA X es) := ⟨fun pos pins s σ H Q I ⟨_, h, q⟩ => h.run pos pins s σ H Q I q⟩
def uK (X : Cx) (ks : List Keyword) : TA := fun σ H Q => ∃ t, PK X ks t ∧ t σ H Q
theorem pk_u {X : Cx} {ks : List Keyword} : PK X ks (uK X ks) := ⟨fun pos pins s σ H Q I ⟨_, h, q⟩ => h.run pos pins s σ H Q I q⟩
def uSs (X : Cx) (st : List Stmt) : TS := fun D σ H => ∃ t, PSs X st t ∧ t D σ H
theorem pss_u {X : Cx} {st : List Stmt} : PSs X st (uSs X st) := ⟨fun pins s σ H D I ⟨_, h, q⟩ => h.run pins s σ H D I q⟩
def uG (X : Cx) (tg : Expr) : TG := fun v σ H Q => ∃ t, PG X tg t ∧ t v σ H Q
theorem pg_u {X : Cx} {tg : Expr} : PG X tg (uG X tg) := ⟨fun pins s σ H v u Q I r ⟨_, h, q⟩ => h.run pins s σ H v u Q I r q⟩
def uO (X : Cx) (e : Option Expr) : TO := fun σ H Q => ∃ t, PO X e t ∧ t σ H Q
theorem po_u {X : Cx} {e : Option Expr} : PO X e (uO X e) := ⟨fun pins s σ H Q I ⟨_, h, q⟩ => h.run pins s σ H Q I q⟩
theorem PE.imp {X : Cx} {e : Expr} {t u : TE} (h : PE X e t) (i : ∀ σ H Q, u σ H Q → t σ H Q) : PE X e u := ⟨fun pins s σ H Q I q => h.run pins s σ H Q I (i _ _ _ q)⟩
theorem PT.imp {X : Cx} {e : Expr} {t u : TT} (h : PT X e t) (i : ∀ σ H Q, u σ H Q → t σ H Q) : PT X e u := ⟨fun pins s σ H Q I q => h.run pins s σ H Q I (i _ _ _ q)⟩
theorem PW.imp {X : Cx} {e : Expr} {t u : TT} (h : PW X e t) (i : ∀ σ H Q, u σ H Q → t σ H Q) : PW X e u := ⟨fun wh pins s σ H Q I q => h.run wh pins s σ H Q I (i _ _ _ q)⟩
theorem PA.imp {X : Cx} {e : List Expr} {t u : TA} (h : PA X e t) (i : ∀ σ H Q, u σ H Q → t σ H Q) : PA X e u := ⟨fun pos pins s σ H Q I q => h.run pos pins s σ H Q I (i _ _ _ q)⟩
theorem PK.imp {X : Cx} {e : List Keyword} {t u : TA} (h : PK X e t) (i : ∀ σ H Q, u σ H Q → t σ H Q) : PK X e u := ⟨fun pos pins s σ H Q I q => h.run pos pins s σ H Q I (i _ _ _ q)⟩
theorem PS.imp {X : Cx} {e : Stmt} {t u : TS} (h : PS X e t) (i : ∀ D σ H, u D σ H → t D σ H) : PS X e u := ⟨fun pins s σ H Q I q => h.run pins s σ H Q I (i _ _ _ q)⟩
theorem PSs.imp {X : Cx} {e : List Stmt} {t u : TS} (h : PSs X e t) (i : ∀ D σ H, u D σ H → t D σ H) : PSs X e u := ⟨fun pins s σ H Q I q => h.run pins s σ H Q I (i _ _ _ q)⟩
theorem PG.imp {X : Cx} {e : Expr} {t u : TG} (h : PG X e t) (i : ∀ v σ H Q, u v σ H Q → t v σ H Q) : PG X e u := ⟨fun pins s σ H v w Q I r q => h.run pins s σ H v w Q I r (i _ _ _ _ q)⟩
theorem PGs.imp {X : Cx} {e : List Expr} {t u : TGs} (h : PGs X e t) (i : ∀ v σ H Q, u v σ H Q → t v σ H Q) : PGs X e u := ⟨fun pins s σ H v w Q I r q => h.run pins s σ H v w Q I r (i _ _ _ _ q)⟩
theorem PI.imp {X : Cx} {tg e : Expr} {t u : TI} (h : PI X tg e t) (i : ∀ σ H Q, u σ H Q → t σ H Q) : PI X tg e u := ⟨fun pins s σ H Q I q => h.run pins s σ H Q I (i _ _ _ q)⟩
theorem PO.imp {X : Cx} {e : Option Expr} {t u : TO} (h : PO X e t) (i : ∀ σ H Q, u σ H Q → t σ H Q) : PO X e u := ⟨fun pins s σ H Q I q => h.run pins s σ H Q I (i _ _ _ q)⟩
abbrev QE := D → En → Prop
/-- an expression, by data -/
def tD (K : PySem.W.Frag) (μ : Md) (Γ : En) (Q : QE) : TE := fun σ H q => Rel K μ H σ Γ ∧ ∀ v H' d Γ', Γ'.s = Γ.s → Fw Γ.c Γ'.c H H' → Rel K μ H' σ Γ' → Rp K (Vw μ Γ' H') v d → Q d Γ' → q v H'
def tTD (K : PySem.W.Frag) (μ : Md) (Γ : En) (Q : Bool → En → Prop) : TT := fun σ H q => Rel K μ H σ Γ ∧ ∀ H' b Γ', Γ'.s = Γ.s → Fw Γ.c Γ'.c H H' → Rel K μ H' σ Γ' → Q b Γ' → q b H'
def tAD (K : PySem.W.Frag) (μ : Md) (Γ : En) (Q : List D → En → Prop) : TA := fun σ H q => Rel K μ H σ Γ ∧ ∀ vs H' ds Γ', Γ'.s = Γ.s → Fw Γ.c Γ'.c H H' → Rel K μ H' σ Γ' → RpA K (Vw μ Γ' H') vs ds → Q ds Γ' → q vs H'
def tOD (K : PySem.W.Frag) (μ : Md) (Γ : En) (Q : Option Int → En → Prop) : TO := fun σ H q => Rel K μ H σ Γ ∧ ∀ H' b Γ', Γ'.s = Γ.s → Fw Γ.c Γ'.c H H' → Rel K μ H' σ Γ' → Q b Γ' → q b H'
structure Po where
  nx : En → Prop
  rt : QE
  bk : En → Prop := fun _ => False
  ct : En → Prop := fun _ => False
def tSD (K : PySem.W.Frag) (μ : Md) (Γ : En) (P : Po) : TS := fun D σ H => Rel K μ H σ Γ ∧ (∀ σ' H' Γ', Fw Γ.c Γ'.c H H' → Rel K μ H' σ' Γ' → P.nx Γ' → D.nx σ' H') ∧
  (∀ v σ' H' d Γ', Fw Γ.c Γ'.c H H' → Rel K μ H' σ' Γ' → Rp K (Vw μ Γ' H') v d → P.rt d Γ' → D.rt v H') ∧
  (∀ σ' H' Γ', Fw Γ.c Γ'.c H H' → Rel K μ H' σ' Γ' → P.bk Γ' → D.bk σ' H') ∧ (∀ σ' H' Γ', Fw Γ.c Γ'.c H H' → Rel K μ H' σ' Γ' → P.ct Γ' → D.ct σ' H')
def XE (X : Cx) (μ : Md) (e : Expr) (Γ : En) (Q : QE) : Prop := PE X e (tD X.K μ Γ Q)
def XT (X : Cx) (μ : Md) (e : Expr) (Γ : En) (Q : Bool → En → Prop) : Prop := PT X e (tTD X.K μ Γ Q)
def XW (X : Cx) (μ : Md) (e : Expr) (Γ : En) (Q : Bool → En → Prop) : Prop := PW X e (tTD X.K μ Γ Q)
def XA (X : Cx) (μ : Md) (es : List Expr) (Γ : En) (Q : List D → En → Prop) : Prop := PA X es (tAD X.K μ Γ Q)
def XKw (X : Cx) (μ : Md) (es : List Keyword) (Γ : En) (Q : List D → En → Prop) : Prop := PK X es (tAD X.K μ Γ Q)
def XO (X : Cx) (μ : Md) (e : Option Expr) (Γ : En) (Q : Option Int → En → Prop) : Prop := PO X e (tOD X.K μ Γ Q)
def XS (X : Cx) (μ : Md) (st : Stmt) (Γ : En) (P : Po) : Prop := PS X st (tSD X.K μ Γ P)
def XB (X : Cx) (μ : Md) (st : List Stmt) (Γ : En) (P : Po) : Prop := PSs X st (tSD X.K μ Γ P)
section
variable {X : Cx} {μ : Md} {Γ : En} {Q : QE} {a b c e : Expr} {es : List Expr} {pos : Pos} {P : Po} {st : Stmt} {sts : List Stmt}
/-- weaken -/
theorem XE.imp {Q' : QE} (h : XE X μ e Γ Q) (i : ∀ d Γ', Q d Γ' → Q' d Γ') : XE X μ e Γ Q' := PE.imp h fun σ H q ⟨R, k⟩ => ⟨R, fun v H' d Γ' s f R' r z => k v H' d Γ' s f R' r (i _ _ z)⟩
theorem XT.imp {Q Q' : Bool → En → Prop} (h : XT X μ e Γ Q) (i : ∀ d Γ', Q d Γ' → Q' d Γ') : XT X μ e Γ Q' := PT.imp h fun σ H q ⟨R, k⟩ => ⟨R, fun H' d Γ' s f R' z => k H' d Γ' s f R' (i _ _ z)⟩
theorem xe_int {i : Int} {j} (h : Q (.int i) Γ) : XE X μ (.Constant (.int i) j pos) Γ Q := PE.imp pe_int fun σ H q ⟨R, k⟩ => k _ H _ Γ rfl (Fw.refl _ _) R (.int i) h
theorem xe_bl {i : Bool} {j} (h : Q (.bl i) Γ) : XE X μ (.Constant (.bool i) j pos) Γ Q := PE.imp pe_bl fun σ H q ⟨R, k⟩ => k _ H _ Γ rfl (Fw.refl _ _) R (.bl i) h
theorem xe_non {j} (h : Q .non Γ) : XE X μ (.Constant .none j pos) Γ Q := PE.imp pe_non fun σ H q ⟨R, k⟩ => k _ H _ Γ rfl (Fw.refl _ _) R .non h
theorem xe_str {i : Str} {j} (h : Q (.str i) Γ) : XE X μ (.Constant (.str i) j pos) Γ Q := PE.imp pe_str fun σ H q ⟨R, k⟩ => k _ H _ Γ rfl (Fw.refl _ _) R (.str i) h
theorem xe_var {i : Nat} {x : Str} {d : D} (hN : X.N[i]? = some x) (hv : Vis X.env.scope x) (hd : Γ.s[i]? = some (some d)) (h : Q d Γ) (h1 : (x == ("__debug__" : Str)) = false := by decide) (h2 : (x == ("__classdict__" : Str)) = false := by decide) : XE X μ (.Name x pos) Γ Q :=
  PE.imp (pe_var hN hv h1 h2) fun σ H q ⟨R, k⟩ => by
    obtain ⟨v, hv, r⟩ := R.slots.2 i d hd
    exact ⟨v, hv, k v H d Γ rfl (Fw.refl _ _) R r h⟩
/-- a module's constant -/
theorem xe_glob {x : Str} {u : Value} {d : D} {v : V} (hg : Gl X x) (hm : X.mg x = some u) (r : RelV v u) (rd : ∀ G, Rp X.K G v d) (h : Q d Γ) (h1 : (x == ("__debug__" : Str)) = false := by decide) : XE X μ (.Name x pos) Γ Q :=
  PE.imp (pe_glob hg hm r h1) fun σ H q ⟨R, k⟩ => k v H d Γ rfl (Fw.refl _ _) R (rd _) h
/-- an operation on data -/
def rP (K : PySem.W.Frag) (x y d : D) : R2 := fun a b H q => ∃ m : Addr → Bool, (∀ a, m a = true → ∃ o, H a = some o ∧ nT o = true) ∧ Rp K (hid m H) a x ∧ Rp K (hid m H) b y ∧ ∀ v H', Sub H H' → Rp K (hid m H') v d → q v H'
def OpD (X : Cx) (f : Value → Value → Sem Value) (x y d : D) : Prop := OpR X f (rP X.K x y d)
def UnD (X : Cx) (f : Value → Sem Value) (x d : D) : Prop := UnR X f fun a H q => ∃ m : Addr → Bool, (∀ a, m a = true → ∃ o, H a = some o ∧ nT o = true) ∧ Rp X.K (hid m H) a x ∧ ∀ v H', Sub H H' → Rp X.K (hid m H') v d → q v H'
def uR2 (X : Cx) (f : Value → Value → Sem Value) : R2 := fun a b H q => ∃ r, OpR X f r ∧ r a b H q
theorem or_u (f : Value → Value → Sem Value) : OpR X f (uR2 X f) := fun pins s σ H x y v u Q I rx ry ⟨_, h, q⟩ => h pins s σ H x y v u Q I rx ry q
theorem xe_op2 {f : Value → Value → Sem Value} {σ : L2.St} {H : Hp} {q : VK} {G : En} (ha : XE X μ a Γ fun x Γ1 => XE X μ b Γ1 fun y Γ2 => ∃ d, OpD X f x y d ∧ Q d Γ2) (h : tD X.K μ Γ Q σ H q) :
    tOp (uR2 X f) (tD X.K μ Γ fun x Γ1 => XE X μ b Γ1 fun y Γ2 => ∃ d, OpD X f x y d ∧ Q d Γ2) (uE X b) σ H q := by
  obtain ⟨R, k⟩ := h
  refine ⟨R, fun v H1 x Γ1 s1 f1 R1 r1 hb => ⟨_, hb, R1, fun w H2 y Γ2 s2 f2 R2 r2 ⟨d, ho, hq⟩ => ⟨_, ho, tot μ.m Γ2.c, R2.domT, r1.mono f2.sub, r2, fun z H3 e3 r3 => ?_⟩⟩⟩
  exact k z H3 d Γ2 (s2.trans s1) ((f1.trans f2).trans (Fw.of_sub e3)) (R2.more e3) r3 hq
theorem xe_op {op : Operator} (h : XE X μ a Γ fun x Γ1 => XE X μ b Γ1 fun y Γ2 => ∃ d, OpD X (binaryOp op) x y d ∧ Q d Γ2) : XE X μ (.BinOp a op b pos) Γ Q :=
  PE.imp (pe_op (or_u _) h pe_u) fun _ _ _ q => xe_op2 (G := Γ) h q
theorem xe_cmp {op : CmpOp} (hm : behindInMarks op b = false) (h : XE X μ a Γ fun x Γ1 => XE X μ b Γ1 fun y Γ2 => ∃ d, OpD X (compareOp op) x y d ∧ Q d Γ2) : XE X μ (.Compare a [op] [b] pos) Γ Q :=
  PE.imp (pe_cmpR (or_u _) h pe_u hm) fun _ _ _ q => xe_op2 (G := Γ) h q
theorem xt_cmp {op : CmpOp} {Q : Bool → En → Prop} (hm : behindInMarks op b = false) (h : XE X μ a Γ fun x Γ1 => XE X μ b Γ1 fun y Γ2 => ∃ c, OpD X (compareOp op) x y (.bl c) ∧ Q c Γ2) : XT X μ (.Compare a [op] [b] pos) Γ Q := by
  refine PT.imp (pt_cmpR (or_u _) h pe_u hm) fun σ H q ⟨R, k⟩ => ?_
  refine ⟨R, fun v H1 x Γ1 s1 f1 R1 r1 hb => ⟨_, hb, R1, fun w H2 y Γ2 s2 f2 R2 r2 ⟨d, ho, hq⟩ => ⟨_, ho, tot μ.m Γ2.c, R2.domT, r1.mono f2.sub, r2, fun z H3 e3 r3 => ?_⟩⟩⟩
  cases r3
  exact ⟨d, rfl, k H3 d Γ2 (s2.trans s1) ((f1.trans f2).trans (Fw.of_sub e3)) (R2.more e3) hq⟩
def uU (X : Cx) (f : Value → Sem Value) : V → Hp → VK → Prop := fun a H q => ∃ r, UnR X f r ∧ r a H q
theorem un_u (f : Value → Sem Value) : UnR X f (uU X f) := fun pins s σ H x v Q I rx ⟨_, h, q⟩ => h pins s σ H x v Q I rx q
theorem xe_un {op : UnaryOp} (h : XE X μ a Γ fun x Γ1 => ∃ d, UnD X (unaryOp op) x d ∧ Q d Γ1) : XE X μ (.UnaryOp op a pos) Γ Q :=
  PE.imp (pe_un (un_u _) h) fun σ H q ⟨R, k⟩ => ⟨R, fun v H1 x Γ1 s1 f1 R1 r1 ⟨d, ho, hq⟩ => ⟨_, ho, tot μ.m Γ1.c, R1.domT, r1, fun z H3 e3 r3 => k z H3 d Γ1 s1 (f1.trans (Fw.of_sub e3)) (R1.more e3) r3 hq⟩⟩
theorem xt_val {Q : Bool → En → Prop} (h : XE X μ e Γ fun x Γ1 => ∃ c, x = .bl c ∧ Q c Γ1) (he : ∀ whole, isTrue e X.env whole = (do let v ← whole; standAt e.pos; holding [v] (truthy v)) := by intro _; rfl) : XT X μ e Γ Q :=
  PT.imp (pt_val h he) fun σ H q ⟨R, k⟩ => ⟨R, fun v H1 x Γ1 s1 f1 R1 r1 ⟨c, hc, hq⟩ => by
    subst hc
    cases r1
    exact ⟨c, rfl, k H1 c Γ1 s1 f1 R1 hq⟩⟩
theorem xt_not {Q : Bool → En → Prop} (h : XT X μ a Γ fun x Γ1 => Q (!x) Γ1) : XT X μ (.UnaryOp .Not a pos) Γ Q :=
  PT.imp (pt_not h) fun σ H q ⟨R, k⟩ => ⟨R, fun H1 x Γ1 s1 f1 R1 hq => k H1 _ Γ1 s1 f1 R1 hq⟩
theorem xw_and1 {Q : Bool → En → Prop} (h : XT X μ a Γ Q) : XW X μ (.BoolOp .And [a] pos) Γ Q := pw_and1 h
theorem xw_or1 {Q : Bool → En → Prop} (h : XT X μ a Γ Q) : XW X μ (.BoolOp .Or [a] pos) Γ Q := pw_or1 h
theorem xw_and {Q : Bool → En → Prop} (h : XT X μ a Γ fun c Γ1 => if c = true then XW X μ (.BoolOp .And (b :: es) pos) Γ1 Q else Q false Γ1) : XW X μ (.BoolOp .And (a :: b :: es) pos) Γ Q :=
  PW.imp (pw_and h pw_u) fun σ H q ⟨R, k⟩ => ⟨R, fun H1 c Γ1 s1 f1 R1 hq => by
    cases c with
    | true =>
      rw [if_pos rfl] at hq
      show uW X _ σ H1 q
      exact ⟨_, hq, R1, fun H2 c2 Γ2 s2 f2 R2 hq => k H2 c2 Γ2 (s2.trans s1) (f1.trans f2) R2 hq⟩
    | false =>
      rw [if_neg Bool.false_ne_true] at hq
      exact k H1 false Γ1 s1 f1 R1 hq⟩
theorem xw_or {Q : Bool → En → Prop} (h : XT X μ a Γ fun c Γ1 => if c = true then Q true Γ1 else XW X μ (.BoolOp .Or (b :: es) pos) Γ1 Q) : XW X μ (.BoolOp .Or (a :: b :: es) pos) Γ Q :=
  PW.imp (pw_or h pw_u) fun σ H q ⟨R, k⟩ => ⟨R, fun H1 c Γ1 s1 f1 R1 hq => by
    cases c with
    | false =>
      rw [if_neg Bool.false_ne_true] at hq
      show uW X _ σ H1 q
      exact ⟨_, hq, R1, fun H2 c2 Γ2 s2 f2 R2 hq => k H2 c2 Γ2 (s2.trans s1) (f1.trans f2) R2 hq⟩
    | true =>
      rw [if_pos rfl] at hq
      exact k H1 true Γ1 s1 f1 R1 hq⟩
theorem xt_w {Q : Bool → En → Prop} (h : XW X μ e Γ Q) : XT X μ e Γ Q := PW.pt h
/-- and, or, not as values of bools -/
theorem xe_one {op} (h : XE X μ a Γ Q) : XE X μ (.BoolOp op [a] pos) Γ Q := pe_one h
theorem xe_and (h : XE X μ a Γ fun x Γ1 => ∃ c, x = .bl c ∧ if c = true then XE X μ (.BoolOp .And (b :: es) pos) Γ1 Q else Q (.bl false) Γ1) : XE X μ (.BoolOp .And (a :: b :: es) pos) Γ Q :=
  PE.imp (pe_and h pe_u) fun σ H q ⟨R, k⟩ => ⟨R, fun v H1 x Γ1 s1 f1 R1 r1 ⟨c, hc, hq⟩ => by
    subst hc
    cases r1
    refine ⟨c, rfl, ?_⟩
    cases c with
    | true =>
      rw [if_pos rfl] at hq
      show uE X _ σ H1 q
      exact ⟨_, hq, R1, fun v2 H2 c2 Γ2 s2 f2 R2 r2 hq => k v2 H2 c2 Γ2 (s2.trans s1) (f1.trans f2) R2 r2 hq⟩
    | false =>
      rw [if_neg Bool.false_ne_true] at hq
      exact k _ H1 _ Γ1 s1 f1 R1 (.bl false) hq⟩
theorem xe_or (h : XE X μ a Γ fun x Γ1 => ∃ c, x = .bl c ∧ if c = true then Q (.bl true) Γ1 else XE X μ (.BoolOp .Or (b :: es) pos) Γ1 Q) : XE X μ (.BoolOp .Or (a :: b :: es) pos) Γ Q :=
  PE.imp (pe_or h pe_u) fun σ H q ⟨R, k⟩ => ⟨R, fun v H1 x Γ1 s1 f1 R1 r1 ⟨c, hc, hq⟩ => by
    subst hc
    cases r1
    refine ⟨c, rfl, ?_⟩
    cases c with
    | false =>
      rw [if_neg Bool.false_ne_true] at hq
      show uE X _ σ H1 q
      exact ⟨_, hq, R1, fun v2 H2 c2 Γ2 s2 f2 R2 r2 hq => k v2 H2 c2 Γ2 (s2.trans s1) (f1.trans f2) R2 r2 hq⟩
    | true =>
      rw [if_pos rfl] at hq
      exact k _ H1 _ Γ1 s1 f1 R1 (.bl true) hq⟩
theorem xe_not (h : XE X μ a Γ fun x Γ1 => ∃ c, x = .bl c ∧ Q (.bl (!c)) Γ1) : XE X μ (.UnaryOp .Not a pos) Γ Q :=
  PE.imp (pe_not h) fun σ H q ⟨R, k⟩ => ⟨R, fun v H1 x Γ1 s1 f1 R1 r1 ⟨c, hc, hq⟩ => by
    subst hc
    cases r1
    exact ⟨c, rfl, k _ H1 _ Γ1 s1 f1 R1 (.bl _) hq⟩⟩
theorem xe_if (h : XT X μ c Γ fun x Γ1 => if x = true then XE X μ a Γ1 Q else XE X μ b Γ1 Q) : XE X μ (.IfExp c a b pos) Γ Q :=
  PE.imp (pe_ifExp h pe_u pe_u) fun σ H q ⟨R, k⟩ => ⟨R, fun H1 x Γ1 s1 f1 R1 hq => by
    cases x with
    | true =>
      rw [if_pos rfl] at hq
      exact ⟨_, hq, R1, fun v2 H2 c2 Γ2 s2 f2 R2 r2 hq => k v2 H2 c2 Γ2 (s2.trans s1) (f1.trans f2) R2 r2 hq⟩
    | false =>
      rw [if_neg Bool.false_ne_true] at hq
      exact ⟨_, hq, R1, fun v2 H2 c2 Γ2 s2 f2 R2 r2 hq => k v2 H2 c2 Γ2 (s2.trans s1) (f1.trans f2) R2 r2 hq⟩⟩
theorem xa_nil {Q : List D → En → Prop} (h : Q [] Γ) : XA X μ [] Γ Q := PA.imp pa_nil fun σ H q ⟨R, k⟩ => k [] H [] Γ rfl (Fw.refl _ _) R .nil h
theorem xa_cons {Q : List D → En → Prop} (h : XE X μ e Γ fun x Γ1 => XA X μ es Γ1 fun xs Γ2 => Q (x :: xs) Γ2) (hs : starEach (e :: es) X.env = (false, eval e X.env) :: starEach es X.env := by rfl) : XA X μ (e :: es) Γ Q :=
  PA.imp (pa_cons h pa_u hs) fun σ H q ⟨R, k⟩ => ⟨R, fun v H1 x Γ1 s1 f1 R1 r1 hq => ⟨_, hq, R1, fun vs H2 xs Γ2 s2 f2 R2 r2 hq => k (v :: vs) H2 (x :: xs) Γ2 (s2.trans s1) (f1.trans f2) R2 (.cons (r1.mono f2.sub) r2) hq⟩⟩
theorem xk_nil {Q : List D → En → Prop} (h : Q [] Γ) : XKw X μ [] Γ Q := PK.imp pk_nil fun σ H q ⟨R, k⟩ => k [] H [] Γ rfl (Fw.refl _ _) R .nil h
theorem xk_cons {Q : List D → En → Prop} {nm : Option Str} {kpos : Pos} {ks : List Keyword} (h : XE X μ e Γ fun x Γ1 => XKw X μ ks Γ1 fun xs Γ2 => Q (x :: xs) Γ2) : XKw X μ (⟨nm, e, kpos⟩ :: ks) Γ Q :=
  PK.imp (pk_cons h pk_u) fun σ H q ⟨R, k⟩ => ⟨R, fun v H1 x Γ1 s1 f1 R1 r1 hq => ⟨_, hq, R1, fun vs H2 xs Γ2 s2 f2 R2 r2 hq => k (v :: vs) H2 (x :: xs) Γ2 (s2.trans s1) (f1.trans f2) R2 (.cons (r1.mono f2.sub) r2) hq⟩⟩
theorem xe_tup {j} (h : XA X μ es Γ fun xs Γ1 => xs.length ≤ 100000 ∧ Q (.tup xs) Γ1) : XE X μ (.Tuple es j pos) Γ Q :=
  PE.imp (pe_tup h) fun σ H q ⟨R, k⟩ => ⟨R, fun vs H1 xs Γ1 s1 f1 R1 r1 ⟨hl, hq⟩ => ⟨by rw [r1.length]; exact Nat.le_trans hl (by decide), fun p hp => by
    have hf := R1.fresh hp
    have e := sub_upd (o := .tup vs) hp
    exact k _ _ _ Γ1 s1 (f1.trans (Fw.of_sub e)) (R1.more e) (.tup (.of (hid_upd hf)) (r1.mono (Fw.of_sub (c := Γ1.c) e).sub)) hq⟩⟩
theorem xe_lst (h : XA X μ es Γ fun xs Γ1 => xs.length ≤ 100000 ∧ Q (.lst xs) Γ1) : XE X μ (.List es pos) Γ Q :=
  PE.imp (pe_lst h) fun σ H q ⟨R, k⟩ => ⟨R, fun vs H1 xs Γ1 s1 f1 R1 r1 ⟨hl, hq⟩ => ⟨by rw [r1.length]; exact Nat.le_trans hl (by decide), fun p hp => by
    have hf := R1.fresh hp
    have e := sub_upd (o := .lst vs) hp
    exact k _ _ _ Γ1 s1 (f1.trans (Fw.of_sub e)) (R1.more e) (.lst (.of (hid_upd hf)) (r1.mono (Fw.of_sub (c := Γ1.c) e).sub)) hq⟩⟩
theorem xb_nil (h : P.nx Γ) : XB X μ [] Γ P := PSs.imp pss_nil fun D σ H ⟨R, k, _⟩ => k σ H Γ (Fw.refl _ _) R h
theorem xb_cons (h : XS X μ st Γ { P with nx := fun Γ1 => XB X μ sts Γ1 P }) : XB X μ (st :: sts) Γ P :=
  PSs.imp (pss_cons h pss_u) fun D σ H ⟨R, k1, k2, k3, k4⟩ => ⟨R, fun σ1 H1 Γ1 f1 R1 hq => ⟨_, hq, R1, fun σ2 H2 Γ2 f2 R2 z => k1 σ2 H2 Γ2 (f1.trans f2) R2 z, fun v σ2 H2 d Γ2 f2 R2 r z => k2 v σ2 H2 d Γ2 (f1.trans f2) R2 r z,
    fun σ2 H2 Γ2 f2 R2 z => k3 σ2 H2 Γ2 (f1.trans f2) R2 z, fun σ2 H2 Γ2 f2 R2 z => k4 σ2 H2 Γ2 (f1.trans f2) R2 z⟩, k2, k3, k4⟩
theorem xb_one (h : XS X μ st Γ P) : XB X μ [st] Γ P := pss_one h
theorem xs_pass (h : P.nx Γ) : XS X μ (.Pass pos) Γ P := PS.imp ps_pass fun D σ H ⟨R, k, _⟩ => k σ H Γ (Fw.refl _ _) R h
theorem xs_expr (h : XE X μ e Γ fun _ Γ1 => P.nx Γ1) (hs : swapsWith e none pos.line X.env = pure false := by rfl) : XS X μ (.Expr e pos) Γ P :=
  PS.imp (ps_expr h hs) fun D σ H ⟨R, k, _⟩ => ⟨R, fun v H1 x Γ1 s1 f1 R1 r1 hq => k σ H1 Γ1 f1 R1 hq⟩
theorem xs_ret (h : XE X μ e Γ P.rt) : XS X μ (.Return (some e) pos) Γ P :=
  PS.imp (ps_ret h) fun D σ H ⟨R, _, k, _⟩ => ⟨R, fun v H1 x Γ1 s1 f1 R1 r1 hq => k v σ H1 x Γ1 f1 R1 r1 hq⟩
theorem xs_if {t u : List Stmt} (h : XT X μ c Γ fun x Γ1 => if x = true then XB X μ t Γ1 P else XB X μ u Γ1 P) : XS X μ (.If c t u pos) Γ P :=
  PS.imp (ps_if h pss_u pss_u) fun D σ H ⟨R, k1, k2, k3, k4⟩ => ⟨R, fun H1 x Γ1 s1 f1 R1 hq => by
    cases x with
    | true =>
      rw [if_pos rfl] at hq
      exact ⟨_, hq, R1, fun σ2 H2 Γ2 f2 R2 z => k1 σ2 H2 Γ2 (f1.trans f2) R2 z, fun v σ2 H2 d Γ2 f2 R2 r z => k2 v σ2 H2 d Γ2 (f1.trans f2) R2 r z, fun σ2 H2 Γ2 f2 R2 z => k3 σ2 H2 Γ2 (f1.trans f2) R2 z, fun σ2 H2 Γ2 f2 R2 z => k4 σ2 H2 Γ2 (f1.trans f2) R2 z⟩
    | false =>
      rw [if_neg Bool.false_ne_true] at hq
      exact ⟨_, hq, R1, fun σ2 H2 Γ2 f2 R2 z => k1 σ2 H2 Γ2 (f1.trans f2) R2 z, fun v σ2 H2 d Γ2 f2 R2 r z => k2 v σ2 H2 d Γ2 (f1.trans f2) R2 r z, fun σ2 H2 Γ2 f2 R2 z => k3 σ2 H2 Γ2 (f1.trans f2) R2 z, fun σ2 H2 Γ2 f2 R2 z => k4 σ2 H2 Γ2 (f1.trans f2) R2 z⟩⟩
/-- x = e -/
theorem xs_set {i : Nat} {x : Str} {pos' : Pos} (hN : X.N.Nodup) (hi : X.N[i]? = some x) (hx : Loc X.env.scope x) (h : XE X μ e Γ fun d Γ1 => P.nx { Γ1 with s := Γ1.s.set i (some d) }) (hs : swapsWith e (some (.Name x pos')) pos.line X.env = pure false := by rfl)
    (hf : X.fn x = true ∨ X.env.scope.names.lookup x = some .local := by first | exact .inl rfl | exact .inr rfl | assumption) : XS X μ (.Assign [.Name x pos'] e pos) Γ P :=
  PS.imp (ps_set (i := i) hN hi hx h hs hf) fun D σ H ⟨R, k, _⟩ => ⟨R, fun v H1 d Γ1 s1 f1 R1 r1 hq => k _ H1 { Γ1 with s := Γ1.s.set i (some d) } f1 (R1.set i r1) hq⟩
end
end Pdl
namespace Pdl
open PySem L2 PyProof.Rows
/-- an exception shows what it keeps -/
def ExRp (K : PySem.W.Frag) (G : Hp) (cls : Value) (dx : Option Addr) (x : Xn) : Prop :=
  x.cls = cls ∧ match dx, x.fs with
    | none, none => True
    | some a, some fs => ∃ vs, G a = some (.xd vs) ∧ RpF K G vs fs
    | _, _ => False
/-- the arguments, the cells, what is wanted of the result and of an exception -/
abbrev SpD := List D → Cs → (D → Cs → Prop) → (Xn → Cs → Prop) → Prop
def spD (K : PySem.W.Frag) (S : SpD) : Sp := fun vs H Q E => ∃ (m : Addr → Bool) (ds : List D) (c : Cs), COk K m H c ∧ RpA K (hid (tot m c) H) vs ds ∧
  S ds c (fun d c' => ∀ v H', Fw c c' H H' → COk K m H' c' → Rp K (hid (tot m c') H') v d → Q v H') (fun x c' => ∀ cls dx H', Fw c c' H H' → COk K m H' c' → ExRp K (hid (tot m c') H') cls dx x → E cls dx H')
def startD (N : List Str) (ds : List D) : List (Option D) := ds.map some ++ List.replicate (N.length - ds.length) none
theorem slots_start {K : PySem.W.Frag} {G : Hp} {N : List Str} {vs : List V} {ds : List D} (r : RpA K G vs ds) : SlotRp K G (L2.start N vs) (startD N ds) := by
  have hl := r.length
  refine ⟨by simp [L2.start, startD, hl], fun i d h => ?_⟩
  unfold startD at h
  have hi : i < ds.length := by
    by_cases hi : i < ds.length
    · exact hi
    · rw [List.getElem?_append_right (by simpa using hi)] at h
      rw [List.getElem?_replicate] at h
      split at h <;> cases h
  rw [List.getElem?_append_left (by simpa using hi), List.getElem?_map] at h
  obtain ⟨d', e, e2⟩ := Option.map_eq_some_iff.mp h
  cases e2
  obtain ⟨v, hv, rv⟩ := r.got e
  refine ⟨v, ?_, rv⟩
  unfold L2.start
  rw [List.getElem?_append_left (by rw [List.length_map, hl]; exact hi), List.getElem?_map, hv]
  all_goals rfl
/-- the mode at a def's entry -/
abbrev mdOf (m : Addr → Bool) (c : Cs) (H : Hp) (E : Xn → Cs → Prop) : Md := { m := m, c0 := c, H0 := H, E := fun x Γ => E x Γ.c }
abbrev poOf (Q : D → Cs → Prop) : Po := { nx := fun Γ => Q .non Γ.c, rt := fun d Γ => Q d Γ.c }
section
variable {P : Program} {w : World} {K : PySem.W.Frag} {mg : Str → Option Value} {base : Heap}
theorem body_D {X : Cx} {S : SpD} {N : List Str} {vs : List V} {H : Hp} {Q : VK} {E : XK} {body : List Stmt} (hK : X.K = K)
    (hb : ∀ m ds c Q E, ds.length = vs.length → S ds c Q E → XB X (mdOf m c H E) body ⟨startD N ds, c⟩ (poOf Q)) (h : spD K S vs H Q E) :
    ∃ t, PSs X body t ∧ t { nx := fun _ H' => Q .non H', rt := Q } (L2.start N vs) H := by
  subst hK
  obtain ⟨m, ds, c, co, r, hs⟩ := h
  refine ⟨_, hb m ds c _ _ r.length.symm hs, ⟨co, slots_start r, Fw.refl _ _⟩, fun σ' H' Γ' f R q => q _ H' f R.co .non, fun v σ' H' d Γ' f R rd q => q v H' f R.co rd, fun _ _ _ _ _ q => q.elim, fun _ _ _ _ _ q => q.elim⟩
/-- the body's context -/
abbrev bX (P : Program) (w : World) (K : PySem.W.Frag) (mg : Str → Option Value) (base : Heap) (N : List Str) (qual : Str) (st : Stmt) (f : Addr) (cdv : Value) (A : Around) (outer : List Env) (s : Shared) (H : Hp) (E : XK) : Cx :=
  (cxOf CX0 P w K mg base N qual (defScope st) f cdv A outer s H E).nox
/-- THE RULE for a def that lets no exception out -/
theorem fn_D {x qual : Str} {st : Stmt} {f : Addr} {fd : FuncData} {N ps : List Str} {k : Nat} {S : SpD} (F : Fun K x qual st f fd) (sc : FnScope N ps (defScope st)) (len : ∀ ds c Q E, S ds c Q E → ds.length = ps.length)
    (hbody : ∀ (cdv : Value) (A : Around) (outer : List Env) (s : Shared) (H : Hp) (E0 : XK), Room k (bX P w K mg base N qual st f cdv A outer s H E0).A →
      ∀ m ds c Q E, S ds c Q E → XB (bX P w K mg base N qual st f cdv A outer s H E0) (mdOf m c H E) (defBody st) ⟨startD N ds, c⟩ (poOf Q)) : FnOk P w K mg base CX0 (k + 1) f fd ps (spD K S) := by
  refine F.ok sc (fun vs H Q E h => ?_) (fun cdv A outer s H vs Q E hr h => ?_)
  · obtain ⟨m, ds, c, _, r, hs⟩ := h
    rw [r.length]
    exact len _ _ _ _ hs
  · exact body_D (X := bX P w K mg base N qual st f cdv A outer s H E) rfl (fun m ds c Q' E' _ hs => hbody cdv A outer s H E hr m ds c Q' E' hs) h
end
theorem inC_app {c d : Cs} {a : Addr} : inC (c ++ d) a = (inC c a || inC d a) := by simp [inC, List.any_append]
theorem tot_app (m : Addr → Bool) (c d : Cs) : tot (tot m d) c = tot m (c ++ d) := by
  funext a
  simp only [tot, inC_app]
  cases m a <;> cases inC c a <;> cases inC d a <;> rfl
/-- the callee's part -/
theorem COk.part {K : PySem.W.Frag} {m : Addr → Bool} {H : Hp} {c1 c2 : Cs} (R : COk K m H (c1 ++ c2)) : COk K (tot m c2) H c1 := by
  have nd := R.nd
  rw [List.map_append, List.nodup_append] at nd
  refine ⟨fun a h => R.domT a ?_, nd.1, fun p hp => ?_, fun p hp => ?_⟩
  · unfold tot at h ⊢
    rw [inC_app]
    cases e : m a
    · rw [e] at h
      simp only [Bool.false_or] at h
      simp [h]
    · rfl
  · refine tot_false.mpr ⟨R.off p (List.mem_append_left _ hp), ?_⟩
    cases e : inC c2 p.1 with
    | false => rfl
    | true =>
      obtain ⟨q, hq, eq⟩ := of_inC e
      exact absurd eq.symm (nd.2.2 p.1 (List.mem_map_of_mem hp) q.1 (List.mem_map_of_mem hq))
  · rw [tot_app]
    exact R.cells p (List.mem_append_left _ hp)
/-- .. and put back -/
theorem COk.back {K : PySem.W.Frag} {m : Addr → Bool} {H H' : Hp} {c1 c2 c' : Cs} (R : COk K m H (c1 ++ c2)) (f : Fw c1 c' H H') (co : COk K (tot m c2) H' c') : COk K m H' (c' ++ c2) ∧ Fw (c1 ++ c2) (c' ++ c2) H H' := by
  have nd := R.nd
  rw [List.map_append, List.nodup_append] at nd
  have off2 : ∀ p ∈ c2, inC c1 p.1 = false := fun p hp => by
    cases e : inC c1 p.1 with
    | false => rfl
    | true =>
      obtain ⟨q, hq, eq⟩ := of_inC e
      exact absurd eq (nd.2.2 q.1 (List.mem_map_of_mem hq) p.1 (List.mem_map_of_mem hp))
  have sb : Sub (hid (tot m (c1 ++ c2)) H) (hid (tot m (c' ++ c2)) H') := by
    rw [← tot_app, ← tot_app]
    exact f.sub
  refine ⟨⟨fun a h => co.dom a (by unfold tot; rw [h]; rfl), ?_, fun p hp => ?_, fun p hp => ?_⟩, fun a o h e => ?_⟩
  · rw [List.map_append, List.nodup_append]
    refine ⟨co.nd, nd.2.1, fun a ha b hb e => ?_⟩
    obtain ⟨p, hp, rfl⟩ := List.mem_map.mp ha
    obtain ⟨q, hq, rfl⟩ := List.mem_map.mp hb
    have z := (tot_false.mp (co.off p hp)).2
    rw [e, inC_of hq] at z
    cases z
  · rcases List.mem_append.mp hp with hp | hp
    · exact (tot_false.mp (co.off p hp)).1
    · exact R.off p (List.mem_append_right _ hp)
  · rcases List.mem_append.mp hp with hp | hp
    · rw [← tot_app]
      exact co.cells p hp
    · have h := R.cells p (List.mem_append_right _ hp)
      obtain ⟨u, hu⟩ := h.some
      have e' : H' p.1 = H p.1 := by rw [hu]; exact (f _ _ (off2 p hp) hu).1
      rw [e']
      exact h.mono sb
  · rw [inC_app, Bool.or_eq_false_iff] at h
    obtain ⟨h1, h2⟩ := f a o h.1 e
    exact ⟨h1, by rw [inC_app, h2, h.2]; rfl⟩
section
variable {X : Cx} {μ : Md} {Γ : En} {S : SpD} {Q : QE}
/-- what a caller shows for a callee's promise: the callee's cells stand in front -/
def Asks (μ : Md) (S : SpD) (Q : QE) (ds : List D) (Γ : En) : Prop := ∃ c1 c2, Γ.c = c1 ++ c2 ∧ ∀ (Qc : D → Cs → Prop) (Ec : Xn → Cs → Prop), (∀ d c', Q d ⟨Γ.s, c' ++ c2⟩ → Qc d c') → (∀ x c', μ.E x ⟨Γ.s, c' ++ c2⟩ → Ec x c') → S ds c1 Qc Ec
/-- the exceptions that the mode wants -/
def wD (K : PySem.W.Frag) (μ : Md) (σ : L2.St) : XK := fun cls dx H => ∃ x Γ, Rel K μ H σ Γ ∧ ExRp K (Vw μ Γ H) cls dx x ∧ μ.E x Γ
theorem asks_sp {vs : List V} {ds : List D} {H : Hp} {σ : L2.St} {q : VK} (R : Rel X.K μ H σ Γ) (r : RpA X.K (Vw μ Γ H) vs ds) (hs : Asks μ S Q ds Γ)
    (k : ∀ v H' d Γ', Γ'.s = Γ.s → Fw Γ.c Γ'.c H H' → Rel X.K μ H' σ Γ' → Rp X.K (Vw μ Γ' H') v d → Q d Γ' → q v H') : spD X.K S vs H q (wD X.K μ σ) := by
  obtain ⟨c1, c2, ec, hs⟩ := hs
  obtain ⟨sl, c⟩ := Γ
  have ec : c = c1 ++ c2 := ec
  subst ec
  have back : ∀ {c' : Cs} {H' : Hp}, Fw c1 c' H H' → COk X.K (tot μ.m c2) H' c' → Fw (c1 ++ c2) (c' ++ c2) H H' ∧ Rel X.K μ H' σ ⟨sl, c' ++ c2⟩ := fun {c' H'} f co => by
    obtain ⟨h1, h2⟩ := R.co.back f co
    exact ⟨h2, h1, R.slots.mono h2.sub, R.fw.trans h2⟩
  refine ⟨tot μ.m c2, ds, c1, R.co.part, by rw [tot_app]; exact r, hs _ _ (fun d c' hq v H' f co rv => ?_) (fun x c' hx cls dx H' f co rx => ?_)⟩
  · obtain ⟨f2, R2⟩ := back f co
    exact k v H' d ⟨sl, c' ++ c2⟩ rfl f2 R2 (by rw [tot_app] at rv; exact rv) hq
  · obtain ⟨f2, R2⟩ := back f co
    exact ⟨x, ⟨sl, c' ++ c2⟩, R2, (by rw [tot_app] at rx; exact rx), hx⟩
end
section
variable {X : Cx} {μ : Md} {Γ : En} {S : SpD} {Q : QE} {k : Nat} {f C : Addr} {fd : FuncData} {ps : List Str} {x : Str} {p pos apos : Pos} {e o : Expr} {es : List Expr}
/-- a def that lets no exception out: what is wanted of one does not matter -/
theorem pass0' {E : XK} : Passes CX0 X E := fun _ _ _ _ _ _ _ h => h.elim
end
end Pdl
namespace Pdl
open PySem L2 PyProof.Rows
def S (l : List Nat) : Str := ⟨l.toArray⟩
theorem S_cps (l : List Nat) : (S l).cps.toList = l := rfl
theorem S_len (l : List Nat) : (S l).length = l.length := by
  show l.toArray.size = l.length
  simp
theorem S_inj {a b : List Nat} (h : S a = S b) : a = b := by
  have := congrArg (fun x : Str => x.cps.toList) h
  exact this
theorem S_eq {a b : List Nat} : S a = S b ↔ a = b := ⟨S_inj, fun h => by rw [h]⟩
section
variable {X : Cx} {μ : Md} {Γ : En} {Q : QE} {a b c e : Expr} {es : List Expr} {pos apos cpos : Pos} {x y d : D} {m : Addr → Bool} {H : Hp}
theorem OpD.of {f : Value → Value → Sem Value} {r : R2} (h : OpR X f r) (i : ∀ a b H q m, (∀ a, m a = true → ∃ o, H a = some o ∧ nT o = true) → Rp X.K (hid m H) a x → Rp X.K (hid m H) b y → (∀ v H', Sub H H' → Rp X.K (hid m H') v d → q v H') → r a b H q) : OpD X f x y d :=
  fun pins s σ H a b v u Q I ra rb ⟨m, hm, h1, h2, k⟩ => h pins s σ H a b v u Q I ra rb (i a b H Q m hm h1 h2 k)
theorem fresh_m {p : Addr} (hm : ∀ a, m a = true → ∃ o, H a = some o ∧ nT o = true) (h : H p = none) : m p = false := by
  cases e : m p with
  | false => rfl
  | true =>
    obtain ⟨o, q, _⟩ := hm p e
    rw [h] at q
    cases q
theorem sub_hid {H' : Hp} (e : Sub H H') : Sub (hid m H) (hid m H') := hid_mono fun a o h q => ⟨h, e a o q⟩
theorem od_add {i j : Int} : OpD X (binaryOp .Add) (.int i) (.int j) (.int (i + j)) := .of op_add fun a b H q m _ h1 h2 k => by
  cases h1; cases h2; exact ⟨i, j, rfl, rfl, k _ H (Sub.refl H) (.int _)⟩
theorem od_sub {i j : Int} : OpD X (binaryOp .Sub) (.int i) (.int j) (.int (i - j)) := .of op_sub fun a b H q m _ h1 h2 k => by
  cases h1; cases h2; exact ⟨i, j, rfl, rfl, k _ H (Sub.refl H) (.int _)⟩
theorem od_mul {i j : Int} (hc : CMul i j) : OpD X (binaryOp .Mult) (.int i) (.int j) (.int (i * j)) := .of op_mul fun a b H q m _ h1 h2 k => by
  cases h1; cases h2; exact ⟨i, j, rfl, rfl, hc, k _ H (Sub.refl H) (.int _)⟩
theorem od_fdiv {i j : Int} (hc : CDiv i j) : OpD X (binaryOp .FloorDiv) (.int i) (.int j) (.int (i / j)) := .of op_fdiv fun a b H q m _ h1 h2 k => by
  cases h1; cases h2; exact ⟨i, j, rfl, rfl, hc, k _ H (Sub.refl H) (.int _)⟩
theorem od_mod {i j : Int} (hc : 0 < j) : OpD X (binaryOp .Mod) (.int i) (.int j) (.int (i % j)) := .of op_mod fun a b H q m _ h1 h2 k => by
  cases h1; cases h2; exact ⟨i, j, rfl, rfl, hc, k _ H (Sub.refl H) (.int _)⟩
theorem od_pow {i j : Int} (hc : CPow i j) : OpD X (binaryOp .Pow) (.int i) (.int j) (.int (i ^ j.toNat)) := .of op_pow fun a b H q m _ h1 h2 k => by
  cases h1; cases h2; exact ⟨i, j, rfl, rfl, hc, k _ H (Sub.refl H) (.int _)⟩
theorem od_lt {i j : Int} : OpD X (compareOp .Lt) (.int i) (.int j) (.bl (decide (i < j))) := .of op_lt fun a b H q m _ h1 h2 k => by
  cases h1; cases h2; exact ⟨i, j, rfl, rfl, k _ H (Sub.refl H) (.bl _)⟩
theorem od_le {i j : Int} : OpD X (compareOp .LtE) (.int i) (.int j) (.bl (decide (i ≤ j))) := .of op_le fun a b H q m _ h1 h2 k => by
  cases h1; cases h2; exact ⟨i, j, rfl, rfl, k _ H (Sub.refl H) (.bl _)⟩
theorem od_gt {i j : Int} : OpD X (compareOp .Gt) (.int i) (.int j) (.bl (decide (j < i))) := .of op_gt fun a b H q m _ h1 h2 k => by
  cases h1; cases h2; exact ⟨i, j, rfl, rfl, k _ H (Sub.refl H) (.bl _)⟩
theorem od_ge {i j : Int} : OpD X (compareOp .GtE) (.int i) (.int j) (.bl (decide (j ≤ i))) := .of op_ge fun a b H q m _ h1 h2 k => by
  cases h1; cases h2; exact ⟨i, j, rfl, rfl, k _ H (Sub.refl H) (.bl _)⟩
theorem od_eqI {i j : Int} : OpD X (compareOp .Eq) (.int i) (.int j) (.bl (decide (i = j))) := .of op_eq fun a b H q m _ h1 h2 k => by
  cases h1; cases h2; exact ⟨rfl, by rw [show decide (V.int i = V.int j) = decide (i = j) by simp]; exact k _ H (Sub.refl H) (.bl _)⟩
theorem od_neI {i j : Int} : OpD X (compareOp .NotEq) (.int i) (.int j) (.bl (!decide (i = j))) := .of op_ne fun a b H q m _ h1 h2 k => by
  cases h1; cases h2; exact ⟨rfl, by rw [show decide (V.int i = V.int j) = decide (i = j) by simp]; exact k _ H (Sub.refl H) (.bl _)⟩
theorem od_eqB {i j : Bool} : OpD X (compareOp .Eq) (.bl i) (.bl j) (.bl (decide (i = j))) := .of op_eq fun a b H q m _ h1 h2 k => by
  cases h1; cases h2; exact ⟨rfl, by rw [show decide (V.bl i = V.bl j) = decide (i = j) by simp]; exact k _ H (Sub.refl H) (.bl _)⟩
theorem od_neB {i j : Bool} : OpD X (compareOp .NotEq) (.bl i) (.bl j) (.bl (!decide (i = j))) := .of op_ne fun a b H q m _ h1 h2 k => by
  cases h1; cases h2; exact ⟨rfl, by rw [show decide (V.bl i = V.bl j) = decide (i = j) by simp]; exact k _ H (Sub.refl H) (.bl _)⟩
theorem od_eqS {i j : List Nat} : OpD X (compareOp .Eq) (.str (S i)) (.str (S j)) (.bl (decide (i = j))) := .of op_eq fun a b H q m _ h1 h2 k => by
  cases h1; cases h2; exact ⟨rfl, by rw [show decide (V.str (S i) = V.str (S j)) = decide (i = j) by simp [S_eq]]; exact k _ H (Sub.refl H) (.bl _)⟩
theorem od_neS {i j : List Nat} : OpD X (compareOp .NotEq) (.str (S i)) (.str (S j)) (.bl (!decide (i = j))) := .of op_ne fun a b H q m _ h1 h2 k => by
  cases h1; cases h2; exact ⟨rfl, by rw [show decide (V.str (S i) = V.str (S j)) = decide (i = j) by simp [S_eq]]; exact k _ H (Sub.refl H) (.bl _)⟩
theorem od_ltS {i j : List Nat} : OpD X (compareOp .Lt) (.str (S i)) (.str (S j)) (.bl (decide (i < j))) := .of op_lt_str fun a b H q m _ h1 h2 k => by
  cases h1; cases h2; exact ⟨_, _, rfl, rfl, k _ H (Sub.refl H) (.bl _)⟩
theorem od_leS {i j : List Nat} : OpD X (compareOp .LtE) (.str (S i)) (.str (S j)) (.bl (!decide (j < i))) := .of op_le_str fun a b H q m _ h1 h2 k => by
  cases h1; cases h2; exact ⟨_, _, rfl, rfl, k _ H (Sub.refl H) (.bl _)⟩
theorem od_gtS {i j : List Nat} : OpD X (compareOp .Gt) (.str (S i)) (.str (S j)) (.bl (decide (j < i))) := .of op_gt_str fun a b H q m _ h1 h2 k => by
  cases h1; cases h2; exact ⟨_, _, rfl, rfl, k _ H (Sub.refl H) (.bl _)⟩
/-- one sign in a text -/
theorem od_inS {c : Nat} {j : List Nat} : OpD X (compareOp .In) (.str (S [c])) (.str (S j)) (.bl (decide (c ∈ j))) := .of op_in_sign fun a b H q m _ h1 h2 k => by
  cases h1; cases h2; exact ⟨c, _, rfl, rfl, k _ H (Sub.refl H) (.bl _)⟩
theorem od_notinS {c : Nat} {j : List Nat} : OpD X (compareOp .NotIn) (.str (S [c])) (.str (S j)) (.bl (!decide (c ∈ j))) := .of op_notIn_sign fun a b H q m _ h1 h2 k => by
  cases h1; cases h2; exact ⟨c, _, rfl, rfl, k _ H (Sub.refl H) (.bl _)⟩
def isNon : D → Bool
  | .non => true
  | _ => false
theorem Rp.non_iff {K : PySem.W.Frag} {G : Hp} {v : V} {x : D} (r : Rp K G v x) : decide (v = .non) = isNon x := by
  cases r <;> simp [isNon]
theorem od_isN : OpD X (compareOp .Is) x .non (.bl (isNon x)) := .of op_isN fun a b H q m _ h1 h2 k => by
  cases h2; exact ⟨rfl, by rw [h1.non_iff]; exact k _ H (Sub.refl H) (.bl _)⟩
theorem od_notN : OpD X (compareOp .IsNot) x .non (.bl (!isNon x)) := .of op_notN fun a b H q m _ h1 h2 k => by
  cases h2; exact ⟨rfl, by rw [h1.non_iff]; exact k _ H (Sub.refl H) (.bl _)⟩
mutual
def toPy : D → PyData
  | .bl b => .bool b
  | .int i => .int i
  | .str x => .str x
  | .lst xs => .list (toPyL xs)
  | .tup xs => .tuple (toPyL xs)
  | .tupx xs => .tuple (toPyL xs)
  | _ => .none
def toPyL : List D → List PyData
  | [] => []
  | x :: xs => toPy x :: toPyL xs
end
mutual
def isPy : D → Bool
  | .non => true
  | .bl b => true
  | .int i => true
  | .str x => true
  | .lst xs => isPyL xs
  | .tup xs => isPyL xs
  | .tupx xs => isPyL xs
  | _ => false
def isPyL : List D → Bool
  | [] => true
  | x :: xs => isPy x && isPyL xs
end
mutual
theorem Rp.dp {K : PySem.W.Frag} {G : Hp} : ∀ {v : V} {d : D}, Rp K G v d → isPy d = true → Dp K G v (toPy d)
  | _, _, .non, _ => .non
  | _, _, .bl b, _ => .bl b
  | _, _, .int b, _ => .int b
  | _, _, .str b, _ => .str b
  | _, _, .lst h r, e => .lst h (RpA.dp r (by rw [isPy] at e; exact e))
  | _, _, .tup h r, e => .tup h.sq (RpA.dp r (by rw [isPy] at e; exact e))
  | _, _, .tupx h r, e => .tup h (RpA.dp r (by rw [isPy] at e; exact e))
  | _, _, .ty _, e => by simp [isPy] at e
  | _, _, .ref _, e => by simp [isPy] at e
  | _, _, .dct _ _, e => by simp [isPy] at e
  | _, _, .ins _ _, e => by simp [isPy] at e
  | _, _, .set _, e => by simp [isPy] at e
  | _, _, .dcT _ _, e => by simp [isPy] at e
  | _, _, .dcL _ _, e => by simp [isPy] at e
theorem RpA.dp {K : PySem.W.Frag} {G : Hp} : ∀ {v : List V} {d : List D}, RpA K G v d → isPyL d = true → DpAll K G v (toPyL d)
  | _, _, .nil, _ => .nil
  | _, _, .cons h r, e => .cons (Rp.dp h (Bool.and_eq_true_iff.mp e).1) (RpA.dp r (Bool.and_eq_true_iff.mp e).2)
end
theorem od_neD (hu : X.A.units + 64 < cLine) (hx : isPy x = true) (hy : isPy y = true) (sx : SeqAt.shaped (toPy x) = true) (sy : SeqAt.shaped (toPy y) = true) : OpD X (compareOp .NotEq) x y (.bl (!PyData.eqv (toPy x) (toPy y))) :=
  .of (op_neD hu) fun a b H q m hm h1 h2 k => ⟨_, _, (h1.mono (hid_sub m H)).dp hx, (h2.mono (hid_sub m H)).dp hy, sx, sy, k _ H (Sub.refl H) (.bl _)⟩
def IxD (X : Cx) (x y d : D) : Prop := IxR X (rP X.K x y d)
def uIx (X : Cx) : R2 := fun a b H q => ∃ r, IxR X r ∧ r a b H q
theorem ix_u : IxR X (uIx X) := fun value slice pins s σ H x y v u Q I rx ry ⟨_, h, q⟩ hs => h value slice pins s σ H x y v u Q I rx ry q hs
theorem xe_ix (h : XE X μ a Γ fun x Γ1 => XE X μ b Γ1 fun y Γ2 => ∃ d, IxD X x y d ∧ Q d Γ2) (hs : PlainIx b := by exact fun _ _ => rfl) : XE X μ (.Subscript a b pos) Γ Q :=
  PE.imp (pe_ix ix_u h pe_u hs) fun σ H q ⟨R, k⟩ => by
    refine ⟨R, fun v H1 x Γ1 s1 f1 R1 r1 hb => ⟨_, hb, R1, fun w H2 y Γ2 s2 f2 R2 r2 ⟨d, ho, hq⟩ => ⟨_, ho, tot μ.m Γ2.c, R2.domT, r1.mono f2.sub, r2, fun z H3 e3 r3 => ?_⟩⟩⟩
    exact k z H3 d Γ2 (s2.trans s1) ((f1.trans f2).trans (Fw.of_sub e3)) (R2.more e3) r3 hq
theorem atI_rp {K : PySem.W.Frag} {G : Hp} {vs : List V} {ds : List D} {i : Int} {d : D} (r : RpA K G vs ds) (h : atI ds i = some d) : ∃ v, atI vs i = some v ∧ Rp K G v d := by
  unfold atI at h ⊢
  rw [r.length]
  cases e : ixN ds.length i with
  | none => rw [e] at h; cases h
  | some j =>
    rw [e] at h
    obtain ⟨v, h1, h2⟩ := r.got (show ds[j]? = some d from h)
    exact ⟨v, h1, h2⟩
theorem ixd_lst {xs : List D} {i : Int} (h : atI xs i = some d) : IxD X (.lst xs) (.int i) d := fun value slice pins s σ H x y v u Q I rx ry ⟨m, hm, h1, h2, k⟩ hs => by
  cases h1 with
  | lst s1 r1 =>
    cases h2
    obtain ⟨z, hz, rz⟩ := atI_rp r1 h
    exact ix_list value slice pins s σ H _ _ v u Q I rx ry ⟨_, _, _, z, rfl, rfl, (hid_sub m H).sqL s1, hz, k z H (Sub.refl H) rz⟩ hs
theorem ixd_tup {xs : List D} {i : Int} (h : atI xs i = some d) : IxD X (.tup xs) (.int i) d := fun value slice pins s σ H x y v u Q I rx ry ⟨m, hm, h1, h2, k⟩ hs => by
  cases h1 with
  | tup s1 r1 =>
    cases h2
    obtain ⟨z, hz, rz⟩ := atI_rp r1 h
    exact ix_tup value slice pins s σ H _ _ v u Q I rx ry ⟨_, _, _, z, rfl, rfl, (hid_sub m H).sqT s1.sq, hz, k z H (Sub.refl H) rz⟩ hs
theorem ixd_str {l : List Nat} {i : Int} {c : Nat} (hl : l.length ≤ 100000) (h : atI l i = some c) : IxD X (.str (S l)) (.int i) (.str (S [c])) := fun value slice pins s σ H x y v u Q I rx ry ⟨m, hm, h1, h2, k⟩ hs => by
  cases h1; cases h2
  exact ix_str value slice pins s σ H _ _ v u Q I rx ry ⟨_, _, c, rfl, rfl, by rw [S_len]; exact Nat.le_trans hl (by decide), h, k _ H (Sub.refl H) (.str _)⟩ hs
def rCD (K : PySem.W.Frag) (ds : List D) (d : D) : List V → Hp → VK → Prop := fun vs H q => ∃ m : Addr → Bool, (∀ a, m a = true → ∃ o, H a = some o ∧ nT o = true) ∧ RpA K (hid m H) vs ds ∧ ∀ v H', Sub H H' → Rp K (hid m H') v d → q v H'
def CallD (X : Cx) (f : Value) (ds : List D) (d : D) : Prop := CallR X f (rCD X.K ds d)
def uC (X : Cx) (f : Value) : List V → Hp → VK → Prop := fun vs H q => ∃ r, CallR X f r ∧ r vs H q
theorem cr_u (f : Value) : CallR X f (uC X f) := fun pins s σ H xs us Q I rv ⟨_, h, q⟩ => h pins s σ H xs us Q I rv q
theorem CallD.of {f : Value} {ds : List D} {r : List V → Hp → VK → Prop} (h : CallR X f r) (i : ∀ vs H q m, (∀ a, m a = true → ∃ o, H a = some o ∧ nT o = true) → RpA X.K (hid m H) vs ds → (∀ v H', Sub H H' → Rp X.K (hid m H') v d → q v H') → r vs H q) : CallD X f ds d :=
  fun pins s σ H vs us Q I rv ⟨m, hm, h1, k⟩ => h pins s σ H vs us Q I rv (i vs H Q m hm h1 k)
theorem xe_callB {x : Str} {id : String} {p : Pos} (hg : Gl X x) (hm : X.mg x = none) (hv : bootBuiltins x = some (.builtin id)) (h : XA X μ (e :: es) Γ fun ds Γ1 => ∃ d, CallD X (.builtin id) ds d ∧ Q d Γ1) (hn : x ≠ "__name__" := by decide) (hdb : (x == ("__debug__" : Str)) = false := by decide)
    (he : starEach (e :: es) X.env = (false, eval e X.env) :: starEach es X.env := by rfl) (hpl : (backTo pos (starEach es X.env)).any (·.1) = false := by rfl) : XE X μ (.Call (.Name x p) (e :: es) [] pos) Γ Q :=
  PE.imp (pe_callB (cr_u _) hg hm hv h hn hdb he hpl) fun σ H q ⟨R, k⟩ => ⟨R, fun vs H1 ds Γ1 s1 f1 R1 r1 ⟨d, ho, hq⟩ => ⟨_, ho, tot μ.m Γ1.c, R1.domT, r1, fun z H3 e3 r3 => k z H3 d Γ1 s1 (f1.trans (Fw.of_sub e3)) (R1.more e3) r3 hq⟩⟩
theorem xe_callTy {x : Str} {T : String} {p : Pos} (hg : Gl X x) (hm : X.mg x = none) (hv : bootBuiltins x = some (.type T)) (h : XA X μ (e :: es) Γ fun ds Γ1 => ∃ d, CallD X (.type T) ds d ∧ Q d Γ1) (hn : x ≠ "__name__" := by decide) (hdb : (x == ("__debug__" : Str)) = false := by decide)
    (he : starEach (e :: es) X.env = (false, eval e X.env) :: starEach es X.env := by rfl) (hpl : (backTo pos (starEach es X.env)).any (·.1) = false := by rfl) : XE X μ (.Call (.Name x p) (e :: es) [] pos) Γ Q :=
  PE.imp (pe_callTy (cr_u _) hg hm hv h hn hdb he hpl) fun σ H q ⟨R, k⟩ => ⟨R, fun vs H1 ds Γ1 s1 f1 R1 r1 ⟨d, ho, hq⟩ => ⟨_, ho, tot μ.m Γ1.c, R1.domT, r1, fun z H3 e3 r3 => k z H3 d Γ1 s1 (f1.trans (Fw.of_sub e3)) (R1.more e3) r3 hq⟩⟩
/-- one argument -/
theorem RpA.one {K : PySem.W.Frag} {G : Hp} {vs : List V} {d : D} (r : RpA K G vs [d]) : ∃ v, vs = [v] ∧ Rp K G v d := by
  cases r with
  | cons h t =>
    cases t
    exact ⟨_, rfl, h⟩
theorem RpA.two {K : PySem.W.Frag} {G : Hp} {vs : List V} {d e : D} (r : RpA K G vs [d, e]) : ∃ v u, vs = [v, u] ∧ Rp K G v d ∧ Rp K G u e := by
  cases r with
  | cons h t =>
    obtain ⟨u, rfl, h2⟩ := t.one
    exact ⟨_, _, rfl, h, h2⟩
theorem cd_len_str {l : List Nat} (hl : l.length ≤ 100000) : CallD X (.builtin "len") [.str (S l)] (.int l.length) := .of call_len_str fun vs H q m hm h1 k => by
  obtain ⟨v, rfl, r⟩ := h1.one
  cases r
  exact ⟨_, rfl, by rw [S_len]; exact Nat.le_trans hl (by decide), by rw [S_len]; exact k _ H (Sub.refl H) (.int _)⟩
theorem cd_len_lst {xs : List D} : CallD X (.builtin "len") [.lst xs] (.int xs.length) := .of call_len_seq fun vs H q m hm h1 k => by
  obtain ⟨v, rfl, r⟩ := h1.one
  cases r with
  | lst s1 r1 => exact ⟨_, _, rfl, .inl ((hid_sub m H).sqL s1), by rw [r1.length]; exact k _ H (Sub.refl H) (.int _)⟩
theorem cd_len_tup {xs : List D} : CallD X (.builtin "len") [.tup xs] (.int xs.length) := .of call_len_seq fun vs H q m hm h1 k => by
  obtain ⟨v, rfl, r⟩ := h1.one
  cases r with
  | tup s1 r1 => exact ⟨_, _, rfl, .inr ((hid_sub m H).sqT s1.sq), by rw [r1.length]; exact k _ H (Sub.refl H) (.int _)⟩
theorem cd_abs {i : Int} : CallD X (.builtin "abs") [.int i] (.int (if i < 0 then -i else i)) := .of call_abs fun vs H q m hm h1 k => by
  obtain ⟨v, rfl, r⟩ := h1.one
  cases r
  exact ⟨_, rfl, k _ H (Sub.refl H) (.int _)⟩
theorem cd_int {i : Int} : CallD X (.type "int") [.int i] (.int i) := .of call_int1 fun vs H q m hm h1 k => by
  obtain ⟨v, rfl, r⟩ := h1.one
  cases r
  exact .inl ⟨_, rfl, k _ H (Sub.refl H) (.int _)⟩
theorem cd_intB {i : Bool} : CallD X (.type "int") [.bl i] (.int (if i then 1 else 0)) := .of call_int1 fun vs H q m hm h1 k => by
  obtain ⟨v, rfl, r⟩ := h1.one
  cases r
  exact .inr ⟨_, rfl, k _ H (Sub.refl H) (.int _)⟩
theorem cd_max2 (hc : X.calm = true) {i j : Int} : CallD X (.builtin "max") [.int i, .int j] (.int (if j > i then j else i)) := .of (call_max2 hc) fun vs H q m hm h1 k => by
  obtain ⟨v, u, rfl, r, r'⟩ := h1.two
  cases r; cases r'
  exact ⟨_, _, rfl, k _ H (Sub.refl H) (.int _)⟩
theorem cd_min2 (hc : X.calm = true) {i j : Int} : CallD X (.builtin "min") [.int i, .int j] (.int (if j < i then j else i)) := .of (call_min2 hc) fun vs H q m hm h1 k => by
  obtain ⟨v, u, rfl, r, r'⟩ := h1.two
  cases r; cases r'
  exact ⟨_, _, rfl, k _ H (Sub.refl H) (.int _)⟩
/-- list(x), tuple(x) -/
theorem cd_list_lst {xs : List D} : CallD X (.type "list") [.lst xs] (.lst xs) := .of call_list_of fun vs H q m hm h1 k => by
  obtain ⟨v, rfl, r⟩ := h1.one
  cases r with
  | lst s1 r1 => exact ⟨_, _, rfl, .inl ((hid_sub m H).sqL s1), fun l hl => k _ _ (sub_upd hl) (.lst (.of (hid_upd (fresh_m hm hl))) (r1.mono (sub_hid (sub_upd hl))))⟩
theorem cd_list_tup {xs : List D} : CallD X (.type "list") [.tup xs] (.lst xs) := .of call_list_of fun vs H q m hm h1 k => by
  obtain ⟨v, rfl, r⟩ := h1.one
  cases r with
  | tup s1 r1 => exact ⟨_, _, rfl, .inr ((hid_sub m H).sqT s1.sq), fun l hl => k _ _ (sub_upd hl) (.lst (.of (hid_upd (fresh_m hm hl))) (r1.mono (sub_hid (sub_upd hl))))⟩
theorem cd_tuple_lst {xs : List D} : CallD X (.type "tuple") [.lst xs] (.tup xs) := .of call_tuple_of fun vs H q m hm h1 k => by
  obtain ⟨v, rfl, r⟩ := h1.one
  cases r with
  | lst s1 r1 => exact ⟨_, _, rfl, .inl ⟨(hid_sub m H).sqL s1, fun l hl => k _ _ (sub_upd hl) (.tup (.of (hid_upd (fresh_m hm hl))) (r1.mono (sub_hid (sub_upd hl))))⟩⟩
theorem cd_tuple_tup {xs : List D} : CallD X (.type "tuple") [.tup xs] (.tup xs) := .of call_tuple_of fun vs H q m hm h1 k => by
  obtain ⟨v, rfl, r⟩ := h1.one
  cases r with
  | tup s1 r1 => exact ⟨_, _, rfl, .inr ⟨(hid_sub m H).sqT s1.sq, k _ H (Sub.refl H) (.tup s1 r1)⟩⟩
theorem RpA.of_bls {K : PySem.W.Frag} {G : Hp} : ∀ {zs : List Bool} {vs : List V}, RpA K G vs (zs.map D.bl) → vs = zs.map V.bl
  | [], _, .nil => rfl
  | _ :: _, _, .cons h t => by
    cases h
    rw [RpA.of_bls t]
    all_goals rfl
theorem cd_any (hc : X.calm = true) {bs : List Bool} : CallD X (.builtin "any") [.lst (bs.map D.bl)] (.bl (bs.any id)) := .of (cr_any hc) fun vs H q m hm h1 k => by
  obtain ⟨v, rfl, r⟩ := h1.one
  cases r with
  | lst s1 r1 =>
    rw [r1.of_bls] at s1
    exact ⟨_, _, rfl, (hid_sub m H).sqL s1, k _ H (Sub.refl H) (.bl _)⟩
theorem cd_all (hc : X.calm = true) {bs : List Bool} : CallD X (.builtin "all") [.lst (bs.map D.bl)] (.bl (bs.all id)) := .of (cr_all hc) fun vs H q m hm h1 k => by
  obtain ⟨v, rfl, r⟩ := h1.one
  cases r with
  | lst s1 r1 =>
    rw [r1.of_bls] at s1
    exact ⟨_, _, rfl, (hid_sub m H).sqL s1, k _ H (Sub.refl H) (.bl _)⟩
end
end Pdl
namespace Pdl
open PySem L2 PyProof.Rows
section
variable {X : Cx} {μ : Md} {Γ : En} {Q : QE} {a b c e o : Expr} {es : List Expr} {pos apos cpos : Pos} {x y d : D} {m : Addr → Bool} {H : Hp} {P : Po}
def rMD (K : PySem.W.Frag) (x : D) (ds : List D) (d : D) : V → List V → Hp → VK → Prop := fun v vs H q => ∃ m : Addr → Bool, (∀ a, m a = true → ∃ o, H a = some o ∧ nT o = true) ∧ Rp K (hid m H) v x ∧ RpA K (hid m H) vs ds ∧ ∀ v H', Sub H H' → Rp K (hid m H') v d → q v H'
def MtD (X : Cx) (id : String) (x : D) (ds : List D) (d : D) : Prop := MtR X id (rMD X.K x ds d)
def uM (X : Cx) (id : String) : V → List V → Hp → VK → Prop := fun v vs H q => ∃ r, MtR X id r ∧ r v vs H q
theorem mt_u (id : String) : MtR X id (uM X id) := fun pins s σ H x xs v us Q I rx rv ⟨_, h, q⟩ => h pins s σ H x xs v us Q I rx rv q
theorem MtD.of {id : String} {ds : List D} {r : V → List V → Hp → VK → Prop} (h : MtR X id r) (i : ∀ v vs H q m, (∀ a, m a = true → ∃ o, H a = some o ∧ nT o = true) → Rp X.K (hid m H) v x → RpA X.K (hid m H) vs ds → (∀ v H', Sub H H' → Rp X.K (hid m H') v d → q v H') → r v vs H q) : MtD X id x ds d :=
  fun pins s σ H v vs u us Q I rx rv ⟨m, hm, h1, h2, k⟩ => h pins s σ H v vs u us Q I rx rv (i v vs H Q m hm h1 h2 k)
/-- a text's method with arguments -/
theorem xe_ms {name : Str} {id : String} (slot : Slot "str" name id) (hty : typeOf (.builtin id) = pure (.type "method_descriptor")) (h : XE X μ o Γ fun x Γ1 => ∃ z, x = .str z ∧ XA X μ (e :: es) Γ1 fun ds Γ2 => ∃ d, MtD X id (.str z) ds d ∧ Q d Γ2)
    (hbase : attributeBase o name X.env (eval o X.env) = eval o X.env := by rfl)
    (hfew : ((backTo cpos (starEach (e :: es) X.env)).all (fun x => !x.1) && (backToKw cpos (keywordEach [] X.env)).all (fun x => x.1.isSome) && decide ((e :: es).length + ([] : List Keyword).length + (if ([] : List Keyword).isEmpty then 0 else 1) < 30)) = true := by rfl)
    (hline : (apos.endLine == cpos.line) = true := by rfl) (hs : starEach (e :: es) X.env = (false, eval e X.env) :: starEach es X.env := by rfl) (hplain : (backTo cpos (starEach es X.env)).any (·.1) = false := by rfl) :
    XE X μ (.Call (.Attribute o name apos) (e :: es) [] cpos) Γ Q :=
  PE.imp (pe_bm PySem.F.plainAttrs_str slot hty (mt_u id) h pa_u hbase hfew hline hs hplain) fun σ H q ⟨R, k⟩ => ⟨R, fun v H1 x Γ1 s1 f1 R1 r1 ⟨z, hz, hq⟩ => by
    subst hz
    cases r1
    exact ⟨rfl, _, hq, R1, fun vs H2 ds Γ2 s2 f2 R2 r2 ⟨d, ho, hq⟩ => ⟨_, ho, tot μ.m Γ2.c, R2.domT, .str z, r2, fun w H3 e3 r3 => k w H3 d Γ2 (s2.trans s1) ((f1.trans f2).trans (Fw.of_sub e3)) (R2.more e3) r3 hq⟩⟩⟩
/-- sep.join(texts) -/
def SL (ls : List (List Nat)) : List D := ls.map fun l => .str (S l)
theorem SL_strs (ls : List (List Nat)) : SL ls = (ls.map S).map D.str := by simp [SL]
theorem cell_get {K : PySem.W.Frag} {m : Addr → Bool} {H : Hp} {c1 c2 : Cs} {p : Addr} {cl : Cell} (co : COk K m H (c1 ++ (p, cl) :: c2)) : CellRp K (hid (tot m (c1 ++ (p, cl) :: c2)) H) (H p) cl := co.cells (p, cl) (List.mem_append_right _ List.mem_cons_self)
theorem inC_swap {c1 c2 : Cs} {p : Addr} {cl cl' : Cell} {a : Addr} : inC (c1 ++ (p, cl) :: c2) a = inC (c1 ++ (p, cl') :: c2) a := by
  simp [inC]
theorem tot_swap {m : Addr → Bool} {c1 c2 : Cs} {p : Addr} {cl cl' : Cell} : tot m (c1 ++ (p, cl) :: c2) = tot m (c1 ++ (p, cl') :: c2) := by
  funext a
  unfold tot
  rw [inC_swap (cl' := cl')]
/-- a cell is changed -/
theorem Rel.put {K : PySem.W.Frag} {σ : L2.St} {s : List (Option D)} {c1 c2 : Cs} {p : Addr} {cl cl' : Cell} {o : HO} (R : Rel K μ H σ ⟨s, c1 ++ (p, cl) :: c2⟩)
    (h : CellRp K (hid (tot μ.m (c1 ++ (p, cl) :: c2)) H) (some o) cl') : Rel K μ (upd H p o) σ ⟨s, c1 ++ (p, cl') :: c2⟩ ∧ Fw (c1 ++ (p, cl) :: c2) (c1 ++ (p, cl') :: c2) H (upd H p o) := by
  have hp : inC (c1 ++ (p, cl) :: c2) p = true := inC_of (p := (p, cl)) (List.mem_append_right _ List.mem_cons_self)
  have f : Fw (c1 ++ (p, cl) :: c2) (c1 ++ (p, cl') :: c2) H (upd H p o) := fun a u h e => by
    have hne : a ≠ p := fun z => by rw [z, hp] at h; cases h
    exact ⟨by rw [upd_ne hne]; exact e, by rw [inC_swap (cl' := cl)]; exact h⟩
  have nd := R.co.nd
  have km : (c1 ++ (p, cl') :: c2).map (·.1) = (c1 ++ (p, cl) :: c2).map (·.1) := by simp
  refine ⟨⟨⟨fun a hma => ?_, by show ((c1 ++ (p, cl') :: c2).map (·.1)).Nodup; rw [km]; exact nd, fun q hq => ?_, fun q hq => ?_⟩, R.slots.mono f.sub, R.fw.trans f⟩, f⟩
  · by_cases e : a = p
    · subst e
      have z : μ.m a = false := R.co.off (a, cl) (List.mem_append_right _ List.mem_cons_self)
      rw [z] at hma
      cases hma
    · obtain ⟨u, hu, z⟩ := R.co.dom a hma
      exact ⟨u, by rw [upd_ne e]; exact hu, z⟩
  · have : q.1 ∈ (c1 ++ (p, cl) :: c2).map (·.1) := by rw [← km]; exact List.mem_map_of_mem hq
    obtain ⟨r, hr, er⟩ := List.mem_map.mp this
    rw [← er]
    exact R.co.off r hr
  · rcases List.mem_append.mp hq with h1 | h1
    · have z := R.co.cells q (List.mem_append_left _ h1)
      have hne : q.1 ≠ p := fun e => by
        rw [List.map_append, List.nodup_append] at nd
        exact nd.2.2 q.1 (List.mem_map_of_mem h1) p (by simp) e
      show CellRp K _ (upd H p o q.1) q.2
      rw [upd_ne hne]
      exact z.mono f.sub
    · rcases List.mem_cons.mp h1 with h1 | h1
      · subst h1
        show CellRp K _ (upd H p o p) cl'
        rw [upd_same]
        exact h.mono f.sub
      · have z := R.co.cells q (List.mem_append_right _ (List.mem_cons_of_mem _ h1))
        have hne : q.1 ≠ p := fun e => by
          rw [List.map_append, List.map_cons, List.nodup_append, List.nodup_cons] at nd
          refine nd.2.1.1 ?_
          show p ∈ c2.map (·.1)
          rw [← e]
          exact List.mem_map_of_mem h1
        show CellRp K _ (upd H p o q.1) q.2
        rw [upd_ne hne]
        exact z.mono f.sub
/-- a new object becomes a cell, the last one -/
theorem Rel.newC {K : PySem.W.Frag} {σ : L2.St} {s : List (Option D)} {cs : Cs} {p : Addr} {cl : Cell} {o : HO} (R : Rel K μ H σ ⟨s, cs⟩) (hp : H p = none)
    (h : CellRp K (hid (tot μ.m cs) H) (some o) cl) : Rel K μ (upd H p o) σ ⟨s, cs ++ [(p, cl)]⟩ ∧ Fw cs (cs ++ [(p, cl)]) H (upd H p o) := by
  have fr := R.fresh hp
  have f : Fw cs (cs ++ [(p, cl)]) H (upd H p o) := fun a u h e => by
    have hne := ne_of_none e hp
    refine ⟨by rw [upd_ne hne]; exact e, ?_⟩
    rw [inC_app, h]
    simp [inC, Ne.symm hne]
  obtain ⟨fm, fc⟩ := tot_false.mp fr
  refine ⟨⟨⟨fun a h => ?_, ?_, fun q hq => ?_, fun q hq => ?_⟩, R.slots.mono f.sub, R.fw.trans f⟩, f⟩
  · obtain ⟨u, hu, z⟩ := R.co.dom a h
    exact ⟨u, sub_upd hp _ _ hu, z⟩
  · show ((cs ++ [(p, cl)]).map (·.1)).Nodup
    rw [List.map_append, List.nodup_append]
    refine ⟨R.co.nd, by simp, fun a ha b hb e => ?_⟩
    have hb : b = p := by simpa using hb
    subst hb; subst e
    obtain ⟨q, hq, rfl⟩ := List.mem_map.mp ha
    rw [inC_of hq] at fc
    cases fc
  · rcases List.mem_append.mp hq with h1 | h1
    · exact R.co.off q h1
    · have e : q = (p, cl) := by simpa using h1
      subst e
      exact fm
  · rcases List.mem_append.mp hq with h1 | h1
    · have z := R.co.cells q h1
      obtain ⟨u, hu⟩ := z.some
      show CellRp K _ (upd H p o q.1) q.2
      rw [upd_ne (ne_of_none hu hp)]
      exact z.mono f.sub
    · have e : q = (p, cl) := by simpa using h1
      subst e
      show CellRp K _ (upd H p o p) cl
      rw [upd_same]
      exact h.mono f.sub
/-- x.append(e), x a cell -/
theorem xe_append {i : Nat} {xn : Str} {p : Addr} {np : Pos} (hN : X.N[i]? = some xn) (hv : Vis X.env.scope xn) (hx : Γ.s[i]? = some (some (.ref p)))
    (h : XE X μ e Γ fun d Γ1 => ∃ c1 xs c2, Γ1.c = c1 ++ (p, .lst xs) :: c2 ∧ xs.length < 100000 ∧ Q .non ⟨Γ1.s, c1 ++ (p, .lst (xs ++ [d])) :: c2⟩)
    (hc : ∃ c1 xs c2, Γ.c = c1 ++ (p, .lst xs) :: c2)
    (h1 : (xn == ("__debug__" : Str)) = false := by decide) (h2 : (xn == ("__classdict__" : Str)) = false := by decide)
    (hbase : attributeBase (.Name xn np) "append" X.env (eval (.Name xn np) X.env) = eval (.Name xn np) X.env := by rfl)
    (hfew : ((backTo cpos (starEach [e] X.env)).all (fun x => !x.1) && (backToKw cpos (keywordEach [] X.env)).all (fun x => x.1.isSome) && decide ([e].length + ([] : List Keyword).length + (if ([] : List Keyword).isEmpty then 0 else 1) < 30)) = true := by rfl)
    (hline : (apos.endLine == cpos.line) = true := by rfl) (hs : starEach [e] X.env = (false, eval e X.env) :: starEach [] X.env := by rfl) :
    XE X μ (.Call (.Attribute (.Name xn np) "append" apos) [e] [] cpos) Γ Q := by
  have hv' : XE X μ (.Name xn np) Γ fun x Γ1 => x = .ref p ∧ Γ1 = Γ := xe_var hN hv hx ⟨rfl, rfl⟩ h1 h2
  refine PE.imp (pe_bm PySem.F.plainAttrs_list PySem.F.slot_list_append PySem.F.type_list_append mt_append hv' (pa_cons h pa_nil hs) hbase hfew hline hs) fun σ H q ⟨R, k⟩ => ?_
  refine ⟨R, fun v H1 x Γ1 s1 f1 R1 r1 ⟨hx, hG⟩ => ?_⟩
  subst hx; subst hG
  cases r1
  obtain ⟨c1, xs, c2, ec⟩ := hc
  obtain ⟨sl, cc⟩ := Γ1
  have ec : cc = c1 ++ (p, .lst xs) :: c2 := ec
  subst ec
  obtain ⟨vs, hvs, _⟩ := cell_get R1.co
  refine ⟨.inl ⟨rfl, vs, .of hvs⟩, R1, fun w H2 d Γ2 s2 f2 R2 r2 ⟨c1', xs', c2', ec', hl, hq⟩ => ?_⟩
  obtain ⟨sl2, cc2⟩ := Γ2
  have ec' : cc2 = c1' ++ (p, .lst xs') :: c2' := ec'
  subst ec'
  obtain ⟨us, hus, ru⟩ := cell_get R2.co
  obtain ⟨R3, f3⟩ := R2.put (cl' := .lst (xs' ++ [d])) (o := .lst (us ++ [w])) ⟨_, rfl, ru.app (.cons r2 .nil)⟩
  exact ⟨p, us, w, rfl, rfl, hus, by rw [ru.length]; exact Nat.lt_of_lt_of_le hl (by decide), k _ _ .non ⟨sl2, c1' ++ (p, .lst (xs' ++ [d])) :: c2'⟩ (s2.trans s1) ((f1.trans f2).trans f3) R3 .non hq⟩
end
end Pdl
namespace Pdl
open PySem L2 PyProof.Rows
def Wk (K : PySem.W.Frag) (G : Hp) (J : It) (ds : List D) : Prop := ∀ (i : Nat) (H : Hp) (M : Addr → Bool), Sub G (hid M H) → (∀ a, M a = true → ∃ o, H a = some o ∧ nT o = true) →
  (∀ d, ds[i]? = some d → J.go i H ∧ ∀ x H', J.yld i H x H' → Sub H H' ∧ Rp K (hid M H') x d) ∧ (ds.length ≤ i → J.stop i H)
def tID (K : PySem.W.Frag) (μ : Md) (Γ : En) (Q : List D → En → Prop) : TI := fun σ H R => Rel K μ H σ Γ ∧ ∀ J H' ds Γ', Γ'.s = Γ.s → Fw Γ.c Γ'.c H H' → Rel K μ H' σ Γ' → Wk K (Vw μ Γ' H') J ds → Q ds Γ' → R J H'
def XI (X : Cx) (μ : Md) (tg it : Expr) (Γ : En) (Q : List D → En → Prop) : Prop := PI X tg it (tID X.K μ Γ Q)
def tGD (K : PySem.W.Frag) (μ : Md) (d : D) (Γ : En) (Q : En → Prop) : TG := fun v σ H q => Rel K μ H σ Γ ∧ Rp K (Vw μ Γ H) v d ∧ ∀ σ' H' Γ', Fw Γ.c Γ'.c H H' → Rel K μ H' σ' Γ' → Q Γ' → q σ' H'
def XG (X : Cx) (μ : Md) (tg : Expr) (d : D) (Γ : En) (Q : En → Prop) : Prop := PG X tg (tGD X.K μ d Γ Q)
section
variable {X : Cx} {μ : Md} {Γ : En} {Q : List D → En → Prop} {a b c e o it tg : Expr} {es : List Expr} {pos apos cpos : Pos} {x y d : D} {m : Addr → Bool} {H : Hp} {P : Po}
/-- what a list, a tuple, a text yields -/
def Items : D → List D → Prop
  | .lst xs, ds => ds = xs
  | .tup xs, ds => ds = xs
  | .tupx xs, ds => ds = xs
  | .str z, ds => ds = z.cps.toList.map fun c => .str (S [c])
  | _, _ => False
theorem wk_lst {K : PySem.W.Frag} {cs : Cs} {a : Addr} {vs : List V} {ds : List D} (s1 : SqL K (hid (tot m cs) H) a vs) (r : RpA K (hid (tot m cs) H) vs ds) : Wk K (hid (tot m cs) H) (Itl K a) ds := fun i H1 M sb _ => by
  have s2 : SqL K H1 a vs := (hid_sub _ _).sqL (sb.sqL s1)
  refine ⟨fun d hd => ?_, fun hl => ⟨vs, s2, by rw [r.length]; exact hl⟩⟩
  obtain ⟨v, hv, rv⟩ := r.got hd
  refine ⟨⟨vs, v, s2, hv⟩, fun x H' ⟨e, hx⟩ => ?_⟩
  subst e
  have e : x = v := by
    have := hx vs s2
    rw [hv] at this
    exact (Option.some.inj this).symm
  subst e
  exact ⟨Sub.refl _, rv.mono sb⟩
theorem wk_tup {K : PySem.W.Frag} {cs : Cs} {a : Addr} {vs : List V} {ds : List D} (s1 : SqT K (hid (tot m cs) H) a vs) (r : RpA K (hid (tot m cs) H) vs ds) : Wk K (hid (tot m cs) H) (Itt K a) ds := fun i H1 M sb _ => by
  have s2 : SqT K H1 a vs := (hid_sub _ _).sqT (sb.sqT s1)
  refine ⟨fun d hd => ?_, fun hl => ⟨vs, s2, by rw [r.length]; exact hl⟩⟩
  obtain ⟨v, hv, rv⟩ := r.got hd
  refine ⟨⟨vs, v, s2, hv⟩, fun x H' ⟨e, hx⟩ => ?_⟩
  subst e
  have e : x = v := by
    have := hx vs s2
    rw [hv] at this
    exact (Option.some.inj this).symm
  subst e
  exact ⟨Sub.refl _, rv.mono sb⟩
theorem wk_str {K : PySem.W.Frag} {G : Hp} {z : Str} : Wk K G (Its z) (z.cps.toList.map fun c => .str (S [c])) := fun i H1 M f _ => by
  refine ⟨fun d hd => ?_, fun hl => (show z.cps.size ≤ i by simpa using hl)⟩
  rw [List.getElem?_map] at hd
  obtain ⟨cd, hc, e⟩ := Option.map_eq_some_iff.mp hd
  subst e
  have hi : i < z.cps.size := by
    have := (List.getElem?_eq_some_iff.mp hc).1
    simpa using this
  refine ⟨hi, fun x H' ⟨e, c2, hc2, ex⟩ => ?_⟩
  subst e; subst ex
  have e : c2 = cd := by
    rw [Array.getElem?_toList] at hc
    rw [hc] at hc2
    exact (Option.some.inj hc2).symm
  subst e
  exact ⟨Sub.refl _, .str _⟩
theorem xi_lst (h : XE X μ e Γ fun d Γ1 => ∃ ds, d = .lst ds ∧ Q ds Γ1) : XI X μ tg e Γ Q :=
  PI.imp (pi_list h) fun σ H R ⟨Rl, k⟩ => ⟨Rl, fun v H1 d Γ1 s1 f1 R1 r1 ⟨ds, hd, hq⟩ => by
    subst hd
    cases r1 with
    | lst q1 q2 => exact ⟨_, rfl, ⟨_, (hid_sub _ _).sqL q1⟩, k _ H1 ds Γ1 s1 f1 R1 (wk_lst q1 q2) hq⟩⟩
/-- one of the three, told by the value -/
theorem xi_any (h : XE X μ e Γ fun d Γ1 => ∃ ds, Items d ds ∧ Q ds Γ1) : XI X μ tg e Γ Q := by
  refine ⟨fun pins s σ H R I ⟨Rl, k⟩ => ?_⟩
  have h' : PE X e (tD X.K μ Γ fun d Γ1 => ∃ ds, Items d ds ∧ Q ds Γ1) := h
  refine thn (h'.run pins s σ H (fun v H1 => ∃ d Γ1, Γ1.s = Γ.s ∧ Fw Γ.c Γ1.c H H1 ∧ Rel X.K μ H1 σ Γ1 ∧ Rp X.K (Vw μ Γ1 H1) v d ∧ ∃ ds, Items d ds ∧ Q ds Γ1) I ⟨Rl, fun v H1 d Γ1 s1 f1 R1 r1 hq => ⟨d, Γ1, s1, f1, R1, r1, hq⟩⟩)
    fun u s1 ⟨v, H1, I1, rv, d, Γ1, e1, f1, R1, r1, ds, hi, hq⟩ => ?_
  cases r1 with
  | @lst a vs xs q1 q2 =>
    have hi : ds = xs := hi
    subst hi
    cases rv
    obtain ⟨its, rv, p, hz⟩ := I1.list ((hid_sub _ _).sqL q1)
    refine wpAny_pyIter_list p.isList ?_
    refine ⟨s1.heap.objs.size, [s1.heap.objs.size], _, _, H1, rfl, I1.kept (t' := s1.toks) fun b o e => Heap.get?_push_of_some _ e, turn_list a _, ⟨_, Heap.get?_push_size _ rfl, rfl, rfl⟩, fun b hb => ?_, k _ H1 ds Γ1 e1 f1 R1 (wk_lst q1 q2) hq⟩
    obtain rfl : b = s1.heap.objs.size := by simpa using hb
    exact I1.fpOk (Nat.le_refl _) (I1.hok.fresh (Nat.le_refl _))
  | @tup a vs xs q1 q2 =>
    have hi : ds = xs := hi
    subst hi
    cases rv
    obtain ⟨its, rv, p, hz⟩ := I1.tuple ((hid_sub _ _).sqT q1.sq)
    refine wpAny_pyIter_tuple (show s1.heap.IsTuple a its.toArray from p) ?_
    refine ⟨s1.heap.objs.size, [s1.heap.objs.size], _, _, H1, rfl, I1.kept (t' := s1.toks) fun b o e => Heap.get?_push_of_some _ e, turn_tuple a _, ⟨_, Heap.get?_push_size _ rfl, rfl, rfl⟩, fun b hb => ?_, k _ H1 ds Γ1 e1 f1 R1 (wk_tup q1.sq q2) hq⟩
    obtain rfl : b = s1.heap.objs.size := by simpa using hb
    exact I1.fpOk (Nat.le_refl _) (I1.hok.fresh (Nat.le_refl _))
  | str z =>
    obtain ⟨t, rfl⟩ := rv
    have hi : ds = z.cps.toList.map fun c => .str (S [c]) := hi
    subst hi
    cases ha : z.cps.all (· < 128)
    · exact wpAny_pyIter_wide ha (pi_one (tk := s1.toks) I1 _ (turn_str _ z t "str_iterator" (.inr rfl)) ⟨_, Heap.get?_push_size _ rfl, rfl, rfl⟩ (k _ H1 _ Γ1 e1 f1 R1 wk_str hq))
    · exact wpAny_pyIter_ascii ha (pi_one (tk := s1.toks) I1 _ (turn_str _ z t "str_ascii_iterator" (.inl rfl)) ⟨_, Heap.get?_push_size _ rfl, rfl, rfl⟩ (k _ H1 _ Γ1 e1 f1 R1 wk_str hq))
  | non => exact hi.elim
  | bl _ => exact hi.elim
  | int _ => exact hi.elim
  | ty _ => exact hi.elim
  | ref _ => exact hi.elim
  | dct _ _ => exact hi.elim
  | ins _ _ => exact hi.elim
  | exc0 _ => exact hi.elim
  | exc1 _ _ _ => exact hi.elim
  | set _ => exact hi.elim
  | dcT _ _ => exact hi.elim
  | dcL _ _ => exact hi.elim
  | @tupx a vs xs q1 q2 =>
    have hi : ds = xs := hi
    subst hi
    cases rv
    obtain ⟨its, rv, p, hz⟩ := I1.tuple ((hid_sub _ _).sqT q1)
    refine wpAny_pyIter_tuple (show s1.heap.IsTuple a its.toArray from p) ?_
    refine ⟨s1.heap.objs.size, [s1.heap.objs.size], _, _, H1, rfl, I1.kept (t' := s1.toks) fun b o e => Heap.get?_push_of_some _ e, turn_tuple a _, ⟨_, Heap.get?_push_size _ rfl, rfl, rfl⟩, fun b hb => ?_, k _ H1 ds Γ1 e1 f1 R1 (wk_tup q1 q2) hq⟩
    obtain rfl : b = s1.heap.objs.size := by simpa using hb
    exact I1.fpOk (Nat.le_refl _) (I1.hok.fresh (Nat.le_refl _))
/-- a range -/
def rngD (lo : Int) (n : Nat) : List D := (List.range n).map fun (i : Nat) => .int (lo + (i : Int))
theorem wk_rng {K : PySem.W.Frag} {G : Hp} {lo : Int} {n : Nat} : Wk K G (Itr lo n) (rngD lo n) := fun i H1 M f _ => by
  refine ⟨fun d hd => ?_, fun hl => (show n ≤ i by simpa [rngD] using hl)⟩
  unfold rngD at hd
  rw [List.getElem?_map] at hd
  obtain ⟨j, hj, e⟩ := Option.map_eq_some_iff.mp hd
  subst e
  obtain ⟨hi, hj⟩ := List.getElem?_eq_some_iff.mp hj
  rw [List.getElem_range] at hj
  subst hj
  refine ⟨(show i < n by simpa using hi), fun x H' ⟨e, ex⟩ => ?_⟩
  subst e; subst ex
  exact ⟨Sub.refl _, .int _⟩
theorem xi_rng1 {p : Pos} (hg : Gl X "range") (hm : X.mg "range" = none) (h : XA X μ [a] Γ fun ds Γ1 => ∃ n : Int, ds = [.int n] ∧ -100000 ≤ n ∧ n ≤ 100000 ∧ Q (rngD 0 n.toNat) Γ1) (hs : starEach [a] X.env = [(false, eval a X.env)] := by rfl) : XI X μ tg (.Call (.Name "range" p) [a] [] pos) Γ Q :=
  PI.imp (pi_range1 hg hm h hs) fun σ H R ⟨Rl, k⟩ => ⟨Rl, fun vs H1 ds Γ1 s1 f1 R1 r1 ⟨n, hd, h1, h2, hq⟩ => by
    subst hd
    obtain ⟨v, rfl, r⟩ := r1.one
    cases r
    exact ⟨n, rfl, by omega, by omega, k _ H1 _ Γ1 s1 f1 R1 wk_rng hq⟩⟩
theorem xg_name {i : Nat} {xn : Str} {Q : En → Prop} (hN : X.N.Nodup) (hi : X.N[i]? = some xn) (hx : Loc X.env.scope xn) (h : Q { Γ with s := Γ.s.set i (some d) }) (hf : X.fn xn = true ∨ X.env.scope.names.lookup xn = some .local := by first | exact .inl rfl | exact .inr rfl | assumption) : XG X μ (.Name xn pos) d Γ Q :=
  PG.imp (pg_name (i := i) hN hi hx hf) fun v σ H q ⟨R, r, k⟩ => k _ H { Γ with s := Γ.s.set i (some d) } (Fw.refl _ _) (R.set i r) h
/-- target = e -/
theorem xs_asg {e : Expr} (h : XE X μ e Γ fun d Γ1 => XG X μ tg d Γ1 P.nx) (hs : swapsWithSole [tg] e pos.line X.env = pure false := by rfl) (hw : swappedStores [tg] e X.env = pure none := by rfl)
    (h1 : (assignEach [tg] X.env).map (·.2) = [assign tg X.env] := by rfl) : XS X μ (.Assign [tg] e pos) Γ P :=
  PS.imp (ps_asg h pg_u hs hw h1) fun D σ H ⟨R, k, _⟩ => ⟨R, fun v H1 d Γ1 s1 f1 R1 r1 hq => ⟨_, hq, R1, r1, fun σ2 H2 Γ2 f2 R2 hq => k σ2 H2 Γ2 (f1.trans f2) R2 hq⟩⟩
/-- a, b = x, y -/
theorem xs_par {i j : Nat} {xn yn : Str} {px py pt : Pos} {kt k2 pt2} (hc : X.calm = true) (hN : X.N.Nodup) (hi : X.N[i]? = some xn) (hj : X.N[j]? = some yn) (hij : i ≠ j)
    (hx : X.env.scope.names.lookup xn = some .local) (hy : X.env.scope.names.lookup yn = some .local) (h : XA X μ [a, b] Γ fun ds Γ1 => ∃ d e, ds = [d, e] ∧ P.nx { Γ1 with s := (Γ1.s.set i (some d)).set j (some e) })
    (hw : swappedStores [.Tuple [.Name xn px, .Name yn py] kt pt] (.Tuple [a, b] k2 pt2) X.env = pure (some [xn, yn]) := by rfl)
    (hs : swapsWithSole [.Tuple [.Name xn px, .Name yn py] kt pt] (.Tuple [a, b] k2 pt2) pos.line X.env = pure false := by rfl) :
    XS X μ (.Assign [.Tuple [.Name xn px, .Name yn py] kt pt] (.Tuple [a, b] k2 pt2) pos) Γ P :=
  PS.imp (ps_par hc hN hi hj hij hx hy h hw hs) fun D σ H ⟨R, k, _⟩ => ⟨R, fun vs H1 ds Γ1 s1 f1 R1 r1 ⟨d, e, hd, hq⟩ => by
    subst hd
    obtain ⟨v, u, rfl, r, r'⟩ := r1.two
    exact ⟨v, u, rfl, k _ H1 { Γ1 with s := (Γ1.s.set i (some d)).set j (some e) } f1 ((R1.set i r).set j r') hq⟩⟩
theorem xs_for {body : List Stmt} (hp : PassesOwn (model X.prog X.w) X.A X.env X.xe) (hc : X.calm = true)
    (h : XI X μ tg it Γ fun ds Γ1 => ∃ I : Nat → En → Prop, I 0 Γ1 ∧ (∀ i d Γ2, ds[i]? = some d → I i Γ2 → XG X μ tg d Γ2 fun Γ3 => XB X μ body Γ3 { P with nx := I (i + 1), ct := I (i + 1), bk := P.nx }) ∧ ∀ Γ2, I ds.length Γ2 → P.nx Γ2)
    (hs : ∀ x, foldedSetIterable it X.env x = pure x := by intro _; rfl) : XS X μ (.For tg it body [] pos) Γ P := by
  refine PS.imp (ps_for hp hc h pg_u pss_u hs) fun D σ H ⟨R, k1, k2, k3, k4⟩ => ⟨R, fun J H1 ds Γ1 s1 f1 R1 wk ⟨I, h0, ht, hd⟩ => ?_⟩
  refine ⟨fun i n σ' H' => n = ds.length - i ∧ i ≤ ds.length ∧ ∃ Γ', Fw Γ1.c Γ'.c H1 H' ∧ Rel X.K μ H' σ' Γ' ∧ I i Γ', ⟨ds.length, by simp, Nat.zero_le _, Γ1, Fw.refl _ _, R1, h0⟩, ?_⟩
  rintro i n σ' H' ⟨rfl, hi, Γ', f', R', hI⟩
  obtain ⟨w1, w2⟩ := wk i H' (tot μ.m Γ'.c) f'.sub R'.domT
  by_cases hlt : i < ds.length
  · obtain ⟨go, yl⟩ := w1 ds[i] (by simp [hlt])
    refine .inr ⟨go, fun σ2 H2 => ∃ Γ2, Fw Γ1.c Γ2.c H1 H2 ∧ Rel X.K μ H2 σ2 Γ2 ∧ I (i + 1) Γ2, fun σ2 H2 q => ⟨ds.length - (i + 1), by omega, rfl, hlt, q⟩, fun x H2 y => ?_⟩
    obtain ⟨e2, r2⟩ := yl x H2 y
    have f2 : Fw Γ'.c Γ'.c H' H2 := Fw.of_sub e2
    refine ⟨_, ht i ds[i] Γ' (by simp [hlt]) hI, R'.more e2, r2, fun σ3 H3 Γ3 f3 R3 hb => ⟨_, hb, R3, fun σ4 H4 Γ4 f4 R4 q => ?_, fun v σ4 H4 d Γ4 f4 R4 r q => ?_, fun σ4 H4 Γ4 f4 R4 q => ?_, fun σ4 H4 Γ4 f4 R4 q => ?_⟩⟩
    · exact ⟨Γ4, ((f'.trans f2).trans f3).trans f4, R4, q⟩
    · exact k2 v σ4 H4 d Γ4 ((((f1.trans f').trans f2).trans f3).trans f4) R4 r q
    · exact k1 σ4 H4 Γ4 ((((f1.trans f').trans f2).trans f3).trans f4) R4 q
    · exact ⟨Γ4, ((f'.trans f2).trans f3).trans f4, R4, q⟩
  · have e : i = ds.length := by omega
    subst e
    exact .inl ⟨w2 (Nat.le_refl _), k1 σ' H' Γ' (f1.trans f') R' (hd Γ' hI)⟩
end
end Pdl
namespace Pdl
open PySem L2 PyProof.Rows
def XTl (X : Cx) (μ : Md) (ifs : List Expr) (Γ : En) (Q : Bool → En → Prop) : Prop := PTs X ifs (tTD X.K μ Γ Q)
/-- all block contexts of a comprehension -/
abbrev Blk (X : Cx) (scope : Scope) (F : Cx → Prop) : Prop := ∀ (s : Shared) (H : Hp) (C : Addr) (cl : List (Str × Addr)) (fp : List Addr), F (X.blk s H scope (compEnvC scope cl C X.env) fp)
def uBT (X : Cx) (scope : Scope) (ifs : List Expr) : TT := fun σ H q => ∃ t, Blk X scope (fun Y => PTs Y ifs t) ∧ t σ H q
def uBE (X : Cx) (scope : Scope) (e : Expr) : TE := fun σ H q => ∃ t, Blk X scope (fun Y => PE Y e t) ∧ t σ H q
theorem hid_msk {m : Addr → Bool} {H : Hp} {p : Addr} {o : HO} (h : m p = true) : hid m (upd H p o) = hid m H := by
  funext a
  unfold hid
  by_cases e : a = p
  · subst e; rw [if_pos h, if_pos h]
  · rw [upd_ne e]
section
variable {X : Cx} {μ : Md} {Γ : En} {Q : QE} {a b c e o it tg elt : Expr} {es ifs : List Expr} {pos apos cpos tpos : Pos} {x y d : D} {m : Addr → Bool} {H : Hp} {P : Po} {scope : Scope}
theorem xtl_nil {Q : Bool → En → Prop} (h : Q true Γ) : XTl X μ [] Γ Q := ⟨fun pins s σ H q I ⟨R, k⟩ => (pts_nil (X := X)).run pins s σ H q I (k H true Γ rfl (Fw.refl _ _) R h)⟩
theorem xtl_one {Q : Bool → En → Prop} (h : XT X μ c Γ Q) : XTl X μ [c] Γ Q := pts_one h
/-- what is asked of a comprehension's items -/
def QLc (X : Cx) (scope : Scope) (ifs : List Expr) (elt : Expr) (i : Nat) (Q : QE) : List D → En → Prop := fun ds Γ1 => ∃ I : Nat → List D → Cs → Prop, I 0 [] Γ1.c ∧
      (∀ k d acc c2, ds[k]? = some d → I k acc c2 → ∀ μ', Blk X scope fun Y => XTl Y μ' ifs ⟨Γ1.s.set i (some d), c2⟩ fun b Γ3 => if b = true then Blk X scope fun Z => XE Z μ' elt Γ3 fun y Γ4 => I (k + 1) (acc ++ [y]) Γ4.c else I (k + 1) acc Γ3.c) ∧
      ds.length ≤ 100000 ∧ ∀ acc c2, I ds.length acc c2 → Q (.lst acc) ⟨Γ1.s, c2⟩
theorem lcD {i : Nat} (σ : L2.St) (H : Hp) (q : VK) (h : tD X.K μ Γ Q σ H q) : tLc (tID X.K μ Γ (QLc X scope ifs elt i Q)) (gName i) (uBT X scope ifs) (uBE X scope elt) [i] σ H q := by
  obtain ⟨R, k⟩ := h
  refine ⟨R, fun J H1 ds Γ1 s1 f1 R1 wk ⟨I, h0, ht, hlen, hd⟩ p hp => ?_⟩
  have hpm : tot μ.m Γ1.c p = false := R1.fresh hp
  let μ' : Md := { m := fun a => μ.m a || a == p, c0 := Γ1.c, H0 := H1, E := fun _ _ => False }
  have mp : μ'.m p = true := by show (μ.m p || p == p) = true; simp
  have mne : ∀ {a}, a ≠ p → μ'.m a = μ.m a := fun {a} h => by show (μ.m a || a == p) = _; rw [beq_eq_false_iff_ne.mpr h]; simp
  have tp : ∀ cs, tot μ'.m cs p = true := fun cs => by unfold tot; rw [mp]; rfl
  have less : ∀ (cs : Cs) (H' : Hp), Sub (hid (tot μ'.m cs) H') (hid (tot μ.m cs) H') := fun cs H' => hid_mono fun a o h e => by
    obtain ⟨h1, h2⟩ := tot_false.mp h
    have hne : a ≠ p := fun z => by rw [z, mp] at h1; cases h1
    rw [mne hne] at h1
    exact ⟨tot_false.mpr ⟨h1, h2⟩, e⟩
  have near : ∀ {cs : Cs} {H' : Hp}, Fw Γ1.c cs H1 H' → Sub (hid (tot μ.m Γ1.c) H1) (hid (tot μ'.m cs) H') := fun {cs H'} f => hid_mono fun a o h e => by
    obtain ⟨h1, h2⟩ := tot_false.mp h
    obtain ⟨h3, h4⟩ := f a o h2 e
    have hne : a ≠ p := ne_of_none e hp
    exact ⟨tot_false.mpr ⟨by rw [mne hne]; exact h1, h4⟩, h3⟩
  refine ⟨fun k' n H' => n = ds.length - k' ∧ k' ≤ ds.length ∧ ∃ (acc : List D) (vs : List V) (c' : Cs), H' p = some (.lst vs) ∧ RpA X.K (hid (tot μ'.m c') H') vs acc ∧ Fw Γ1.c c' H1 H' ∧
    Rel X.K μ' H' (σ.set i none) ⟨Γ1.s.set i none, c'⟩ ∧ acc.length ≤ k' ∧ I k' acc c', ⟨ds.length, by simp, Nat.zero_le _, [], [], Γ1.c, upd_same, .nil, Fw.of_sub (sub_upd hp), ?_, Nat.le_refl _, h0⟩, ?_⟩
  · have f0 : Fw Γ1.c Γ1.c H1 (upd H1 p (.lst [])) := Fw.of_sub (sub_upd hp)
    refine ⟨⟨fun a h => ?_, R1.co.nd, fun r hr => ?_, fun r hr => ?_⟩, (R1.slots.unset i).mono (near f0), f0⟩
    · by_cases e : a = p
      · subst e; exact ⟨_, upd_same, rfl⟩
      · rw [mne e] at h
        obtain ⟨o, ho, z⟩ := R1.co.dom a h
        exact ⟨o, sub_upd hp _ _ ho, z⟩
    · have hne : r.1 ≠ p := fun z => by
        have := (tot_false.mp hpm).2
        rw [← z, inC_of hr] at this
        cases this
      rw [mne hne]
      exact R1.co.off r hr
    · have z := R1.co.cells r hr
      obtain ⟨u, hu⟩ := z.some
      show CellRp X.K _ (upd H1 p _ r.1) r.2
      rw [upd_ne (ne_of_none hu hp)]
      exact z.mono (near f0)
  · rintro k' n H' ⟨rfl, hk, acc, vs, c', hD, ra, f', R', hl, hI⟩
    obtain ⟨w1, w2⟩ := wk k' H' (tot μ'.m c') (near f') R'.domT
    by_cases hlt : k' < ds.length
    · obtain ⟨go, yl⟩ := w1 ds[k'] (by simp [hlt])
      refine .inr ⟨go, fun H2 => ∃ (acc : List D) (vs : List V) (c' : Cs), H2 p = some (.lst vs) ∧ RpA X.K (hid (tot μ'.m c') H2) vs acc ∧ Fw Γ1.c c' H1 H2 ∧
        Rel X.K μ' H2 (σ.set i none) ⟨Γ1.s.set i none, c'⟩ ∧ acc.length ≤ k' + 1 ∧ I (k' + 1) acc c', fun H2 q2 => ⟨ds.length - (k' + 1), by omega, rfl, hlt, q2⟩, fun v H2 y => ?_⟩
      obtain ⟨e2, r2⟩ := yl v H2 y
      have f2 : Fw c' c' H' H2 := Fw.of_sub e2
      have R2 : Rel X.K μ' H2 ((σ.set i none).set i (some v)) ⟨Γ1.s.set i (some ds[k']), c'⟩ := by
        have z := (R'.more e2).set i r2
        have ez : (Γ1.s.set i none).set i (some ds[k']) = Γ1.s.set i (some ds[k']) := List.set_set ..
        have z' : Rel X.K μ' H2 ((σ.set i none).set i (some v)) ⟨(Γ1.s.set i none).set i (some ds[k']), c'⟩ := z
        rw [ez] at z'
        exact z'
      have npc : ∀ {cs : Cs} {G : Hp} {σ' : L2.St} {sl : List (Option D)}, Rel X.K μ' G σ' ⟨sl, cs⟩ → inC cs p = false := fun {cs G σ' sl} R => by
        cases e : inC cs p with
        | false => rfl
        | true =>
          obtain ⟨r, hr, er⟩ := of_inC e
          have := R.co.off r hr
          rw [er, mp] at this
          cases this
      refine ⟨?_, ?_⟩
      · show ((σ.set i none).set i (some v)).set i none = σ.set i none
        rw [List.set_set, List.set_set]
      · refine ⟨tTD X.K μ' _ _, ht k' ds[k'] acc c' (by simp [hlt]) hI μ', R2, fun H3 b Γ3 s3 f3 R3 hq => ?_⟩
        obtain ⟨sl3, c3⟩ := Γ3
        have s3 : sl3 = Γ1.s.set i (some ds[k']) := s3
        subst s3
        have hD2 : H2 p = some (.lst vs) := e2 _ _ hD
        have hD3 : H3 p = some (.lst vs) := (f3 _ _ (npc R2) hD2).1
        have unset : ∀ {G : Hp} {cs : Cs}, Rel X.K μ' G ((σ.set i none).set i (some v)) ⟨Γ1.s.set i (some ds[k']), cs⟩ → Rel X.K μ' G (σ.set i none) ⟨Γ1.s.set i none, cs⟩ := fun {G cs} R => by
          refine ⟨R.co, ?_, R.fw⟩
          have z := R.slots.unset i
          have z' : SlotRp X.K (hid (tot μ'.m cs) G) (((σ.set i none).set i (some v)).set i none) ((Γ1.s.set i (some ds[k'])).set i none) := z
          rw [List.set_set, List.set_set, List.set_set] at z'
          exact z'
        cases b with
        | false =>
          rw [if_neg Bool.false_ne_true] at hq
          exact iteF ⟨acc, vs, c3, hD3, ra.mono (f2.sub.trans f3.sub), (f'.trans f2).trans f3, unset R3, Nat.le_succ_of_le hl, hq⟩
        | true =>
          rw [if_pos rfl] at hq
          refine iteT ⟨tD X.K μ' _ _, hq, R3, fun y H4 d4 Γ4 s4 f4 R4 r4 hI4 => ?_⟩
          obtain ⟨sl4, c4⟩ := Γ4
          have s4 : sl4 = Γ1.s.set i (some ds[k']) := s4
          subst s4
          have hD4 : H4 p = some (.lst vs) := (f4 _ _ (npc R3) hD3).1
          have lv : vs.length ≤ k' := by rw [ra.length]; exact hl
          refine ⟨vs, hD4, Nat.lt_of_le_of_lt (Nat.le_trans lv (Nat.le_trans hk hlen)) (by decide), acc ++ [d4], vs ++ [y], c4, upd_same, ?_, ?_, ?_, by rw [List.length_append]; exact Nat.succ_le_succ hl, hI4⟩
          · rw [hid_msk (tp c4)]
            exact (ra.mono ((f2.sub.trans f3.sub).trans f4.sub)).app (.cons r4 .nil)
          · intro a o ha e
            obtain ⟨z1, z2⟩ := (((f'.trans f2).trans f3).trans f4) a o ha e
            exact ⟨by rw [upd_ne (ne_of_none e hp)]; exact z1, z2⟩
          · have R5 := unset R4
            refine ⟨⟨fun a h => ?_, R5.co.nd, R5.co.off, fun r hr => ?_⟩, ?_, fun a o ha e => ?_⟩
            · by_cases ea : a = p
              · subst ea; exact ⟨_, upd_same, rfl⟩
              · obtain ⟨o, ho, z⟩ := R5.co.dom a h
                exact ⟨o, by rw [upd_ne ea]; exact ho, z⟩
            · have hne : r.1 ≠ p := fun z => by
                have := R5.co.off r hr
                rw [z, mp] at this
                cases this
              show CellRp X.K (hid (tot μ'.m c4) (upd H4 p _)) (upd H4 p _ r.1) r.2
              rw [hid_msk (tp c4), upd_ne hne]
              exact R5.co.cells r hr
            · show SlotRp X.K (hid (tot μ'.m c4) (upd H4 p _)) _ _
              rw [hid_msk (tp c4)]
              exact R5.slots
            · obtain ⟨z1, z2⟩ := R5.fw a o ha e
              exact ⟨by rw [upd_ne (ne_of_none e hp)]; exact z1, z2⟩
    · have e : k' = ds.length := by omega
      subst e
      refine .inl ⟨w2 (Nat.le_refl _), k _ H' (.lst acc) ⟨Γ1.s, c'⟩ s1 (f1.trans f') ⟨⟨fun a h => R'.co.dom a ?_, R'.co.nd, fun r hr => ?_, fun r hr => (R'.co.cells r hr).mono (less c' H')⟩, R1.slots.mono f'.sub, R1.fw.trans f'⟩ (.lst (.of ?_) (ra.mono (less c' H'))) (hd acc c' hI)⟩
      · show (μ.m a || a == p) = true
        rw [h]; rfl
      · have z : (μ.m r.1 || r.1 == p) = false := R'.co.off r hr
        exact (Bool.or_eq_false_iff.mp z).1
      · refine hid_some.mpr ⟨tot_false.mpr ⟨(tot_false.mp hpm).1, ?_⟩, hD⟩
        cases e : inC c' p with
        | false => rfl
        | true =>
          obtain ⟨r, hr, er⟩ := of_inC e
          have := R'.co.off r hr
          rw [er, mp] at this
          cases this
/-- [elt for x in it if ..], one name as the target -/
theorem xe_lc {i : Nat} {xn : Str} (hc : X.calm = true) (hN : X.N.Nodup) (hi : X.N[i]? = some xn) (hb : BlkOk X.N X.env.scope scope [(xn, i)]) (hx : Blk X scope fun Y => Loc Y.env.scope xn) (hf : Blk X scope fun Y => Y.fn xn = true ∨ Y.env.scope.names.lookup xn = some .local)
    (h : XI X μ (.Name xn tpos) it Γ (QLc X scope ifs elt i Q))
    (hs : ∀ x, foldedSetIterable it X.env x = pure x := by intro _; rfl) : XE X μ (.ListComp elt [⟨.Name xn tpos, it, ifs, 0⟩] scope pos) Γ Q :=
  PE.imp (pe_lc (g := gName i) (tt := uBT X scope ifs) (te := uBE X scope elt) hc hN h hb (fun s H C cl fp => pg_name hN hi (hx s H C cl fp) (hf s H C cl fp))
    (fun s H C cl fp => ⟨fun pins s' σ H' q I ⟨t, ht, hq⟩ => (ht s H C cl fp).run pins s' σ H' q I hq⟩) (fun s H C cl fp => ⟨fun pins s' σ H' q I ⟨t, ht, hq⟩ => (ht s H C cl fp).run pins s' σ H' q I hq⟩) hs) fun σ H q h => lcD σ H q h
end
end Pdl
namespace Pdl
open PySem L2 PyProof.Rows
/-- the def st stands at the module's name x -/
def Def (K : PySem.W.Frag) (mg : Str → Option Value) (x : Str) (ps : List Str) (st : Stmt) : Prop := ∃ (f : Addr) (fd : FuncData), mg x = some (.ref f) ∧ PySem.W.keepIn K (.ref f) = true ∧ Fun K x x st f fd ∧ Binds K fd ps []
/-- the module's name x may be called: its promise -/
def Cal (P : Program) (w : World) (K : PySem.W.Frag) (mg : Str → Option Value) (base : Heap) (x : Str) (k : Nat) (ps : List Str) (S : SpD) : Prop :=
  ∃ (f : Addr) (fd : FuncData), mg x = some (.ref f) ∧ PySem.W.keepIn K (.ref f) = true ∧ FnOk P w K mg base CX0 k f fd ps (spD K S) ∧ Binds K fd ps []
/-- .. of a def that is run where no repr is under way -/
structure FnG (P : Program) (w : World) (K : PySem.W.Frag) (mg : Str → Option Value) (base : Heap) (k : Nat) (f : Addr) (fd : FuncData) (ps : List Str) (sp : Sp) : Prop where
  len : ∀ vs H Q E, sp vs H Q E → vs.length = ps.length
  run : ∀ (A : Around) (outer : List Env) (s : Shared) (H : Hp) (args : Args) (us : List Value) (vs : List V) (Q : VK) (E : XK), Room k A → A.guards = some [] → Env0 P w K mg base A outer s H → BindsTo s fd args (ps.zip us) → Vals vs us → sp vs H Q E →
    codeAny (model P w) A (.call (.ref f) args) (CR CX0 outer P w H s Q E) s
theorem FnG.of {P : Program} {w : World} {K : PySem.W.Frag} {mg : Str → Option Value} {base : Heap} {k : Nat} {f : Addr} {fd : FuncData} {ps : List Str} {sp : Sp} (F : FnOk P w K mg base CX0 k f fd ps sp) : FnG P w K mg base k f fd ps sp :=
  ⟨F.len, fun A outer s H args us vs Q E hr _ he hb hv hs => F.run A outer s H args us vs Q E hr he hb hv hs⟩
def CalG (P : Program) (w : World) (K : PySem.W.Frag) (mg : Str → Option Value) (base : Heap) (x : Str) (k : Nat) (ps : List Str) (S : SpD) : Prop :=
  ∃ (f : Addr) (fd : FuncData), mg x = some (.ref f) ∧ PySem.W.keepIn K (.ref f) = true ∧ FnG P w K mg base k f fd ps (spD K S) ∧ Binds K fd ps []
section
variable {P : Program} {w : World} {K : PySem.W.Frag} {mg : Str → Option Value} {base : Heap}
theorem Cal.g {x : Str} {k : Nat} {ps : List Str} {S : SpD} (h : Cal P w K mg base x k ps S) : CalG P w K mg base x k ps S := let ⟨f, fd, a, b, F, c⟩ := h; ⟨f, fd, a, b, .of F, c⟩
theorem cal_of {x : Str} {st : Stmt} {N ps : List Str} {k : Nat} {S : SpD} (D : Def K mg x ps st) (sc : FnScope N ps (defScope st)) (len : ∀ ds c Q E, S ds c Q E → ds.length = ps.length)
    (hbody : ∀ (f : Addr) (cdv : Value) (A : Around) (outer : List Env) (s : Shared) (H : Hp) (E0 : XK), Room k (bX P w K mg base N x st f cdv A outer s H E0).A →
      ∀ m ds c Q E, S ds c Q E → XB (bX P w K mg base N x st f cdv A outer s H E0) (mdOf m c H E) (defBody st) ⟨startD N ds, c⟩ (poOf Q)) : Cal P w K mg base x (k + 1) ps S := by
  obtain ⟨f, fd, h1, h2, F, b⟩ := D
  exact ⟨f, fd, h1, h2, fn_D F sc len (hbody f), b⟩
/-- the body, where no repr is under way -/
theorem fn_G {x qual : Str} {st : Stmt} {f : Addr} {fd : FuncData} {N ps : List Str} {k : Nat} {sp : Sp} (F : Fun K x qual st f fd) (sc : FnScope N ps (defScope st)) (len : ∀ vs H Q E, sp vs H Q E → vs.length = ps.length)
    (hbody : ∀ (cdv : Value) (A : Around) (outer : List Env) (s : Shared) (H : Hp) (vs : List V) (Q : VK) (E : XK), Room k (bX P w K mg base N qual st f cdv A outer s H E).A → (bX P w K mg base N qual st f cdv A outer s H E).A.guards = some [] → sp vs H Q E →
      ∃ t, PSs (bX P w K mg base N qual st f cdv A outer s H E) (defBody st) t ∧ t { nx := fun _ H' => Q .non H', rt := Q } (L2.start N vs) H) : FnG P w K mg base (k + 1) f fd ps sp := by
  obtain ⟨oc, od, kV, doc, pm, an, cdv, ct, osl, rfl, lk, hcd⟩ := F.ex
  refine ⟨len, fun A outer s₀ H₀ args us vs Q E room gd en bnd rel hsp => ?_⟩
  have kin : K.In s₀.heap := en.mod.kin.keeps fun b o z => (en.bs b o z).1
  have nol : s₀.heap.NoLimit := en.mod.nolimit.keeps fun b o z => (en.bs b o z).1
  have kinds : ∀ z ∈ ps.zip us, (defScope st).names.lookup z.1 = some .local ∨ ((defScope st).names.lookup z.1 = some .cell ∧ ((cellsFrom (s₀.heap.objs.size + 1) (defScope st).names []).lookup z.1).isSome = true) := fun ⟨nm, vl⟩ hz => by
    rcases sc.par nm (List.of_mem_zip hz).1 with g | g
    · exact .inl g
    · exact .inr ⟨g, PySem.W.cellsFrom_some _ _ _ (.inl g)⟩
  refine codeAny_call_function room.depth (kin _ _ lk) rfl sc.co sc.gen rfl (PySem.W.codeRec_of kin hcd) (bnd _ _ _ _ ?_)
  refine wpAny_newFunctionEnv_cells sc.kind kinds fun env he s₁ icl => ?_
  subst he
  refine ⟨nol.keeps icl.toInCall.keep, codeAny_func ?_⟩
  obtain ⟨t, pt, ht⟩ := hbody cdv A outer s₀ H₀ vs Q E (room.deeper _) gd hsp
  have inv : Inv (cxOf CX0 P w K mg base N qual (defScope st) f cdv A outer s₀ H₀ E) [] (L2.start N vs) H₀ s₁ := inv_start sc room.hd en (len _ _ _ _ hsp) rel icl
  refine wpAny_mono (pt.nox.run [] s₁ (L2.start N vs) H₀ _ inv ht) (fun fl s₂ done => ?_) fun e s₂ z => z
  have close : ∀ {σ' : L2.St} {H' : Hp} {v : V} {u : Value}, Inv (cxOf CX0 P w K mg base N qual (defScope st) f cdv A outer s₀ H₀ E) [] σ' H' s₂ → RelV v u → Q v H' → CE outer P w H₀ s₀ Q u s₂ :=
    fun {σ' H' v u} J rv q => ⟨v, H', J.os, J.bare, J.base, J.hok, rv, q⟩
  cases fl with
  | next =>
    obtain ⟨_, _, J, q⟩ := done
    exact close (v := V.non) (u := Value.none) J rfl q
  | ret u =>
    obtain ⟨_, _, _, J, rv, q⟩ := done
    exact close J rv q
  | brk => exact done.elim fun _ ⟨_, _, q⟩ => q.elim
  | cont => exact done.elim fun _ ⟨_, _, q⟩ => q.elim
theorem calg_of {x : Str} {st : Stmt} {N ps : List Str} {k : Nat} {S : SpD} (D : Def K mg x ps st) (sc : FnScope N ps (defScope st)) (len : ∀ ds c Q E, S ds c Q E → ds.length = ps.length)
    (hbody : ∀ (f : Addr) (cdv : Value) (A : Around) (outer : List Env) (s : Shared) (H : Hp) (E0 : XK), Room k (bX P w K mg base N x st f cdv A outer s H E0).A → (bX P w K mg base N x st f cdv A outer s H E0).A.guards = some [] →
      ∀ m ds c Q E, S ds c Q E → XB (bX P w K mg base N x st f cdv A outer s H E0) (mdOf m c H E) (defBody st) ⟨startD N ds, c⟩ (poOf Q)) : CalG P w K mg base x (k + 1) ps S := by
  obtain ⟨f, fd, h1, h2, F, b⟩ := D
  refine ⟨f, fd, h1, h2, fn_G F sc (fun vs H Q E h => ?_) (fun cdv A outer s H vs Q E hr hg h => ?_), b⟩
  · obtain ⟨m, ds, c, _, r, hs⟩ := h
    rw [r.length]
    exact len _ _ _ _ hs
  · exact body_D (X := bX P w K mg base N x st f cdv A outer s H E) rfl (fun m ds c Q' E' _ hs => hbody f cdv A outer s H E hr hg m ds c Q' E' hs) h
end
section
variable {X : Cx} {μ : Md} {Γ : En} {S : SpD} {Q : QE} {k : Nat} {x : Str} {ps : List Str} {p pos apos : Pos} {e o : Expr} {es : List Expr}
/-- f(e, ..) -/
theorem xe_call (C : Cal X.prog X.w X.K X.mg X.base x k ps S) (hr : Room k X.A) (hg : Gl X x) (h : XA X μ (e :: es) Γ (Asks μ S Q)) (hdb : (x == ("__debug__" : Str)) = false := by decide)
    (he : starEach (e :: es) X.env = (false, eval e X.env) :: starEach es X.env := by rfl) (hpl : (backTo pos (starEach es X.env)).any (·.1) = false := by rfl) : XE X μ (.Call (.Name x p) (e :: es) [] pos) Γ Q := by
  obtain ⟨f, fd, h1, h2, F, b⟩ := C
  refine PE.imp pe_u fun σ H q ⟨R, k⟩ => ⟨_, pe_call (E := wD X.K μ σ) F hr hg h1 h2 b .nil pass0' h hdb he hpl, R, fun vs H1 ds Γ1 s1 f1 R1 r1 hs => ?_⟩
  show spD X.K S (vs ++ []) H1 q (wD X.K μ σ)
  rw [List.append_nil]
  exact asks_sp R1 r1 hs fun v H2 d Γ2 s2 f2 R2 r2 hq => k v H2 d Γ2 (s2.trans s1) (f1.trans f2) R2 r2 hq
/-- .. of a def that is run where no repr is under way -/
theorem pe_callG {f : Addr} {fd : FuncData} {sp : Sp} {E : XK} {t : TA} (F : FnG X.prog X.w X.K X.mg X.base k f fd ps sp) (hr : Room k X.A) (gd : X.A.guards = some []) (hg : Gl X x) (hm : X.mg x = some (.ref f)) (hk : PySem.W.keepIn X.K (.ref f) = true) (hb : Binds X.K fd ps [])
    (ha : PA X (e :: es) t) (hdb : (x == ("__debug__" : Str)) = false := by decide) (he : starEach (e :: es) X.env = (false, eval e X.env) :: starEach es X.env := by rfl) (hpl : (backTo pos (starEach es X.env)).any (·.1) = false := by rfl) :
    PE X (.Call (.Name x p) (e :: es) [] pos) (fun σ H Q => t σ H fun vs H1 => sp vs H1 Q E) := by
  refine ⟨fun pins s₀ σ H₀ Q I₀ h => ?_⟩
  refine wpAny_Call_Name_kw (ld_glob I₀ hg hm ?_ hdb)
  refine PySem.W.callWith_K (h₀ := X.base) I₀.ok.mod.kin hk (thn (ha.run pos pins s₀ σ H₀ _ I₀ h) fun us s₁ ⟨vs, H₁, I₁, rv, q⟩ => ⟨I₁.kIn, ?_⟩) he hpl
  have lu : us.length = ps.length := by rw [← rv.length]; exact F.len _ _ _ _ q
  have bd := hb s₁ us I₁.kIn (by rw [List.append_nil]; exact lu)
  rw [List.append_nil] at bd
  refine wpAny_call (codeAny_mono (F.run X.A X.stack s₁ H₁ ⟨us, []⟩ us vs Q E hr gd I₁.env0 bd rv q) fun res s₂ done => ?_)
  match res, done with
  | .ok (.ret u), done => exact I₁.after done
  | .ok .next, done => exact False.elim done
  | .ok .brk, done => exact False.elim done
  | .ok .cont, done => exact False.elim done
  | .error e, done => exact False.elim done
theorem xe_callG (C : CalG X.prog X.w X.K X.mg X.base x k ps S) (hr : Room k X.A) (gd : X.A.guards = some []) (hg : Gl X x) (h : XA X μ (e :: es) Γ (Asks μ S Q)) (hdb : (x == ("__debug__" : Str)) = false := by decide)
    (he : starEach (e :: es) X.env = (false, eval e X.env) :: starEach es X.env := by rfl) (hpl : (backTo pos (starEach es X.env)).any (·.1) = false := by rfl) : XE X μ (.Call (.Name x p) (e :: es) [] pos) Γ Q := by
  obtain ⟨f, fd, h1, h2, F, b⟩ := C
  refine PE.imp pe_u fun σ H q ⟨R, k⟩ => ⟨_, pe_callG (E := wD X.K μ σ) F hr gd hg h1 h2 b h hdb he hpl, R, fun vs H1 ds Γ1 s1 f1 R1 r1 hs => ?_⟩
  exact asks_sp R1 r1 hs fun v H2 d Γ2 s2 f2 R2 r2 hq => k v H2 d Γ2 (s2.trans s1) (f1.trans f2) R2 r2 hq
/-- pure promises, promises with the jar -/
abbrev PSp := List D → (D → Prop) → Prop
def pS (S : PSp) : SpD := fun ds c Q _ => c = [] ∧ S ds fun d => Q d []
def jS (S : PSp) : SpD := fun ds c Q _ => ∃ J ds', ds = .ref J :: ds' ∧ c = [(J, .jar)] ∧ S ds' fun d => Q d [(J, .jar)]
theorem asks_p {S : PSp} {ds : List D} (h : ∀ Qc : D → Prop, (∀ d, Q d Γ → Qc d) → S ds Qc) : Asks μ (pS S) Q ds Γ := ⟨[], Γ.c, rfl, fun Qc Ec kq _ => ⟨rfl, h _ fun d hq => kq d [] hq⟩⟩
theorem asks_j {S : PSp} {J : Addr} {cs : Cs} {ds : List D} (hc : Γ.c = (J, .jar) :: cs) (h : ∀ Qc : D → Prop, (∀ d, Q d Γ → Qc d) → S ds Qc) : Asks μ (jS S) Q (.ref J :: ds) Γ := by
  refine ⟨[(J, .jar)], cs, hc, fun Qc Ec kq _ => ⟨J, ds, rfl, rfl, h _ fun d hq => kq d _ ?_⟩⟩
  obtain ⟨sl, c⟩ := Γ
  have hc : c = (J, .jar) :: cs := hc
  subst hc
  exact hq
end
end Pdl
namespace Pdl
open PySem PySem.Spec L2 PyProof.Rows PySem.W
theorem RpA.mem {K : PySem.W.Frag} {G : Hp} : ∀ {vs : List V} {ds : List D}, RpA K G vs ds → ∀ p ∈ vs.zip ds, Rp K G p.1 p.2
  | _, _, .nil => fun p hp => nomatch hp
  | _, _, .cons h t => fun p hp => by
    rcases List.mem_cons.mp hp with z | z
    · rw [z]; exact h
    · exact RpA.mem t p z
end Pdl
namespace Pdl
open PySem PySem.Spec L2 PyProof.Rows PySem.W
def leL (a b : List Nat) : Bool := decide (a ≤ b)
theorem leL_trans (a b c : List Nat) (h1 : leL a b = true) (h2 : leL b c = true) : leL a c = true := by
  simp only [leL, decide_eq_true_eq] at *
  exact List.le_trans h1 h2
theorem leL_total (a b : List Nat) : (leL a b || leL b a) = true := by
  simp only [leL, Bool.or_eq_true, decide_eq_true_eq]
  exact List.le_total a b
theorem leL_anti {a b : List Nat} (h1 : leL a b = true) (h2 : leL b a = true) : a = b := by
  simp only [leL, decide_eq_true_eq] at *
  exact List.le_antisymm h1 h2
def srt (ls : List (List Nat)) : List (List Nat) := ls.mergeSort leL
theorem srt_perm (ls : List (List Nat)) : (srt ls).Perm ls := List.mergeSort_perm _ _
theorem srt_sorted (ls : List (List Nat)) : (srt ls).Pairwise (fun a b => leL a b = true) := List.pairwise_mergeSort leL_trans leL_total ls
theorem sorted_eq {l m : List (List Nat)} (h1 : l.Pairwise (fun a b => leL a b = true)) (h2 : m.Pairwise (fun a b => leL a b = true)) (p : l.Perm m) : l = m :=
  List.Perm.eq_of_pairwise (fun a b _ _ x y => leL_anti x y) h1 h2 p
theorem srt_eq {l m : List (List Nat)} (h1 : m.Pairwise (fun a b => leL a b = true)) (p : m.Perm l) : srt l = m := sorted_eq (srt_sorted l) h1 ((srt_perm l).trans p.symm)
theorem nodup_ed {α : Type} [BEq α] [LawfulBEq α] : ∀ (n : Nat) (l : List α), l.length ≤ n → l.eraseDups.Nodup
  | _, [], _ => by simp
  | 0, a :: l, h => by simp at h
  | n + 1, a :: l, h => by
    rw [List.eraseDups_cons, List.nodup_cons]
    refine ⟨fun hm => ?_, nodup_ed n _ (Nat.le_trans (List.length_filter_le _ _) (by simpa using h))⟩
    rw [List.mem_eraseDups, List.mem_filter] at hm
    simp at hm
theorem ed_nodup {α : Type} [BEq α] [LawfulBEq α] (l : List α) : l.eraseDups.Nodup := nodup_ed l.length l (Nat.le_refl _)
end Pdl
namespace Pdl
open PySem PySem.Spec L2 PyProof.Rows PySem.W
section
variable {P : Program} {w : World} {A : Around} {E : Value → Shared → Prop} {s : Shared}
theorem rcLt_str {x y : Str} {t u : Tok} {Q : Value → Shared → Prop} (h : Q (.bool (decide (x.cps.toList < y.cps.toList))) s) : wpAny (model P w) A (richCompare .Lt (.str x t) (.str y u)) Q E s :=
  richCompare_gives (op := .Lt) (typeIs_str s _ t) (typeIs_str s _ u) PySem.F.slot_str_lt PySem.F.entry_str_lt (PySem.F.args_str_lt_2 _ _) (gives_str_lt _ _ t u) (fun x => nomatch x) h
theorem rcGt_str {x y : Str} {t u : Tok} {Q : Value → Shared → Prop} (h : Q (.bool (decide (y.cps.toList < x.cps.toList))) s) : wpAny (model P w) A (richCompare .Gt (.str x t) (.str y u)) Q E s :=
  richCompare_gives (op := .Gt) (typeIs_str s _ t) (typeIs_str s _ u) PySem.F.slot_str_gt PySem.F.entry_str_gt (PySem.F.args_str_gt_2 _ _) (gives_str_gt _ _ t u) (fun x => nomatch x) h
theorem best1 (bt : Nat → Nat → Bool) : argBest bt 1 = if bt 1 0 then 1 else 0 := rfl
theorem two_texts {op : CmpOp} {fn : String} {x y : Str} {t u : Tok} {bt : Nat → Nat → Bool} {Q : Value → Shared → Prop} (hh : A.handled = none)
    (hcall : (wpAny (model P w) A.in1 (pyIter (.ref s.heap.objs.size)) (fun it s₂ => ∃ I fp wr n Pv St bt, it = .ref I ∧ Walks P w A.in1 I fp wr n Pv St ∧ St 0 s₂.heap ∧ (∀ b ∈ fp, b < s₂.heap.objs.size) ∧ 0 < n ∧ CmpOf P w A.in1 op Pv bt ∧
      ∀ v h' tk, Pv (argBest bt (n - 1)) v → (∀ b o, b ∉ wr → s₂.heap.get? b = some o → h'.get? b = some o) → Q v { s₂ with heap := h', toks := tk }) E
      { s with heap := s.heap.push { cls := .type "tuple", data := .seq #[.str x t, .str y u] } }) → wpAny (model P w) A (call (.builtin fn) [.str x t, .str y u]) Q E s)
    (hcmp : CmpOf P w A.in1 op (fun i v => #[Value.str x t, Value.str y u][i]? = some v) bt)
    (h : ∀ h' tk, (∀ c o, s.heap.get? c = some o → h'.get? c = some o) → Q (if bt 1 0 then .str y u else .str x t) { s with heap := h', toks := tk }) :
    wpAny (model P w) A (call (.builtin fn) [.str x t, .str y u]) Q E s := by
  have hT : (s.heap.push { cls := .type "tuple", data := .seq #[.str x t, .str y u] }).IsTuple s.heap.objs.size #[.str x t, .str y u] := ⟨_, Heap.get?_push_size _ rfl, rfl, 0, rfl⟩
  refine hcall (wpAny_pyIter_tuple hT ?_)
  have hsz : (s.heap.push { cls := .type "tuple", data := .seq #[.str x t, .str y u] }).objs.size = s.heap.objs.size + 1 := Heap.size_push ..
  refine ⟨_, [_, s.heap.objs.size], [_], _, _, _, bt, rfl, Walks.tuple (A := A.in1) hh _ s.heap.objs.size (by rw [hsz]; exact Nat.ne_of_lt (Nat.lt_succ_self _)) #[.str x t, .str y u],
    ⟨⟨_, Heap.get?_push_size _ rfl, rfl, rfl⟩, hT.push _⟩, fun c hc => ?_, (by show 0 < 2; decide), hcmp, fun v h' tk hP hk => ?_⟩
  · show c < ((s.heap.push _).push _).objs.size
    rw [Heap.size_push, hsz]
    rcases List.mem_cons.mp hc with rfl | hc
    · rw [hsz]; exact Nat.lt_succ_self _
    · rcases List.mem_cons.mp hc with rfl | hc
      · exact Nat.lt_succ_of_lt (Nat.lt_succ_self _)
      · cases hc
  · have hold : ∀ c o, s.heap.get? c = some o → h'.get? c = some o := fun c o e => by
      refine hk c o (fun hm => ?_) (Heap.get?_push_of_some _ (Heap.get?_push_of_some _ e))
      rcases List.mem_cons.mp hm with e1 | hm
      · have := Heap.lt_size e; rw [e1, hsz] at this; exact Nat.lt_irrefl _ (Nat.lt_of_succ_lt this)
      · cases hm
    have hv : v = if bt 1 0 then Value.str y u else Value.str x t := by
      have hP' : #[Value.str x t, Value.str y u][argBest bt 1]? = some v := hP
      rw [best1] at hP'
      cases e : bt 1 0 with
      | true => rw [e] at hP'; exact (Option.some.inj hP').symm
      | false => rw [e] at hP'; exact (Option.some.inj hP').symm
    rw [hv]
    exact h h' tk hold
def txtAt (x y : Str) (i : Nat) : List Nat := if i = 0 then x.cps.toList else y.cps.toList
theorem txt_at {x y : Str} {t u : Tok} {i : Nat} {v : Value} (h : #[Value.str x t, Value.str y u][i]? = some v) : ∃ z k, v = .str z k ∧ z.cps.toList = txtAt x y i := by
  match i, h with
  | 0, h => exact ⟨x, t, (Option.some.inj h).symm, rfl⟩
  | 1, h => exact ⟨y, u, (Option.some.inj h).symm, rfl⟩
  | i + 2, h => simp at h
theorem cmp_lt {x y : Str} {t u : Tok} : CmpOf P w A .Lt (fun i v => #[Value.str x t, Value.str y u][i]? = some v) (fun i j => decide (txtAt x y i < txtAt x y j)) := fun i j vi vj s Q E hi hj h => by
  obtain ⟨z, k, rfl, ez⟩ := txt_at hi
  obtain ⟨z', k', rfl, ez'⟩ := txt_at hj
  exact rcLt_str (by rw [ez, ez']; exact h)
theorem cmp_gt {x y : Str} {t u : Tok} : CmpOf P w A .Gt (fun i v => #[Value.str x t, Value.str y u][i]? = some v) (fun i j => decide (txtAt x y j < txtAt x y i)) := fun i j vi vj s Q E hi hj h => by
  obtain ⟨z, k, rfl, ez⟩ := txt_at hi
  obtain ⟨z', k', rfl, ez'⟩ := txt_at hj
  exact rcGt_str (by rw [ez, ez']; exact h)
end
section
variable {X : Cx}
theorem cd_min2S (hc : X.calm = true) {a b : List Nat} : CallD X (.builtin "min") [.str (S a), .str (S b)] (.str (S (if b < a then b else a))) := fun pins s σ H vs us q I rv ⟨m, hm, h1, k⟩ => by
  obtain ⟨v, v', rfl, r, r'⟩ := h1.two
  cases r; cases r'
  obtain ⟨u, u', rfl, ⟨t, rfl⟩, ⟨t', rfl⟩⟩ := vals2 rv
  refine two_texts (I.ok.hd hc) call_min_two cmp_lt fun h' tk hk => ⟨_, H, I.kept hk, ?_, k _ H (Sub.refl H) (.str _)⟩
  show RelV _ (if decide (b < a) = true then Value.str (S b) t' else Value.str (S a) t)
  by_cases h : b < a
  · rw [if_pos h, decide_eq_true h]; exact ⟨_, rfl⟩
  · rw [if_neg h, decide_eq_false h]; exact ⟨_, rfl⟩
theorem cd_max2S (hc : X.calm = true) {a b : List Nat} : CallD X (.builtin "max") [.str (S a), .str (S b)] (.str (S (if a < b then b else a))) := fun pins s σ H vs us q I rv ⟨m, hm, h1, k⟩ => by
  obtain ⟨v, v', rfl, r, r'⟩ := h1.two
  cases r; cases r'
  obtain ⟨u, u', rfl, ⟨t, rfl⟩, ⟨t', rfl⟩⟩ := vals2 rv
  refine two_texts (I.ok.hd hc) call_max_two cmp_gt fun h' tk hk => ⟨_, H, I.kept hk, ?_, k _ H (Sub.refl H) (.str _)⟩
  show RelV _ (if decide (a < b) = true then Value.str (S b) t' else Value.str (S a) t)
  by_cases h : a < b
  · rw [if_pos h, decide_eq_true h]; exact ⟨_, rfl⟩
  · rw [if_neg h, decide_eq_false h]; exact ⟨_, rfl⟩
end
end Pdl
namespace Pdl
open PySem L2 PyProof.Rows
/-- the same state, shown otherwise -/
def Conv (K : PySem.W.Frag) (μ : Md) (Γ Γ' : En) : Prop := ∀ H σ, Rel K μ H σ Γ → Rel K μ H σ Γ' ∧ Fw Γ.c Γ'.c H H
section
variable {X : Cx} {μ : Md} {Γ Γ' : En} {Q : QE} {a b c e o : Expr} {es : List Expr} {pos apos cpos : Pos} {P P' : Po} {st : Stmt} {sts : List Stmt} {m : Addr → Bool} {H : Hp} {K : PySem.W.Frag}
theorem xb_conv (cv : Conv X.K μ Γ Γ') (h : XB X μ sts Γ' P) : XB X μ sts Γ P := PSs.imp h fun D σ H ⟨R, k1, k2, k3, k4⟩ => by
  obtain ⟨R1, f1⟩ := cv H σ R
  exact ⟨R1, fun σ2 H2 Γ2 f2 R2 z => k1 σ2 H2 Γ2 (f1.trans f2) R2 z, fun v σ2 H2 d Γ2 f2 R2 r z => k2 v σ2 H2 d Γ2 (f1.trans f2) R2 r z, fun σ2 H2 Γ2 f2 R2 z => k3 σ2 H2 Γ2 (f1.trans f2) R2 z, fun σ2 H2 Γ2 f2 R2 z => k4 σ2 H2 Γ2 (f1.trans f2) R2 z⟩
/-- what is to hold behind: shown otherwise -/
theorem XB.post (h : XB X μ sts Γ P') (h1 : ∀ Γ1, P'.nx Γ1 → ∃ Γ2, Conv X.K μ Γ1 Γ2 ∧ P.nx Γ2)
    (h2 : ∀ d Γ1, P'.rt d Γ1 → ∃ Γ2, (∀ H σ v, Rel X.K μ H σ Γ1 → Rp X.K (Vw μ Γ1 H) v d → Rel X.K μ H σ Γ2 ∧ Fw Γ1.c Γ2.c H H ∧ Rp X.K (Vw μ Γ2 H) v d) ∧ P.rt d Γ2)
    (h3 : ∀ Γ1, P'.bk Γ1 → ∃ Γ2, Conv X.K μ Γ1 Γ2 ∧ P.bk Γ2) (h4 : ∀ Γ1, P'.ct Γ1 → ∃ Γ2, Conv X.K μ Γ1 Γ2 ∧ P.ct Γ2) : XB X μ sts Γ P := PSs.imp h fun D σ H ⟨R, k1, k2, k3, k4⟩ => by
  refine ⟨R, fun σ2 H2 Γ2 f2 R2 z => ?_, fun v σ2 H2 d Γ2 f2 R2 r z => ?_, fun σ2 H2 Γ2 f2 R2 z => ?_, fun σ2 H2 Γ2 f2 R2 z => ?_⟩
  · obtain ⟨Γ3, cv, q⟩ := h1 _ z
    obtain ⟨R3, f3⟩ := cv H2 σ2 R2
    exact k1 σ2 H2 Γ3 (f2.trans f3) R3 q
  · obtain ⟨Γ3, cv, q⟩ := h2 _ _ z
    obtain ⟨R3, f3, r3⟩ := cv H2 σ2 v R2 r
    exact k2 v σ2 H2 d Γ3 (f2.trans f3) R3 r3 q
  · obtain ⟨Γ3, cv, q⟩ := h3 _ z
    obtain ⟨R3, f3⟩ := cv H2 σ2 R2
    exact k3 σ2 H2 Γ3 (f2.trans f3) R3 q
  · obtain ⟨Γ3, cv, q⟩ := h4 _ z
    obtain ⟨R3, f3⟩ := cv H2 σ2 R2
    exact k4 σ2 H2 Γ3 (f2.trans f3) R3 q
theorem XB.imp (h : XB X μ sts Γ P') (h1 : ∀ Γ1, P'.nx Γ1 → P.nx Γ1) (h2 : ∀ d Γ1, P'.rt d Γ1 → P.rt d Γ1) (h3 : ∀ Γ1, P'.bk Γ1 → P.bk Γ1) (h4 : ∀ Γ1, P'.ct Γ1 → P.ct Γ1) : XB X μ sts Γ P :=
  h.post (fun Γ1 z => ⟨Γ1, fun H σ R => ⟨R, Fw.refl _ _⟩, h1 _ z⟩) (fun d Γ1 z => ⟨Γ1, fun H σ v R r => ⟨R, Fw.refl _ _, r⟩, h2 _ _ z⟩) (fun Γ1 z => ⟨Γ1, fun H σ R => ⟨R, Fw.refl _ _⟩, h3 _ z⟩) (fun Γ1 z => ⟨Γ1, fun H σ R => ⟨R, Fw.refl _ _⟩, h4 _ z⟩)
/-- another reading of a cell -/
theorem Rel.same {σ : L2.St} {s : List (Option D)} {c1 c2 : Cs} {p : Addr} {cl cl' : Cell} (R : Rel K μ H σ ⟨s, c1 ++ (p, cl) :: c2⟩)
    (h : CellRp K (hid (tot μ.m (c1 ++ (p, cl) :: c2)) H) (H p) cl') : Rel K μ H σ ⟨s, c1 ++ (p, cl') :: c2⟩ := by
  obtain ⟨u, hu⟩ := (cell_get R.co).some
  have e : upd H p u = H := by
    funext a
    by_cases ea : a = p
    · subst ea; rw [upd_same, hu]
    · rw [upd_ne ea]
  have z := (R.put (cl' := cl') (o := u) (by rw [hu] at h; exact h)).1
  rw [e] at z
  exact z
theorem fw_same {s : List (Option D)} {c1 c2 : Cs} {p : Addr} {cl cl' : Cell} : Fw (c1 ++ (p, cl) :: c2) (c1 ++ (p, cl') :: c2) H H := fun a o h e => ⟨e, by rw [inC_swap (cl' := cl)]; exact h⟩
/-- the jar, opened -/
theorem xb_open {s : List (Option D)} {c1 c2 : Cs} {p : Addr} (h : ∀ x y z : Int, 0 ≤ x → 0 ≤ y → 0 ≤ z → XB X μ sts ⟨s, c1 ++ (p, .lst [.int x, .int y, .int z]) :: c2⟩ P) : XB X μ sts ⟨s, c1 ++ (p, .jar) :: c2⟩ P := by
  refine ⟨fun pins s' σ H D I ⟨R, k⟩ => ?_⟩
  obtain ⟨x, y, z, ho, hx, hy, hz⟩ := cell_get R.co
  have R2 : Rel X.K μ H σ ⟨s, c1 ++ (p, .lst [.int x, .int y, .int z]) :: c2⟩ := R.same ⟨_, ho, .cons (.int _) (.cons (.int _) (.cons (.int _) .nil))⟩
  exact (h x y z hx hy hz).run pins s' σ H D I ⟨R2, fun σ2 H2 Γ2 f2 R2 q => k.1 σ2 H2 Γ2 ((fw_same (s := s)).trans f2) R2 q, fun v σ2 H2 d Γ2 f2 R2 r q => k.2.1 v σ2 H2 d Γ2 ((fw_same (s := s)).trans f2) R2 r q, fun σ2 H2 Γ2 f2 R2 q => k.2.2.1 σ2 H2 Γ2 ((fw_same (s := s)).trans f2) R2 q, fun σ2 H2 Γ2 f2 R2 q => k.2.2.2 σ2 H2 Γ2 ((fw_same (s := s)).trans f2) R2 q⟩
/-- .. and closed -/
theorem rel_close {σ : L2.St} {s : List (Option D)} {c1 c2 : Cs} {p : Addr} {x y z : Int} (hx : 0 ≤ x) (hy : 0 ≤ y) (hz : 0 ≤ z) (R : Rel K μ H σ ⟨s, c1 ++ (p, .lst [.int x, .int y, .int z]) :: c2⟩) : Rel K μ H σ ⟨s, c1 ++ (p, .jar) :: c2⟩ := by
  obtain ⟨vs, ho, r⟩ := cell_get R.co
  refine R.same ?_
  rw [show [D.int x, .int y, .int z] = [x, y, z].map D.int from rfl] at r
  rw [r.of_ints] at ho
  exact ⟨x, y, z, ho, hx, hy, hz⟩
/-- a cell becomes data -/
theorem Rel.freeze {σ : L2.St} {s : List (Option D)} {c1 c2 : Cs} {p : Addr} {cl : Cell} (R : Rel K μ H σ ⟨s, c1 ++ (p, cl) :: c2⟩) (h0 : inC μ.c0 p = true ∨ μ.H0 p = none ∨ True) : Rel K μ H σ ⟨s, c1 ++ c2⟩ ∧ Fw (c1 ++ (p, cl) :: c2) (c1 ++ c2) H H ∧ Sub (hid (tot μ.m (c1 ++ (p, cl) :: c2)) H) (hid (tot μ.m (c1 ++ c2)) H) := by
  have f : Fw (c1 ++ (p, cl) :: c2) (c1 ++ c2) H H := fun a o h e => by
    refine ⟨e, ?_⟩
    rw [inC_app, Bool.or_eq_false_iff] at h ⊢
    refine ⟨h.1, ?_⟩
    have := h.2
    simp only [inC, List.any_cons, Bool.or_eq_false_iff] at this
    exact this.2
  have nd := R.co.nd
  refine ⟨⟨⟨R.co.dom, ?_, fun q hq => ?_, fun q hq => ?_⟩, R.slots.mono f.sub, R.fw.trans f⟩, f, f.sub⟩
  · show ((c1 ++ c2).map (·.1)).Nodup
    rw [List.map_append, List.map_cons] at nd
    rw [List.map_append]
    exact nd.sublist ((List.Sublist.refl _).append (List.sublist_cons_self _ _))
  · refine R.co.off q ?_
    rcases List.mem_append.mp hq with h | h
    · exact List.mem_append_left _ h
    · exact List.mem_append_right _ (List.mem_cons_of_mem _ h)
  · refine (R.co.cells q ?_).mono f.sub
    rcases List.mem_append.mp hq with h | h
    · exact List.mem_append_left _ h
    · exact List.mem_append_right _ (List.mem_cons_of_mem _ h)
/-- what a cell shows when it is data -/
def Cell.d : Cell → Option D
  | .lst xs => some (.lst xs)
  | .dct xs => some (.dct xs)
  | .ins C fs => some (.ins C fs)
  | .dcT xs => some (.dcT xs)
  | .dcL xs => some (.dcL xs)
  | .tupx xs => some (.tupx xs)
  | .jar => none
  | .tbl _ => none
theorem frozen {σ : L2.St} {s : List (Option D)} {c1 c2 : Cs} {p : Addr} {cl : Cell} {d : D} (R : Rel K μ H σ ⟨s, c1 ++ (p, cl) :: c2⟩) (hd : cl.d = some d) : Rp K (hid (tot μ.m (c1 ++ c2)) H) (.ref p) d := by
  have nd := R.co.nd
  have np : tot μ.m (c1 ++ c2) p = false := by
    refine tot_false.mpr ⟨R.co.off (p, cl) (List.mem_append_right _ List.mem_cons_self), ?_⟩
    rw [List.map_append, List.map_cons, List.nodup_append, List.nodup_cons] at nd
    rw [inC_app, Bool.or_eq_false_iff]
    constructor
    · cases e : inC c1 p with
      | false => rfl
      | true =>
        obtain ⟨q, hq, eq⟩ := of_inC e
        exact absurd eq (nd.2.2 q.1 (List.mem_map_of_mem hq) p (by simp))
    · cases e : inC c2 p with
      | false => rfl
      | true =>
        obtain ⟨q, hq, eq⟩ := of_inC e
        refine absurd ?_ nd.2.1.1
        show p ∈ c2.map (·.1)
        rw [← eq]
        exact List.mem_map_of_mem hq
  have sb := (R.freeze (.inr (.inr trivial))).2.2
  have z := (cell_get R.co).mono sb
  cases cl with
  | jar => cases hd
  | tbl q => cases hd
  | lst xs =>
    cases hd
    obtain ⟨vs, ho, r⟩ := z
    exact .lst (.of (hid_some.mpr ⟨np, ho⟩)) r
  | dct xs =>
    cases hd
    obtain ⟨vs, ho, r⟩ := z
    exact .dct (hid_some.mpr ⟨np, ho⟩) r
  | ins C fs =>
    cases hd
    obtain ⟨dx, vs, ho, r⟩ := z
    exact .ins (hid_some.mpr ⟨np, ho⟩) r
  | dcT xs =>
    cases hd
    obtain ⟨vs, ho, r⟩ := z
    exact .dcT (hid_some.mpr ⟨np, ho⟩) r
  | dcL xs =>
    cases hd
    obtain ⟨ob, vs, ho, r⟩ := z
    exact .dcL (hid_some.mpr ⟨np, ho⟩) r
  | tupx xs =>
    cases hd
    obtain ⟨ob, vs, ho, _, _, r⟩ := z
    exact .tupx (.inl (.inr ⟨ob, hid_some.mpr ⟨np, ho⟩⟩)) r
theorem conv_freeze {i : Nat} {s : List (Option D)} {c1 c2 : Cs} {p : Addr} {cl : Cell} {d : D} (hi : s[i]? = some (some (.ref p))) (hd : cl.d = some d) : Conv K μ ⟨s, c1 ++ (p, cl) :: c2⟩ ⟨s.set i (some d), c1 ++ c2⟩ := fun H σ R => by
  obtain ⟨R2, f, sb⟩ := R.freeze (.inr (.inr trivial))
  refine ⟨?_, f⟩
  obtain ⟨v, hv, rv⟩ := R2.slots.2 i _ hi
  have e : v = .ref p := by cases rv; rfl
  subst e
  have z := R2.set i (frozen R hd)
  have eσ : σ.set i (some (V.ref p)) = σ := by
    obtain ⟨hl, hv⟩ := List.getElem?_eq_some_iff.mp hv
    rw [← hv]
    exact List.set_getElem_self hl
  rw [eσ] at z
  exact z
/-- a list, a dict of one's own becomes data -/
theorem xb_freeze {i : Nat} {s : List (Option D)} {c1 c2 : Cs} {p : Addr} {cl : Cell} {d : D} (hi : s[i]? = some (some (.ref p))) (hd : cl.d = some d) (h : XB X μ sts ⟨s.set i (some d), c1 ++ c2⟩ P) : XB X μ sts ⟨s, c1 ++ (p, cl) :: c2⟩ P := xb_conv (conv_freeze hi hd) h
def flat : D → Bool
  | .non => true
  | .bl _ => true
  | .int _ => true
  | .str _ => true
  | _ => false
theorem Rp.flat {G G' : Hp} {v : V} {d : D} (r : Rp K G v d) (h : flat d = true) : Rp K G' v d := by
  cases r with
  | non => exact .non
  | bl b => exact .bl b
  | int i => exact .int i
  | str x => exact .str x
  | _ => cases h
/-- the mode while a cell is lent: all others are hidden -/
abbrev lent (μ : Md) (cs : Cs) : Md := { m := tot μ.m cs, c0 := [], H0 := fun _ => none, E := fun _ _ => False }
theorem rel_lent {i : Nat} {σ : L2.St} {s : List (Option D)} {c1 c2 : Cs} {p : Addr} {cl : Cell} {d : D} (R : Rel K μ H σ ⟨s, c1 ++ (p, cl) :: c2⟩) (hi : s[i]? = some (some (.ref p))) (hd : cl.d = some d) : Rel K (lent μ (c1 ++ c2)) H σ ⟨s.set i (some d), []⟩ := by
  obtain ⟨R2, f⟩ := conv_freeze hi hd H σ R
  refine ⟨⟨fun a h => R2.domT a h, List.nodup_nil, fun p hp => (by cases hp), fun p hp => (by cases hp)⟩, ?_, fun a o h e => (by cases e)⟩
  have e : tot (tot μ.m (c1 ++ c2)) [] = tot μ.m (c1 ++ c2) := by
    funext a
    simp [tot, inC]
  show SlotRp K (hid (tot (tot μ.m (c1 ++ c2)) []) H) σ _
  rw [e]
  exact R2.slots
theorem fw_nil {H H' : Hp} (f : Fw [] [] H H') : Sub H H' := fun a o e => (f a o rfl e).1
theorem xe_lend {i : Nat} {s : List (Option D)} {c1 c2 : Cs} {p : Addr} {cl : Cell} {d : D} (hi : s[i]? = some (some (.ref p))) (hd : cl.d = some d)
    (h : XE X (lent μ (c1 ++ c2)) e ⟨s.set i (some d), []⟩ fun r Γ1 => Γ1.c = [] ∧ flat r = true ∧ Q r ⟨s, c1 ++ (p, cl) :: c2⟩) : XE X μ e ⟨s, c1 ++ (p, cl) :: c2⟩ Q :=
  PE.imp h fun σ H q ⟨R, k⟩ => ⟨rel_lent R hi hd, fun v H1 r Γ1 s1 f1 R1 r1 ⟨hc, hf, hq⟩ => by
    have f1 : Fw [] Γ1.c H H1 := f1
    rw [hc] at f1
    have e := fw_nil f1
    exact k v H1 r _ rfl (Fw.of_sub e) (R.more e) (r1.flat hf) hq⟩
theorem xt_lend {i : Nat} {s : List (Option D)} {c1 c2 : Cs} {p : Addr} {cl : Cell} {d : D} {Q : Bool → En → Prop} (hi : s[i]? = some (some (.ref p))) (hd : cl.d = some d)
    (h : XT X (lent μ (c1 ++ c2)) e ⟨s.set i (some d), []⟩ fun r Γ1 => Γ1.c = [] ∧ Q r ⟨s, c1 ++ (p, cl) :: c2⟩) : XT X μ e ⟨s, c1 ++ (p, cl) :: c2⟩ Q :=
  PT.imp h fun σ H q ⟨R, k⟩ => ⟨rel_lent R hi hd, fun H1 r Γ1 s1 f1 R1 ⟨hc, hq⟩ => by
    have f1 : Fw [] Γ1.c H H1 := f1
    rw [hc] at f1
    have e := fw_nil f1
    exact k H1 r _ rfl (Fw.of_sub e) (R.more e) hq⟩
/-- a new object: the list that e makes becomes a cell -/
theorem xe_own_lst (h : XA X μ es Γ fun xs Γ1 => xs.length ≤ 100000 ∧ ∀ p, Q (.ref p) ⟨Γ1.s, Γ1.c ++ [(p, .lst xs)]⟩) : XE X μ (.List es pos) Γ Q :=
  PE.imp (pe_lst h) fun σ H q ⟨R, k⟩ => ⟨R, fun vs H1 xs Γ1 s1 f1 R1 r1 ⟨hl, hq⟩ => ⟨by rw [r1.length]; exact Nat.le_trans hl (by decide), fun p hp => by
    obtain ⟨R2, f2⟩ := R1.newC (cl := .lst xs) (o := .lst vs) hp ⟨vs, rfl, r1⟩
    exact k _ _ (.ref p) ⟨Γ1.s, Γ1.c ++ [(p, .lst xs)]⟩ s1 (f1.trans f2) R2 (.ref p) (hq p)⟩⟩
end
end Pdl
namespace Pdl
open PySem L2 PyProof.Rows
section
variable {X : Cx} {μ : Md} {Γ Γ' : En} {Q : QE} {a b c e o : Expr} {es : List Expr} {pos apos cpos : Pos} {P P' : Po} {st : Stmt} {sts : List Stmt} {m : Addr → Bool} {H : Hp} {K : PySem.W.Frag} {x y d : D}
def rCatL (K : PySem.W.Frag) : R2 := fun x y H Q => ∃ l b xs zs, x = .ref l ∧ y = .ref b ∧ SqL K H l xs ∧ SqL K H b zs ∧ xs.length + zs.length ≤ sizeLine ∧ ∀ p, H p = none → Q (.ref p) (upd H p (.lst (xs ++ zs)))
theorem op_catL : OpR X (binaryOp .Add) (rCatL X.K) := by
  intro pins s σ H x y v u Q I rx ry h
  obtain ⟨l, b, xs, zs, rfl, rfl, hH, hB, hz, q⟩ := h
  cases rx
  cases ry
  obtain ⟨its, r, ⟨⟨cls, dd, data, sl⟩, n, ho, hc, hdd, hd⟩, hz1⟩ := I.list hH
  obtain ⟨its2, r2, ⟨⟨cls2, dd2, data2, sl2⟩, n2, ho2, hc2, hdd2, hd2⟩, hz2⟩ := I.list hB
  simp only at hc hd hc2 hd2
  subst hc hd hc2 hd2
  have l1 := r.length
  have l2 := r2.length
  refine concat_meets ⟨_, ho, rfl⟩ ⟨_, ho2, rfl⟩ noFill_list_add seq_list_add PySem.F.slot_list_add PySem.F.entry_list_add (PySem.F.args_list_add_2 _ _) (list_addW l b its.toArray its2.toArray n n2 dd dd2 sl sl2 (by simp only [List.size_toArray]; omega)) ⟨ho, ho2, ?_⟩
  have ea : its.toArray ++ its2.toArray = (its ++ its2).toArray := by simp
  rw [ea]
  exact ⟨.ref _, _, I.lnew (t' := s.toks) (r.append r2) (by rw [List.length_append]; omega), rfl, q _ I.fresh⟩
theorem od_catL {xs ys : List D} (hz : xs.length + ys.length ≤ 100000) : OpD X (binaryOp .Add) (.lst xs) (.lst ys) (.lst (xs ++ ys)) := .of op_catL fun a b H q m hm h1 h2 k => by
  cases h1 with
  | @lst a1 us1 _ s1 r1 =>
    cases h2 with
    | @lst a2 us2 _ s2 r2 =>
      refine ⟨_, _, _, _, rfl, rfl, (hid_sub m H).sqL s1, (hid_sub m H).sqL s2, by rw [r1.length, r2.length]; exact Nat.le_trans hz (by decide), fun p hp => ?_⟩
      have e := sub_upd (o := .lst (us1 ++ us2)) hp
      exact k _ _ e (.lst (.of (hid_upd (fresh_m hm hp))) ((r1.mono (sub_hid e)).app (r2.mono (sub_hid e))))
theorem inV_SL {l : List Nat} : ∀ {ls : List (List Nat)}, inV (.str (S l)) ((ls.map S).map V.str) = decide (l ∈ ls)
  | [] => by simp [inV]
  | k :: ls => by
    have ih := inV_SL (l := l) (ls := ls)
    unfold inV at ih ⊢
    rw [List.map_cons, List.map_cons, List.any_cons, ih]
    have e : eqV (.str (S k)) (.str (S l)) = decide (k = l) := by
      show (decide _ : Bool) = _
      simp [S_eq]
    rw [e]
    by_cases h : k = l
    · subst h; simp
    · have h' : ¬ l = k := fun z => h z.symm
      simp [h, h']
theorem flat_strs (ls : List Str) : (ls.map V.str).all flatV = true := by
  rw [List.all_eq_true]
  intro v hv
  obtain ⟨z, _, rfl⟩ := List.mem_map.mp hv
  rfl
theorem od_inL {l : List Nat} {ls : List (List Nat)} : OpD X (compareOp .In) (.str (S l)) (.lst (SL ls)) (.bl (decide (l ∈ ls))) := .of op_in_seq fun a b H q m hm h1 h2 k => by
  cases h1
  cases h2 with
  | lst s1 r1 =>
    rw [SL_strs] at r1
    rw [r1.of_strs] at s1
    refine ⟨_, _, rfl, .inl ((hid_sub m H).sqL s1), rfl, flat_strs _, ?_⟩
    rw [inV_SL]
    exact k _ H (Sub.refl H) (.bl _)
theorem od_notinL {l : List Nat} {ls : List (List Nat)} : OpD X (compareOp .NotIn) (.str (S l)) (.lst (SL ls)) (.bl (!decide (l ∈ ls))) := .of op_notIn_seq fun a b H q m hm h1 h2 k => by
  cases h1
  cases h2 with
  | lst s1 r1 =>
    rw [SL_strs] at r1
    rw [r1.of_strs] at s1
    refine ⟨_, _, rfl, .inl ((hid_sub m H).sqL s1), rfl, flat_strs _, ?_⟩
    rw [inV_SL]
    exact k _ H (Sub.refl H) (.bl _)
theorem od_inT {l : List Nat} {ls : List (List Nat)} : OpD X (compareOp .In) (.str (S l)) (.tup (SL ls)) (.bl (decide (l ∈ ls))) := .of op_in_seq fun a b H q m hm h1 h2 k => by
  cases h1
  cases h2 with
  | tup s1 r1 =>
    rw [SL_strs] at r1
    rw [r1.of_strs] at s1
    refine ⟨_, _, rfl, .inr ((hid_sub m H).sqT s1.sq), rfl, flat_strs _, ?_⟩
    rw [inV_SL]
    exact k _ H (Sub.refl H) (.bl _)
theorem od_notinT {l : List Nat} {ls : List (List Nat)} : OpD X (compareOp .NotIn) (.str (S l)) (.tup (SL ls)) (.bl (!decide (l ∈ ls))) := .of op_notIn_seq fun a b H q m hm h1 h2 k => by
  cases h1
  cases h2 with
  | tup s1 r1 =>
    rw [SL_strs] at r1
    rw [r1.of_strs] at s1
    refine ⟨_, _, rfl, .inr ((hid_sub m H).sqT s1.sq), rfl, flat_strs _, ?_⟩
    rw [inV_SL]
    exact k _ H (Sub.refl H) (.bl _)
theorem xo_none {Q : Option Int → En → Prop} (h : Q none Γ) : XO X μ none Γ Q := PO.imp po_none fun σ H q ⟨R, k⟩ => k H none Γ rfl (Fw.refl _ _) R h
theorem xo_some {Q : Option Int → En → Prop} (h : XE X μ e Γ fun d Γ1 => ∃ i, d = .int i ∧ Q (some i) Γ1) : XO X μ (some e) Γ Q := PO.imp (po_some h) fun σ H q ⟨R, k⟩ => ⟨R, fun v H1 d Γ1 s1 f1 R1 r1 ⟨i, hd, hq⟩ => by
  subst hd
  cases r1
  exact ⟨i, rfl, k H1 (some i) Γ1 s1 f1 R1 hq⟩⟩
def SlD (X : Cx) (x : D) (lo hi : Option Int) (d : D) : Prop := SlR X fun a l u H q => l = lo ∧ u = hi ∧ ∃ m : Addr → Bool, (∀ a, m a = true → ∃ o, H a = some o ∧ nT o = true) ∧ Rp X.K (hid m H) a x ∧ ∀ v H', Sub H H' → Rp X.K (hid m H') v d → q v H'
def uSl (X : Cx) : V → Option Int → Option Int → Hp → VK → Prop := fun a l u H q => ∃ r, SlR X r ∧ r a l u H q
theorem sl_u : SlR X (uSl X) := fun pins s σ H x v vl vu lo hi sl Q I rx hs pl pu ⟨_, h, q⟩ => h pins s σ H x v vl vu lo hi sl Q I rx hs pl pu q
theorem SlD.of {lo hi : Option Int} {r : V → Option Int → Option Int → Hp → VK → Prop} (h : SlR X r) (i : ∀ a H q m, (∀ a, m a = true → ∃ o, H a = some o ∧ nT o = true) → Rp X.K (hid m H) a x → (∀ v H', Sub H H' → Rp X.K (hid m H') v d → q v H') → r a lo hi H q) : SlD X x lo hi d :=
  fun pins s σ H a v vl vu l u sl Q I rx hs pl pu ⟨e1, e2, m, hm, h1, k⟩ => by
    subst e1; subst e2
    exact h pins s σ H a v vl vu l u sl Q I rx hs pl pu (i a H Q m hm h1 k)
theorem xe_slice {lo hi : Option Expr} {p2 : Pos} (h : XE X μ e Γ fun x Γ1 => XO X μ lo Γ1 fun l Γ2 => XO X μ hi Γ2 fun u Γ3 => ∃ d, SlD X x l u d ∧ Q d Γ3) : XE X μ (.Subscript e (.Slice lo hi none p2) pos) Γ Q :=
  PE.imp (pe_slice sl_u h po_u po_u) fun σ H q ⟨R, k⟩ => ⟨R, fun v H1 x Γ1 s1 f1 R1 r1 hl => ⟨_, hl, R1, fun H2 l Γ2 s2 f2 R2 hu => ⟨_, hu, R2, fun H3 u Γ3 s3 f3 R3 ⟨d, ho, hq⟩ => ⟨_, ho, rfl, rfl, tot μ.m Γ3.c, R3.domT, r1.mono (f2.trans f3).sub, fun z H4 e4 r4 => k z H4 d Γ3 ((s3.trans s2).trans s1) (((f1.trans f2).trans f3).trans (Fw.of_sub e4)) (R3.more e4) r4 hq⟩⟩⟩⟩
def cutD {α : Type} (xs : List α) (lo hi : Option Int) : List α := (xs.drop (HT.sIx xs.length 0 lo)).take (HT.sIx xs.length xs.length hi - HT.sIx xs.length 0 lo)
theorem cutD_to {α : Type} (xs : List α) (k : Nat) : cutD xs none (some (k : Int)) = xs.take k := by
  unfold cutD
  rw [HT.sIx_nat, HT.sIx_none, List.drop_zero, Nat.sub_zero]
  rcases Nat.le_total k xs.length with h | h
  · rw [Nat.min_eq_left h]
  · rw [Nat.min_eq_right h, List.take_of_length_le h, List.take_length]
theorem RpA.cut {G : Hp} {vs : List V} {ds : List D} {lo hi : Option Int} (r : RpA K G vs ds) : RpA K G (cutV vs lo hi) (cutD ds lo hi) := by
  unfold cutV cutD
  rw [r.length]
  exact (r.drop _).take _
theorem sd_lst {xs : List D} {lo hi : Option Int} : SlD X (.lst xs) lo hi (.lst (cutD xs lo hi)) := .of sl_list fun a H q m hm h1 k => by
  cases h1 with
  | @lst a1 us _ s2 r2 =>
    exact ⟨_, _, rfl, (hid_sub m H).sqL s2, fun p hp => k _ _ (sub_upd hp) (.lst (.of (hid_upd (fresh_m hm hp))) (r2.cut.mono (sub_hid (sub_upd hp))))⟩
theorem sd_tup {xs : List D} {lo hi : Option Int} : SlD X (.tup xs) lo hi (.tup (cutD xs lo hi)) := .of sl_tupA fun a H q m hm h1 k => by
  cases h1 with
  | @tup a1 us _ s2 r2 =>
    refine ⟨_, _, rfl, (hid_sub m H).sqT s2.sq, fun hw => ?_, fun _ p hp => k _ _ (sub_upd hp) (.tup (.of (hid_upd (fresh_m hm hp))) (r2.cut.mono (sub_hid (sub_upd hp))))⟩
    have e : cutD xs lo hi = xs := by
      unfold cutD
      rw [r2.length] at hw
      rw [hw.1, hw.2, List.drop_zero, Nat.sub_zero, List.take_length]
    rw [e] at k
    exact k _ H (Sub.refl H) (.tup s2 r2)
theorem rev_pick (l : List Nat) : ((Builtin.Str.strSliceIndices none none (-1) l.length).filterMap (l.toArray[·]?)) = l.reverse := by
  have e : Builtin.Str.strSliceIndices none none (-1) l.length = sliceRange ((l.length : Int) - 1) (-1) (-1) := by
    unfold Builtin.Str.strSliceIndices
    simp
  rw [e, PySem.W.krv_sliceRange, PySem.W.krv_range, List.filterMap_reverse]
  congr 1
  have h := PySem.W.krv_all l.toArray
  simpa using h
def tRevS (te : TE) : TE := fun σ H Q => te σ H fun x H1 => ∃ l : List Nat, x = .str (S l) ∧ l.length ≤ sizeLine ∧ Q (.str (S l.reverse)) H1
theorem pe_revS {te : TE} {k : Nat} {p1 p2 p3 : Pos} (he : PE X e te) : PE X (.Subscript e (.Slice none none (some (.UnaryOp .USub (.Constant (.int 1) k p1) p2)) p3) pos) (tRevS te) := by
  refine ⟨fun pins s σ H Q I h => ?_⟩
  refine Subscript_ (thn (he.run pins s σ H _ I h) fun v s1 ⟨x, H1, I1, r1, q1⟩ => ?_)
  obtain ⟨l, ex, hz, q⟩ := q1
  subst ex
  obtain ⟨t, rfl⟩ := r1
  have hst : PO X (some (.UnaryOp .USub (.Constant (.int 1) k p1) p2)) (tPart (tUn (rU fun i => .int (-i)) (tC (.int 1)))) := po_some (pe_un un_neg pe_int)
  refine wpAny_Slice (thn (po_none.run pins s1 σ H1 (fun o H2 => o = none ∧ H2 = H1) I1 ⟨rfl, rfl⟩) fun vl s2 ⟨l0, H2, I2, pl, el, e2⟩ => ?_)
  subst el e2
  refine thn (po_none.run pins s2 σ H2 (fun o H3 => o = none ∧ H3 = H2) I2 ⟨rfl, rfl⟩) fun vu s3 ⟨u, H3, I3, pu, eu, e3⟩ => ?_
  subst eu e3
  refine thn (hst.run pins s3 σ H3 (fun o H4 => o = some (-1) ∧ H4 = H3) I3 ⟨1, rfl, -1, rfl, rfl, rfl⟩) fun vs s4 ⟨o, H4, I4, ps, eo, e4⟩ => ?_
  subst eo e4
  have I5 : Inv X pins σ H4 { s4 with heap := s4.heap.push { cls := .type "slice", data := .fields #[vl, vu, vs] } } := I4.kept (t' := s4.toks) fun b ob q => Heap.get?_push_of_some _ q
  cases pl
  cases pu
  obtain ⟨sv, tk, rfl⟩ : ∃ sv : Unit, ∃ tk, vs = .int (-1) tk := by
    cases ps with
    | int i t => exact ⟨(), t, rfl⟩
  show wpAny (model X.prog X.w) X.A (subscriptTail e (.Slice none none (some (.UnaryOp .USub (.Constant (.int 1) k p1) p2)) p3) (.str (S l) t) (.ref s4.heap.objs.size)) (EP X pins σ Q) X.xe { s4 with heap := s4.heap.push { cls := .type "slice", data := .fields #[.none, .none, .int (-1) tk] } }
  refine tail_any (ops := [.ref s4.heap.objs.size, .str (S l) t]) (typeIs_str _ _ _) F.slot_str_getitem.lookup ?_ (by with_unfolding_all rfl)
  refine wpAny_getItem_str_slice (l := none) (u := none) (st := some (-1, tk)) ⟨_, Heap.get?_push_size _ rfl, rfl, rfl⟩ (by rfl) ?_
  have e : sliceMade (S l) t none none (some (-1, tk)) = Made.str (S l.reverse) := by
    unfold sliceMade slicePicked
    have h1 : (((some ((-1 : Int), tk)).map (·.1)).getD 1 == 1) = false := by rfl
    rw [h1, Bool.false_and, if_neg Bool.false_ne_true]
    show Made.str ⟨((Builtin.Str.strSliceIndices none none (-1) (S l).length).filterMap (l.toArray[·]?)).toArray⟩ = _
    rw [S_len, rev_pick]
    rfl
  rw [e]
  exact ⟨by rw [S_len, List.length_reverse]; exact hz, .str _, H4, I5.tok _, ⟨_, rfl⟩, q⟩
theorem xe_revS {k : Nat} {p1 p2 p3 : Pos} (h : XE X μ e Γ fun x Γ1 => ∃ l, x = .str (S l) ∧ l.length ≤ 100000 ∧ Q (.str (S l.reverse)) Γ1) : XE X μ (.Subscript e (.Slice none none (some (.UnaryOp .USub (.Constant (.int 1) k p1) p2)) p3) pos) Γ Q :=
  PE.imp (pe_revS h) fun σ H q ⟨R, k⟩ => ⟨R, fun v H1 x Γ1 s1 f1 R1 r1 ⟨l, hx, hl, hq⟩ => by
    subst hx
    cases r1
    exact ⟨l, rfl, Nat.le_trans hl (by decide), k _ H1 _ Γ1 s1 f1 R1 (.str _) hq⟩⟩
def idx (l : List Nat) (c : Nat) : Nat := l.findIdx fun x => x == c
theorem idx_at {l : List Nat} {c : Nat} (h : c ∈ l) : l[idx l c]? = some c := by
  have hl : idx l c < l.length := List.findIdx_lt_length_of_exists ⟨c, h, by simp⟩
  have := List.findIdx_getElem (xs := l) (p := fun x => x == c) (w := hl)
  rw [List.getElem?_eq_getElem hl]
  exact congrArg some (by simp at this; exact this)
structure OCls (K : PySem.W.Frag) (C : Addr) : Prop where
  c : Cls K C
  ha : PySem.W.findIn K (.ref C) "__class__" = some (some (.builtin "object.__class__"))
  hn : PySem.W.specialIn K (.builtin "object.__class__") "__get__" = some (some (.builtin "getset_descriptor.__get__"))
  htk : PySem.W.takesIn K (.builtin "object.__class__") = some true
  hm : PySem.W.mroIn K C (.type "object") = some true
inductive TyD (K : PySem.W.Frag) : D → Value → Prop
  | non : TyD K .non (.type "NoneType")
  | bl {b : Bool} : TyD K (.bl b) (.type "bool")
  | int {i : Int} : TyD K (.int i) (.type "int")
  | str {z : Str} : TyD K (.str z) (.type "str")
  | lst {xs : List D} : TyD K (.lst xs) (.type "list")
  | tup {xs : List D} : TyD K (.tup xs) (.type "tuple")
  | tupx {xs : List D} : TyD K (.tupx xs) (.type "tuple")
  | dct {xs : List (Key × D)} : TyD K (.dct xs) (.type "dict")
  | ins {C : Addr} {fs : List (Str × D)} (o : OCls K C) : TyD K (.ins C fs) (.ref C)
theorem TyD.tyx {G : Hp} {v : V} {d : D} {t : Value} (h : TyD K d t) (r : Rp K G v d) : TyX K G v t := by
  cases h with
  | non => cases r; exact .base .non
  | bl => cases r; exact .base (.bl _)
  | int => cases r; exact .base (.int _)
  | str => cases r; exact .base (.str _)
  | lst =>
    cases r with
    | lst s r =>
      rcases s with (s | ⟨o, s⟩) | ⟨o, its, n, hk, hc, _⟩
      · exact .base (.lst s)
      · exact .base (.frz s)
      · exact .kList hk hc
  | tup =>
    cases r with
    | tup s r => exact .base (.tup s)
  | tupx =>
    cases r with
    | tupx s r =>
      rcases s with (s | ⟨o, s⟩) | ⟨o, its, n, hk, hc, _⟩
      · exact .base (.tup s)
      · exact .fTuple s
      · exact .kTuple hk hc
  | dct =>
    cases r with
    | dct s r => exact .base (.dK s)
  | ins o =>
    cases r with
    | ins s r => exact .base (.ins s o.c o.ha o.hn o.htk o.hm)
inductive ClD : D → Value → Prop
  | ty {n : String} : ClD (.ty n) (.type n)
  | own {C : Addr} : ClD (.ref C) (.ref C)
theorem cd_isi {t u : Value} {r : Bool} (hx : TyD X.K x t) (hc : ClD y u) (h : PySem.W.kitOne X.K t u = some r) : CallD X (.builtin "isinstance") [x, y] (.bl r) := .of call_isi fun vs H q m hm h1 k => by
  obtain ⟨v, w, rfl, r1, r2⟩ := h1.two
  refine ⟨v, w, t, u, r, rfl, ?_, hx.tyx (r1.mono (hid_sub m H)), h, k _ H (Sub.refl H) (.bl r)⟩
  cases hc <;> cases r2
  · exact .ty _
  · exact .own _
/-- the name of a built-in type -/
theorem xe_ty {xn : Str} {T : String} (hg : Gl X xn) (hm : X.mg xn = none) (hv : bootBuiltins xn = some (.type T)) (h : Q (.ty T) Γ) (hn : xn ≠ "__name__" := by decide) (hd : (xn == ("__debug__" : Str)) = false := by decide) : XE X μ (.Name xn pos) Γ Q :=
  PE.imp (pe_bltn (v := .ty T) hg hm hv rfl hn hd) fun σ H q ⟨R, k⟩ => k _ H _ Γ rfl (Fw.refl _ _) R (.ty T) h
theorem xg_ix {i : Nat} {xn : Str} {p : Addr} {np : Pos} {ix : Expr} {Q : En → Prop} (hN : X.N[i]? = some xn) (hv : Vis X.env.scope xn) (hx : Γ.s[i]? = some (some (.ref p)))
    (h : XE X μ ix Γ fun z Γ1 => ∃ c1 xs c2 k j, Γ1.c = c1 ++ (p, .lst xs) :: c2 ∧ z = .int k ∧ ixN xs.length k = some j ∧ Q ⟨Γ1.s, c1 ++ (p, .lst (xs.set j d)) :: c2⟩)
    (h1 : (xn == ("__debug__" : Str)) = false := by decide) (h2 : (xn == ("__classdict__" : Str)) = false := by decide)
    (ha : ∀ v, assign (.Subscript (.Name xn np) ix pos) X.env v = (do
      let ov ← holding [v] (eval (.Name xn np) X.env)
      let iv ← holding [v, ov] (eval ix X.env)
      standAt pos
      holding [v, ov, iv] (setItem ov iv v)
      release [v, ov, iv] []) := by intro _; rfl) : XG X μ (.Subscript (.Name xn np) ix pos) d Γ Q := by
  have hv' : XE X μ (.Name xn np) Γ fun x Γ1 => x = .ref p ∧ Γ1 = Γ := xe_var hN hv hx ⟨rfl, rfl⟩ h1 h2
  refine PG.imp (pg_sub hv' h set_list ha) fun v σ H q ⟨R, r, k⟩ => ?_
  refine ⟨R, fun w H1 x Γ1 s1 f1 R1 r1 ⟨hx, hG⟩ => ?_⟩
  subst hx; subst hG
  cases r1
  refine ⟨R1, fun z H2 d2 Γ2 s2 f2 R2 r2 ⟨c1, xs, c2, kk, j, ec, hz, hj, hq⟩ => ?_⟩
  obtain ⟨sl2, cc2⟩ := Γ2
  have ec : cc2 = c1 ++ (p, .lst xs) :: c2 := ec
  subst ec
  subst hz
  cases r2
  obtain ⟨us, hus, ru⟩ := cell_get R2.co
  have rd := r.mono ((f1.trans f2).sub (m := μ.m))
  obtain ⟨R3, f3⟩ := R2.put (cl' := .lst (xs.set j d)) (o := .lst (us.set j v)) ⟨_, rfl, ru.set rd j⟩
  exact ⟨p, us, kk, j, rfl, rfl, hus, by rw [ru.length]; exact hj, k _ _ ⟨sl2, c1 ++ (p, .lst (xs.set j d)) :: c2⟩ ((f1.trans f2).trans f3) R3 hq⟩
def putD (kvs : List (Key × D)) (k : Key) (v : D) : List (Key × D) :=
  if (kvs.any fun kv => decide (kv.1 = k)) = true then kvs.map (fun kv => if kv.1 = k then (kv.1, v) else kv) else kvs ++ [(k, v)]
theorem RpK.length {G : Hp} : ∀ {vs : List (Key × V)} {ds : List (Key × D)}, RpK K G vs ds → vs.length = ds.length
  | _, _, .nil => rfl
  | _, _, .cons _ r => by simp [RpK.length r]
theorem RpK.keys {G : Hp} : ∀ {vs : List (Key × V)} {ds : List (Key × D)}, RpK K G vs ds → vs.map (·.1) = ds.map (·.1)
  | _, _, .nil => rfl
  | _, _, .cons _ r => by simp [RpK.keys r]
theorem RpK.app {G : Hp} : ∀ {vs us : List (Key × V)} {ds es : List (Key × D)}, RpK K G vs ds → RpK K G us es → RpK K G (vs ++ us) (ds ++ es)
  | _, _, _, _, .nil, r => r
  | _, _, _, _, .cons h t, r => .cons h (RpK.app t r)
theorem RpK.put {G : Hp} {vs : List (Key × V)} {ds : List (Key × D)} {kk : Key} {v : V} (r : RpK K G vs ds) (rv : Rp K G v d) : RpK K G (putK vs kk v) (putD ds kk d) := by
  have ea : (vs.any fun kv => decide (kv.1 = kk)) = (ds.any fun kv => decide (kv.1 = kk)) := by
    have h1 : (vs.any fun kv => decide (kv.1 = kk)) = (vs.map (·.1)).any fun z => decide (z = kk) := by rw [List.any_map]; rfl
    have h2 : (ds.any fun kv => decide (kv.1 = kk)) = (ds.map (·.1)).any fun z => decide (z = kk) := by rw [List.any_map]; rfl
    rw [h1, h2, r.keys]
  unfold putK putD
  rw [ea]
  split
  · clear ea
    have go : ∀ {vs : List (Key × V)} {ds : List (Key × D)}, RpK K G vs ds → RpK K G (vs.map (fun kv => if kv.1 = kk then (kv.1, v) else kv)) (ds.map (fun kv => if kv.1 = kk then (kv.1, d) else kv)) := by
      intro vs ds r
      induction vs generalizing ds with
      | nil => cases r; exact .nil
      | cons x vs ih =>
        cases r with
        | @cons k0 v0 d0 _ _ h t =>
          rw [List.map_cons, List.map_cons]
          by_cases hk : k0 = kk
          · simp only [hk, if_true]
            exact .cons rv (ih t)
          · simp only [hk, if_false]
            exact .cons h (ih t)
    exact go r
  · exact r.app (.cons rv .nil)
def kD : Key → D
  | .inl i => .int i
  | .inr x => .str x
theorem cd_len_dct {xs : List (Key × D)} : CallD X (.builtin "len") [.dct xs] (.int xs.length) := .of call_lenD fun vs H q m hm h1 k => by
  obtain ⟨v, rfl, r⟩ := h1.one
  cases r with
  | dct s1 r1 => exact ⟨_, _, rfl, hid_sub m H _ _ s1, by rw [r1.length]; exact k _ H (Sub.refl H) (.int _)⟩
end
end Pdl
namespace Pdl
open PySem L2 PyProof.Rows
section
variable {X : Cx} {μ : Md} {Γ Γ' : En} {Q : QE} {a b c e o : Expr} {es : List Expr} {pos apos cpos : Pos} {P P' : Po} {st : Stmt} {sts : List Stmt} {m : Addr → Bool} {H : Hp} {K : PySem.W.Frag} {x y d : D}
def putFD (f : Str) (v : D) : List (Str × D) → List (Str × D)
  | [] => [(f, v)]
  | (g, x) :: r => if g = f then (g, v) :: r else (g, x) :: putFD f v r
theorem RpF.put {G : Hp} {f : Str} {v : V} (rv : Rp K G v d) : ∀ {fs : List (Str × V)} {ds : List (Str × D)}, RpF K G fs ds → RpF K G (putF f v fs) (putFD f d ds)
  | _, _, .nil => .cons rv .nil
  | _, _, .cons (k := k) h t => by
    unfold putF putFD
    by_cases hk : k = f
    · simp only [hk, if_true]
      exact .cons rv t
    · simp only [hk, if_false]
      exact .cons h (RpF.put rv t)
/-- o.f -/
theorem xe_fld {f : Str} (h : XE X μ o Γ fun z Γ1 => ∃ C fs d, z = .ins C fs ∧ Cls X.K C ∧ NoAttr X.K C f ∧ fs.lookup f = some d ∧ Q d Γ1) (hb : attributeBase o f X.env (eval o X.env) = eval o X.env := by rfl) : XE X μ (.Attribute o f pos) Γ Q :=
  PE.imp (pe_fld h hb) fun σ H q ⟨R, k⟩ => ⟨R, fun v H1 z Γ1 s1 f1 R1 r1 ⟨C, fs, d, hz, cl, na, hl, hq⟩ => by
    subst hz
    cases r1 with
    | ins g1 g2 =>
      obtain ⟨u, hu, ru⟩ := (RpF.lookup g2).1 d hl
      exact ⟨_, C, _, _, u, rfl, hid_sub _ _ _ _ g1, cl, na, hu, k u H1 d Γ1 s1 f1 R1 ru hq⟩⟩
/-- a property -/
def PropD (P : Program) (w : World) (K : PySem.W.Frag) (mg : Str → Option Value) (base : Heap) (C : Addr) (f : Str) (k : Nat) (S : SpD) : Prop :=
  ∃ (p g : Addr) (fd : FuncData) (ps : List Str), Cls K C ∧ PropOf K C f p g ∧ FnOk P w K mg base CX0 k g fd ps (spD K S) ∧ Binds K fd ps []
theorem xe_prop {k : Nat} {C : Addr} {f : Str} {S : SpD} (M : PropD X.prog X.w X.K X.mg X.base C f k S) (hr : Room (k + 1) X.A) (h : XE X μ o Γ fun z Γ1 => ∃ fs, z = .ins C fs ∧ Asks μ S Q [.ins C fs] Γ1)
    (hb : attributeBase o f X.env (eval o X.env) = eval o X.env := by rfl) : XE X μ (.Attribute o f pos) Γ Q := by
  obtain ⟨p, g, fd, ps, cl, pr, F, bd⟩ := M
  refine PE.imp pe_u fun σ H q ⟨R, k⟩ => ⟨_, pe_prop (E := wD X.K μ σ) h cl pr F hr bd .nil pass0' hb, R, fun v H1 z Γ1 s1 f1 R1 r1 ⟨fs, hz, hs⟩ => ?_⟩
  subst hz
  cases r1 with
  | @ins a _ dx fv _ g1 g2 =>
    refine ⟨a, dx, fv, rfl, hid_sub _ _ _ _ g1, ?_⟩
    exact asks_sp R1 (.cons (.ins g1 g2) .nil) hs fun v H2 d Γ2 s2 f2 R2 r2 hq => k v H2 d Γ2 (s2.trans s1) (f1.trans f2) R2 r2 hq
/-- a method -/
def MethD (P : Program) (w : World) (K : PySem.W.Frag) (mg : Str → Option Value) (base : Heap) (C : Addr) (f : Str) (k : Nat) (S : SpD) : Prop :=
  ∃ (g : Addr) (fd : FuncData) (ps : List Str), Cls K C ∧ Meth K C f g ∧ FnOk P w K mg base CX0 k g fd ps (spD K S) ∧ Binds K fd ps []
theorem xe_meth {pl : Sem Bool} {k : Nat} {C : Addr} {f : Str} {S : SpD} (M : MethD X.prog X.w X.K X.mg X.base C f k S) (hr : Room k X.A) (h : XE X μ o Γ fun z Γ1 => ∃ fs, z = .ins C fs ∧ fs.lookup f = none ∧ XA X μ (e :: es) Γ1 fun ds Γ2 => Asks μ S Q (.ins C fs :: ds) Γ2)
    (hst : starEach (e :: es) X.env = (false, eval e X.env) :: starEach es X.env := by rfl) (hpl : (backTo pos (starEach es X.env)).any (·.1) = false := by rfl)
    (ht : eval (.Call (.Attribute o f apos) (e :: es) [] pos) X.env = (do
      let ov ← eval o X.env
      standAt apos.atName
      let (f, first) ← holding [ov] (getMethod ov f pl)
      callWith pos f first (backTo pos (starEach (e :: es) X.env)) (backToKw pos (keywordEach [] X.env))) := by rfl) : XE X μ (.Call (.Attribute o f apos) (e :: es) [] pos) Γ Q := by
  obtain ⟨g, fd, ps, cl, mt, F, bd⟩ := M
  refine PE.imp pe_u fun σ H q ⟨R, k⟩ => ⟨_, pe_meth (E := wD X.K μ σ) h cl mt F hr bd .nil pass0' pa_u hst hpl ht, R, fun v H1 z Γ1 s1 f1 R1 r1 ⟨fs, hz, hl, hs⟩ => ?_⟩
  subst hz
  cases r1 with
  | @ins a _ dx fv _ g1 g2 =>
    refine ⟨a, dx, fv, rfl, hid_sub _ _ _ _ g1, (RpF.lookup g2).2 hl, _, hs, R1, fun vs H2 ds Γ2 s2 f2 R2 r2 ha => ?_⟩
    show spD X.K S (.ref a :: (vs ++ [])) H2 q (wD X.K μ σ)
    rw [List.append_nil]
    exact asks_sp R2 (.cons ((Rp.ins g1 g2).mono f2.sub) r2) ha fun v H3 d Γ3 s3 f3 R3 r3 hq => k v H3 d Γ3 ((s3.trans s2).trans s1) ((f1.trans f2).trans f3) R3 r3 hq
abbrev ISp := List D → (List (Str × D) → Prop) → Prop
def iS (C : Addr) (S : ISp) : SpD := fun ds c Q _ => ∃ x ds', ds = .ref x :: ds' ∧ c = [(x, .ins C [])] ∧ S ds' fun fs => Q .non [(x, .ins C fs)]
def MkD (P : Program) (w : World) (K : PySem.W.Frag) (mg : Str → Option Value) (base : Heap) (x : Str) (C : Addr) (k : Nat) (S : ISp) : Prop :=
  ∃ (f : Addr) (fd : FuncData) (ps : List Str), mg x = some (.ref C) ∧ Mk K C f ∧ FnOk P w K mg base CX0 k f fd ps (spD K (iS C S)) ∧ Binds K fd ps []
/-- a new object, in front of the cells -/
theorem Rel.newF {σ : L2.St} {s : List (Option D)} {cs : Cs} {p dx C : Addr} (R : Rel K μ H σ ⟨s, cs⟩) (hp : H p = none) (hdx : H dx = none) (hne : dx ≠ p) : Rel K μ (upd (upd H dx (.own p)) p (.ins C dx [])) σ ⟨s, (p, .ins C []) :: cs⟩ ∧
    Fw cs ((p, .ins C []) :: cs) H (upd (upd H dx (.own p)) p (.ins C dx [])) := by
  have e1 : Sub H (upd H dx (.own p)) := sub_upd hdx
  have hp1 : upd H dx (.own p) p = none := by rw [upd_ne (Ne.symm hne)]; exact hp
  have R1 := R.more e1
  obtain ⟨R2, f2⟩ := R1.newC (cl := .ins C []) (o := .ins C dx []) hp1 ⟨dx, [], rfl, .nil⟩
  have ti : ∀ a, inC (cs ++ [(p, Cell.ins C [])]) a = inC ((p, Cell.ins C []) :: cs) a := fun a => by
    rw [inC_app]
    simp only [inC, List.any_cons, List.any_nil, Bool.or_false]
    exact Bool.or_comm _ _
  have tt : tot μ.m (cs ++ [(p, Cell.ins C [])]) = tot μ.m ((p, Cell.ins C []) :: cs) := by
    funext a
    unfold tot
    rw [ti]
  refine ⟨⟨⟨R2.co.dom, ?_, fun q hq => R2.co.off q ?_, fun q hq => ?_⟩, ?_, ?_⟩, ?_⟩
  · have nd := R2.co.nd
    show (((p, Cell.ins C []) :: cs).map (·.1)).Nodup
    have pm : ((cs ++ [(p, Cell.ins C [])]).map (·.1)).Perm (((p, Cell.ins C []) :: cs).map (·.1)) := (List.perm_append_singleton _ _).map _
    exact pm.nodup_iff.mp nd
  · have hq : q ∈ (p, Cell.ins C []) :: cs := hq
    show q ∈ cs ++ [(p, Cell.ins C [])]
    rcases List.mem_cons.mp hq with h | h
    · rw [h]; simp
    · exact List.mem_append_left _ h
  · have := R2.co.cells q (by
      have hq : q ∈ (p, Cell.ins C []) :: cs := hq
      show q ∈ cs ++ [(p, Cell.ins C [])]
      rcases List.mem_cons.mp hq with h | h
      · rw [h]; simp
      · exact List.mem_append_left _ h)
    have this : CellRp K (hid (tot μ.m (cs ++ [(p, Cell.ins C [])])) _) _ q.2 := this
    rw [tt] at this
    exact this
  · have := R2.slots
    have this : SlotRp K (hid (tot μ.m (cs ++ [(p, Cell.ins C [])])) _) σ s := this
    rw [tt] at this
    exact this
  · intro a o h z
    obtain ⟨h1, h2⟩ := R2.fw a o h z
    exact ⟨h1, by rw [← ti]; exact h2⟩
  · intro a o h z
    obtain ⟨h1, h2⟩ := ((Fw.of_sub e1).trans f2) a o h z
    exact ⟨h1, by rw [← ti]; exact h2⟩
theorem xe_make {k : Nat} {xn : Str} {C : Addr} {S : ISp} {p : Pos} (M : MkD X.prog X.w X.K X.mg X.base xn C k S) (hr : Room (k + 1) X.A) (hg : Gl X xn) (h : XA X μ (e :: es) Γ fun ds Γ1 => ∀ Qc : List (Str × D) → Prop, (∀ fs, Q (.ins C fs) Γ1 → Qc fs) → S ds Qc)
    (hdb : (xn == ("__debug__" : Str)) = false := by decide) (he : starEach (e :: es) X.env = (false, eval e X.env) :: starEach es X.env := by rfl) (hpl : (backTo pos (starEach es X.env)).any (·.1) = false := by rfl) : XE X μ (.Call (.Name xn p) (e :: es) [] pos) Γ Q := by
  obtain ⟨f, fd, ps, hm, mk, F, bd⟩ := M
  refine PE.imp pe_u fun σ H q ⟨R, k⟩ => ⟨_, pe_make (E := wD X.K μ σ) mk F hr hg hm bd .nil pass0' h hdb he hpl, R, fun vs H1 ds Γ1 s1 f1 R1 r1 hs x dx hx hdx hne => ?_⟩
  show spD X.K (iS C S) (.ref x :: (vs ++ [])) _ _ (wD X.K μ σ)
  rw [List.append_nil]
  obtain ⟨sl, cs⟩ := Γ1
  obtain ⟨R2, f2⟩ := R1.newF (C := C) hx hdx hne
  refine asks_sp (Q := fun d Γ' => d = .non ∧ ∃ fs, Γ' = ⟨sl, (x, .ins C fs) :: cs⟩ ∧ Q (.ins C fs) ⟨sl, cs⟩) R2 (.cons (.ref x) (r1.mono f2.sub)) ?_ fun v H3 d Γ3 s3 f3 R3 r3 ⟨hd, fs, hG, hq⟩ => ?_
  · refine ⟨[(x, .ins C [])], cs, rfl, fun Qc Ec kq _ => ⟨x, ds, rfl, rfl, hs _ fun fs hq => kq _ _ ⟨rfl, fs, rfl, hq⟩⟩⟩
  · subst hd; subst hG
    cases r3
    obtain ⟨R4, f4, _⟩ := Rel.freeze (c1 := []) R3 (.inr (.inr trivial))
    exact ⟨rfl, k _ H3 _ ⟨sl, cs⟩ s1 (((f1.trans f2).trans f3).trans f4) R4 (frozen (c1 := []) R3 rfl) hq⟩
end
end Pdl
namespace Pdl
open PySem L2 PyProof.Rows
structure Wd where
  P : Program
  w : World
  K : PySem.W.Frag
  mg : Str → Option Value
  base : Heap
/-- built-in names that the module does not bind -/
structure Bl (mg : Str → Option Value) : Prop where
  len : mg "len" = none
  min : mg "min" = none
  max : mg "max" = none
  sorted : mg "sorted" = none
  set : mg "set" = none
  list : mg "list" = none
  tuple : mg "tuple" = none
  str : mg "str" = none
  int : mg "int" = none
  range : mg "range" = none
  abs : mg "abs" = none
  divmod : mg "divmod" = none
  any : mg "any" = none
  all : mg "all" = none
  isinstance : mg "isinstance" = none
/-- a def that may be called: its promise -/
def Ca (T : Wd) (x : Str) (k : Nat) (S : SpD) : Prop := ∃ ps, Cal T.P T.w T.K T.mg T.base x k ps S
abbrev Cp (T : Wd) (x : Str) (k : Nat) (S : PSp) : Prop := Ca T x k (pS S)
abbrev Cj (T : Wd) (x : Str) (k : Nat) (S : PSp) : Prop := Ca T x k (jS S)
abbrev Mk' (T : Wd) (x : Str) (C : Addr) (k : Nat) (S : ISp) : Prop := MkD T.P T.w T.K T.mg T.base x C k S
abbrev Pr (T : Wd) (C : Addr) (f : Str) (k : Nat) (S : PSp) : Prop := PropD T.P T.w T.K T.mg T.base C f k (pS S)
abbrev Me (T : Wd) (C : Addr) (f : Str) (k : Nat) (S : PSp) : Prop := MethD T.P T.w T.K T.mg T.base C f k (pS S)
abbrev De (T : Wd) (x : Str) (ps : List Str) (st : Stmt) : Prop := Def T.K T.mg x ps st
/-- the world of a def's body -/
abbrev wdX (X : Cx) : Wd := ⟨X.prog, X.w, X.K, X.mg, X.base⟩
abbrev cX (T : Wd) (N : List Str) (x : Str) (st : Stmt) (f : Addr) (cdv : Value) (A : Around) (outer : List Env) (s : Shared) (H : Hp) (E : XK) : Cx := bX T.P T.w T.K T.mg T.base N x st f cdv A outer s H E
section
variable {T : Wd}
theorem cp_of {x : Str} {st : Stmt} {N ps : List Str} {k : Nat} {S : PSp} (df : De T x ps st) (sc : FnScope N ps (defScope st)) (len : ∀ ds Q, S ds Q → ds.length = ps.length)
    (hbody : N.Nodup → ∀ (f : Addr) (cdv : Value) (A : Around) (outer : List Env) (s : Shared) (H : Hp) (E0 : XK), Room k (cX T N x st f cdv A outer s H E0).A →
      ∀ m ds (Q : D → Cs → Prop) E, S ds (fun d => Q d []) → XB (cX T N x st f cdv A outer s H E0) (mdOf m [] H E) (defBody st) ⟨startD N ds, []⟩ (poOf Q)) : Cp T x (k + 1) S :=
  ⟨ps, cal_of df sc (fun ds c Q E h => len ds _ h.2) fun f cdv A outer s H E0 hr m ds c Q E h => by
    obtain ⟨rfl, h⟩ := h
    exact hbody sc.nd f cdv A outer s H E0 hr m ds Q E h⟩
theorem cj_of {x : Str} {st : Stmt} {N ps : List Str} {k : Nat} {S : PSp} (df : De T x ps st) (sc : FnScope N ps (defScope st)) (len : ∀ ds Q, S ds Q → ds.length + 1 = ps.length)
    (hbody : N.Nodup → ∀ (f : Addr) (cdv : Value) (A : Around) (outer : List Env) (s : Shared) (H : Hp) (E0 : XK), Room k (cX T N x st f cdv A outer s H E0).A →
      ∀ m J ds (Q : D → Cs → Prop) E, S ds (fun d => Q d [(J, .jar)]) → XB (cX T N x st f cdv A outer s H E0) (mdOf m [(J, .jar)] H E) (defBody st) ⟨startD N (.ref J :: ds), [(J, .jar)]⟩ (poOf Q)) : Cj T x (k + 1) S :=
  ⟨ps, cal_of df sc (fun ds c Q E ⟨J, ds', h1, h2, h3⟩ => by rw [h1]; exact len ds' _ h3) fun f cdv A outer s H E0 hr m ds c Q E h => by
    obtain ⟨J, ds', rfl, rfl, h⟩ := h
    exact hbody sc.nd f cdv A outer s H E0 hr m J ds' Q E h⟩
end
section
variable {X : Cx} {μ : Md} {Γ : En} {Q : QE} {k n : Nat} {x : Str} {p pos apos : Pos} {e o : Expr} {es : List Expr}
/-- f(e, ..), pure -/
theorem xe_cp {S : PSp} (C : Cp (wdX X) x k S) (hr : Room n X.A) (hkn : k ≤ n) (hg : Gl X x) (h : XA X μ (e :: es) Γ fun ds Γ1 => ∀ Qc : D → Prop, (∀ d, Q d Γ1 → Qc d) → S ds Qc) (hdb : (x == ("__debug__" : Str)) = false := by decide)
    (he : starEach (e :: es) X.env = (false, eval e X.env) :: starEach es X.env := by rfl) (hpl : (backTo pos (starEach es X.env)).any (·.1) = false := by rfl) : XE X μ (.Call (.Name x p) (e :: es) [] pos) Γ Q := by
  obtain ⟨ps, C⟩ := C
  refine xe_call C (hr.mono hkn) hg (PA.imp h fun σ H q ⟨R, k⟩ => ⟨R, fun vs H' ds Γ' s' f' R' r' hq => k vs H' ds Γ' s' f' R' r' (asks_p hq)⟩) hdb he hpl
/-- f(jar, e, ..) -/
theorem xe_cj {S : PSp} (C : Cj (wdX X) x k S) (hr : Room n X.A) (hkn : k ≤ n) (hg : Gl X x) (h : XA X μ (e :: es) Γ fun ds Γ1 => ∃ J cs ds', ds = .ref J :: ds' ∧ Γ1.c = (J, .jar) :: cs ∧ ∀ Qc : D → Prop, (∀ d, Q d Γ1 → Qc d) → S ds' Qc) (hdb : (x == ("__debug__" : Str)) = false := by decide)
    (he : starEach (e :: es) X.env = (false, eval e X.env) :: starEach es X.env := by rfl) (hpl : (backTo pos (starEach es X.env)).any (·.1) = false := by rfl) : XE X μ (.Call (.Name x p) (e :: es) [] pos) Γ Q := by
  obtain ⟨ps, C⟩ := C
  refine xe_call C (hr.mono hkn) hg (PA.imp h fun σ H q ⟨R, k⟩ => ⟨R, fun vs H' ds Γ' s' f' R' r' hq => k vs H' ds Γ' s' f' R' r' ?_⟩) hdb he hpl
  obtain ⟨J, cs, ds', rfl, hc, hq⟩ := hq
  exact asks_j hc hq
theorem xe_mk {xn : Str} {C : Addr} {S : ISp} (M : Mk' (wdX X) xn C k S) (hr : Room n X.A) (hkn : k + 1 ≤ n) (hg : Gl X xn) (h : XA X μ (e :: es) Γ fun ds Γ1 => ∀ Qc : List (Str × D) → Prop, (∀ fs, Q (.ins C fs) Γ1 → Qc fs) → S ds Qc)
    (hdb : (xn == ("__debug__" : Str)) = false := by decide) (he : starEach (e :: es) X.env = (false, eval e X.env) :: starEach es X.env := by rfl) (hpl : (backTo pos (starEach es X.env)).any (·.1) = false := by rfl) : XE X μ (.Call (.Name xn p) (e :: es) [] pos) Γ Q :=
  xe_make M (hr.mono hkn) hg h hdb he hpl
theorem xe_pr {C : Addr} {f : Str} {S : PSp} (M : Pr (wdX X) C f k S) (hr : Room n X.A) (hkn : k + 1 ≤ n) (h : XE X μ o Γ fun z Γ1 => ∃ fs, z = .ins C fs ∧ ∀ Qc : D → Prop, (∀ d, Q d Γ1 → Qc d) → S [.ins C fs] Qc)
    (hb : attributeBase o f X.env (eval o X.env) = eval o X.env := by rfl) : XE X μ (.Attribute o f pos) Γ Q :=
  xe_prop M (hr.mono hkn) (h.imp fun d Γ' ⟨fs, e, hq⟩ => ⟨fs, e, asks_p hq⟩) hb
/-- the value of a condition -/
theorem ite_t {c : Prop} [Decidable c] {A B : Prop} (hc : c) (h : A) : if decide c = true then A else B := by rw [if_pos (by simpa using hc)]; exact h
theorem ite_f {c : Prop} [Decidable c] {A B : Prop} (hc : ¬ c) (h : B) : if decide c = true then A else B := by rw [if_neg (by simpa using hc)]; exact h
theorem ite_c {c : Prop} [Decidable c] {A B : Prop} (h1 : c → A) (h2 : ¬ c → B) : if decide c = true then A else B := by
  by_cases h : c
  · exact ite_t h (h1 h)
  · exact ite_f h (h2 h)
theorem ite_tt {A B : Prop} (h : A) : if true = true then A else B := h
theorem ite_nt {A B : Prop} (h : B) : if (!true) = true then A else B := by rw [if_neg (by decide)]; exact h
theorem ite_nf {A B : Prop} (h : A) : if (!false) = true then A else B := h
theorem ite_ff {A B : Prop} (h : B) : if false = true then A else B := by rw [if_neg Bool.false_ne_true]; exact h
end
end Pdl
namespace Pdl
open PySem L2 PyProof.Rows
section
variable {X : Cx} {μ : Md} {Γ : En} {Q : QE} {x : Str} {pos : Pos}
/-- a text that is written out -/
theorem xe_lit {i : Str} {l : List Nat} {j} (e : i = S l) (h : Q (.str (S l)) Γ) : XE X μ (.Constant (.str i) j pos) Γ Q := xe_str (by rw [e]; exact h)
/-- the module's constants -/
def GS (mg : Str → Option Value) (x : Str) (l : List Nat) : Prop := ∃ t, mg x = some (.str (S l) t)
def GI (mg : Str → Option Value) (x : Str) (i : Int) : Prop := ∃ t, mg x = some (.int i t)
theorem xe_gs {l : List Nat} (hm : GS X.mg x l) (hg : Gl X x) (h : Q (.str (S l)) Γ) (h1 : (x == ("__debug__" : Str)) = false := by decide) : XE X μ (.Name x pos) Γ Q := by
  obtain ⟨t, hm⟩ := hm
  exact xe_glob (v := .str (S l)) hg hm ⟨t, rfl⟩ (fun _ => .str _) h h1
theorem xe_gi {i : Int} (hm : GI X.mg x i) (hg : Gl X x) (h : Q (.int i) Γ) (h1 : (x == ("__debug__" : Str)) = false := by decide) : XE X μ (.Name x pos) Γ Q := by
  obtain ⟨t, hm⟩ := hm
  exact xe_glob (v := .int i) hg hm ⟨t, rfl⟩ (fun _ => .int _) h h1
/-- a class's name -/
theorem xe_gc {C : Addr} (hm : X.mg x = some (.ref C)) (hg : Gl X x) (h : Q (.ref C) Γ) (h1 : (x == ("__debug__" : Str)) = false := by decide) : XE X μ (.Name x pos) Γ Q := xe_glob (v := .ref C) hg hm rfl (fun _ => .ref _) h h1
end
end Pdl
namespace Pdl
open PySem L2 PyProof.Rows
section
variable {X : Cx}
theorem isi_str {z : Str} : CallD X (.builtin "isinstance") [.str z, .ty "str"] (.bl true) := cd_isi .str .ty (kit_ty (by decide +kernel))
theorem isi_tup {xs : List D} : CallD X (.builtin "isinstance") [.tup xs, .ty "tuple"] (.bl true) := cd_isi .tup .ty (kit_ty (by decide +kernel))
/-- an own class, its instances -/
def IsO (K : PySem.W.Frag) (C : Addr) : Prop := PySem.W.kitOne K (.ref C) (.ref C) = some true
theorem isi_own {C : Addr} {fs : List (Str × D)} (o : OCls X.K C) (h : IsO X.K C) : CallD X (.builtin "isinstance") [.ins C fs, .ref C] (.bl true) := cd_isi (.ins o) .own h
end
end Pdl
namespace Pdl
open PySem L2 PyProof.Rows
def leN (a b : Nat) : Bool := decide (a ≤ b)
theorem leN_trans (a b c : Nat) (h1 : leN a b = true) (h2 : leN b c = true) : leN a c = true := by simp [leN] at *; omega
theorem leN_total (a b : Nat) : (leN a b || leN b a) = true := by simp [leN]; omega
def sN (l : List Nat) : List Nat := l.mergeSort leN
def us (l : List Nat) : List Nat := sN l.eraseDups
def ch (l : List Nat) : List (List Nat) := l.map fun c => [c]
theorem mem_us {l : List Nat} {x : Nat} : x ∈ us l ↔ x ∈ l := by
  unfold us sN
  rw [(List.mergeSort_perm _ _).mem_iff, List.mem_eraseDups]
theorem us_nodup (l : List Nat) : (us l).Nodup := (List.mergeSort_perm _ _).nodup_iff.mpr (ed_nodup _)
theorem us_sorted (l : List Nat) : (us l).Pairwise (· < ·) := by
  have h1 : (us l).Pairwise (fun a b => leN a b = true) := List.pairwise_mergeSort leN_trans leN_total _
  have h2 := us_nodup l
  exact (h1.and h2).imp fun ⟨a, b⟩ => by simp [leN] at a; omega
theorem sorted_ext {l m : List Nat} (h1 : l.Pairwise (· < ·)) (h2 : m.Pairwise (· < ·)) (h : ∀ x, x ∈ l ↔ x ∈ m) : l = m := by
  have n1 : l.Nodup := h1.imp fun h => Nat.ne_of_lt h
  have n2 : m.Nodup := h2.imp fun h => Nat.ne_of_lt h
  have p : l.Perm m := (List.perm_ext_iff_of_nodup n1 n2).mpr h
  exact List.Perm.eq_of_pairwise (fun a b _ _ x y => by omega) h1 h2 p
theorem us_eq {l m : List Nat} (h1 : m.Pairwise (· < ·)) (h : ∀ x, x ∈ m ↔ x ∈ l) : us l = m := sorted_ext (us_sorted l) h1 fun x => mem_us.trans (h x).symm
theorem nodup_len {α : Type} [BEq α] [LawfulBEq α] : ∀ {l m : List α}, l.Nodup → (∀ x ∈ l, x ∈ m) → l.length ≤ m.length
  | [], _, _, _ => Nat.zero_le _
  | a :: l, m, hn, h => by
    rw [List.nodup_cons] at hn
    have ha := h a List.mem_cons_self
    have := nodup_len (m := m.erase a) hn.2 fun x hx => by
      refine (List.mem_erase_of_ne ?_).mpr (h x (List.mem_cons_of_mem _ hx))
      exact fun e => hn.1 (e ▸ hx)
    rw [List.length_erase_of_mem ha] at this
    have := List.length_pos_of_mem ha
    simp only [List.length_cons]
    omega
theorem us_len_le {l m : List Nat} (h : ∀ x ∈ l, x ∈ m) : (us l).length ≤ m.length := nodup_len (us_nodup l) fun x hx => h x (mem_us.mp hx)
end Pdl
namespace Pdl
theorem ch_len (l : List Nat) : (ch l).length = l.length := by simp [ch]
end Pdl
namespace Pdl
open PySem L2 PyProof.Rows
section
variable {X : Cx} {μ : Md} {Γ : En} {Q : QE} {a b c e o it tg elt : Expr} {es ifs : List Expr} {pos apos cpos tpos : Pos} {x y d : D} {scope : Scope} {P : Po}
/-- .. by a function on what the items show -/
def QLa (X : Cx) (scope : Scope) (ifs : List Expr) (elt : Expr) (i : Nat) {α β : Type} (ea : α → D) (eb : β → D) (Q : QE) : List D → En → Prop := fun ds Γ1 => ∃ (as : List α) (F : α → Option β), ds = as.map ea ∧ as.length ≤ 100000 ∧
      (∀ a ∈ as, ∀ μ', Blk X scope fun Y => XTl Y μ' ifs ⟨Γ1.s.set i (some (ea a)), Γ1.c⟩ fun b Γ3 => if b = true then Blk X scope fun Z => XE Z μ' elt Γ3 fun y Γ4 => ∃ r, F a = some r ∧ y = eb r ∧ Γ4.c = Γ1.c else F a = none ∧ Γ3.c = Γ1.c) ∧
      Q (.lst ((as.filterMap F).map eb)) Γ1
theorem qla {α β : Type} {ea : α → D} {eb : β → D} {i : Nat} {ds : List D} {Γ1 : En} (h : QLa X scope ifs elt i ea eb Q ds Γ1) : QLc X scope ifs elt i Q ds Γ1 := by
  obtain ⟨as, F, hds, hl, ht, hq⟩ := h
  subst hds
  refine ⟨fun k acc c => acc = ((as.take k).filterMap F).map eb ∧ c = Γ1.c, ⟨by simp, rfl⟩, ?_, by simpa using hl, ?_⟩
  · rintro k d acc c2 hd ⟨rfl, rfl⟩ μ' s H C cl fp
    rw [List.getElem?_map] at hd
    obtain ⟨a, ha, rfl⟩ := Option.map_eq_some_iff.mp hd
    have et : as.take (k + 1) = as.take k ++ [a] := by
      rw [List.take_add_one, ha]
      rfl
    refine ⟨fun pins s' σ' H' q I' ⟨R', k'⟩ => (ht a (List.mem_of_getElem? ha) μ' s H C cl fp).run pins s' σ' H' q I' ⟨R', fun H3 b Γ3 s3 f3 R3 hq => k' H3 b Γ3 s3 f3 R3 ?_⟩⟩
    cases b with
    | true =>
      rw [if_pos rfl] at hq ⊢
      intro s2 H2 C2 cl2 fp2
      refine PE.imp (hq s2 H2 C2 cl2 fp2) fun σ4 H4 q4 ⟨R4, k4⟩ => ⟨R4, fun v5 H5 d5 Γ5 s5 f5 R5 r5 ⟨r, g1, g2, g3⟩ => k4 v5 H5 d5 Γ5 s5 f5 R5 r5 ⟨?_, g3⟩⟩
      rw [et, List.filterMap_append]
      simp [g1, g2]
    | false =>
      rw [if_neg Bool.false_ne_true] at hq ⊢
      refine ⟨?_, hq.2⟩
      rw [et, List.filterMap_append]
      simp [hq.1]
  · rintro acc c2 ⟨rfl, rfl⟩
    have e : (as.map ea).length = as.length := by simp
    rw [e, List.take_length]
    exact hq
theorem XI.imp {Q Q' : List D → En → Prop} (h : XI X μ tg it Γ Q) (i : ∀ d Γ', Q d Γ' → Q' d Γ') : XI X μ tg it Γ Q' := PI.imp h fun σ H R ⟨Rl, k⟩ => ⟨Rl, fun J H' ds Γ1 e1 f1 R1 wk hq => k J H' ds Γ1 e1 f1 R1 wk (i _ _ hq)⟩
theorem xe_lcA {α β : Type} (ea : α → D) (eb : β → D) {i : Nat} {xn : Str} (hN : X.N.Nodup) (hi : X.N[i]? = some xn) (hb : blkC X.N X.env.scope scope [(xn, i)] = true) (hx : Blk X scope fun Y => Loc Y.env.scope xn) (hf : Blk X scope fun Y => Y.fn xn = true ∨ Y.env.scope.names.lookup xn = some .local)
    (h : XI X μ (.Name xn tpos) it Γ (QLa X scope ifs elt i ea eb Q))
    (hs : ∀ x, foldedSetIterable it X.env x = pure x := by intro _; rfl) (hc : X.calm = true := by rfl) : XE X μ (.ListComp elt [⟨.Name xn tpos, it, ifs, 0⟩] scope pos) Γ Q :=
  xe_lc hc hN hi (blkOk_by hb) hx hf (h.imp fun _ _ => qla) hs
/-- for x in ..: what holds with the items that are gone through -/
theorem xs_forN {body : List Stmt} {i : Nat} {xn : Str} (hp : PassesOwn (model X.prog X.w) X.A X.env X.xe) (hN : X.N.Nodup) (hi : X.N[i]? = some xn) (hx : Loc X.env.scope xn)
    (h : XI X μ (.Name xn tpos) it Γ fun ds Γ1 => ∃ I : Nat → En → Prop, I 0 Γ1 ∧ (∀ i' d Γ2, ds[i']? = some d → I i' Γ2 → XB X μ body { Γ2 with s := Γ2.s.set i (some d) } { P with nx := I (i' + 1), ct := I (i' + 1), bk := P.nx }) ∧ ∀ Γ2, I ds.length Γ2 → P.nx Γ2)
    (hf : X.fn xn = true ∨ X.env.scope.names.lookup xn = some .local := by first | exact .inl rfl | exact .inr rfl | assumption) (hs : ∀ x, foldedSetIterable it X.env x = pure x := by intro _; rfl) (hc : X.calm = true := by rfl) : XS X μ (.For (.Name xn tpos) it body [] pos) Γ P :=
  xs_for hp hc (PI.imp h fun σ H R ⟨Rl, k⟩ => ⟨Rl, fun J H' ds Γ1 e1 f1 R1 wk ⟨I, h0, ht, hd⟩ => k J H' ds Γ1 e1 f1 R1 wk ⟨I, h0, fun i' d Γ2 hd' hI => xg_name hN hi hx (ht i' d Γ2 hd' hI) hf, hd⟩⟩) hs
end
theorem lt1 {a b : Nat} : ([a] < [b]) ↔ a < b := by
  rw [List.cons_lt_cons_iff]
  simp
end Pdl
namespace Pdl
structure IsMet (ls : List (List Nat)) (ps M : List Nat) : Prop where
  sorted : M.Pairwise (· < ·)
  sub : ∀ x ∈ ps, x ∈ M
  clo : ∀ a b, [a, b] ∈ ls → (a ∈ M ∨ b ∈ M) → a ∈ M ∧ b ∈ M
  least : ∀ C : Nat → Prop, (∀ x ∈ ps, C x) → (∀ a b, [a, b] ∈ ls → (C a ∨ C b) → C a ∧ C b) → ∀ x ∈ M, C x
def touch (M : List Nat) (l : List Nat) : Bool := match l with
  | [a, b] => decide (a ∈ M) || decide (b ∈ M)
  | _ => false
def stp (ls : List (List Nat)) (M : List Nat) : List Nat := us ([M] ++ ls.filter (touch M)).flatten
theorem mem_stp {ls : List (List Nat)} {M : List Nat} (h2 : ∀ l ∈ ls, ∃ a b, l = [a, b]) {x : Nat} : x ∈ stp ls M ↔ x ∈ M ∨ ∃ a b, [a, b] ∈ ls ∧ (a ∈ M ∨ b ∈ M) ∧ (x = a ∨ x = b) := by
  unfold stp
  rw [mem_us]
  simp only [List.singleton_append, List.flatten_cons, List.mem_append, List.mem_flatten, List.mem_filter]
  constructor
  · rintro (h | ⟨l, ⟨hl, ht⟩, hx⟩)
    · exact .inl h
    · obtain ⟨a, b, rfl⟩ := h2 l hl
      exact .inr ⟨a, b, hl, by simpa [touch] using ht, by simpa using hx⟩
  · rintro (h | ⟨a, b, hl, ht, hx⟩)
    · exact .inl h
    · exact .inr ⟨[a, b], ⟨hl, by simpa [touch] using ht⟩, by simpa using hx⟩
/-- as far as one has come -/
structure InMet (ls : List (List Nat)) (ps M : List Nat) : Prop where
  sorted : M.Pairwise (· < ·)
  sub : ∀ x ∈ ps, x ∈ M
  inn : ∀ x ∈ M, x ∈ ps ∨ x ∈ ls.flatten
  least : ∀ C : Nat → Prop, (∀ x ∈ ps, C x) → (∀ a b, [a, b] ∈ ls → (C a ∨ C b) → C a ∧ C b) → ∀ x ∈ M, C x
theorem InMet.start (ls : List (List Nat)) (ps : List Nat) : InMet ls ps (us [ps].flatten) := by
  have e : [ps].flatten = ps := by simp
  rw [e]
  exact ⟨us_sorted _, fun x h => mem_us.mpr h, fun x h => .inl (mem_us.mp h), fun C h _ x hx => h x (mem_us.mp hx)⟩
theorem InMet.step {ls : List (List Nat)} {ps M : List Nat} (h2 : ∀ l ∈ ls, ∃ a b, l = [a, b]) (h : InMet ls ps M) : InMet ls ps (stp ls M) := by
  refine ⟨us_sorted _, fun x hx => (mem_stp h2).mpr (.inl (h.sub x hx)), fun x hx => ?_, fun C h1 h3 x hx => ?_⟩
  · rcases (mem_stp h2).mp hx with hx | ⟨a, b, hl, _, hx⟩
    · exact h.inn x hx
    · exact .inr (List.mem_flatten.mpr ⟨[a, b], hl, by simpa using hx⟩)
  · rcases (mem_stp h2).mp hx with hx | ⟨a, b, hl, ht, hx⟩
    · exact h.least C h1 h3 x hx
    · have := h3 a b hl (ht.imp (h.least C h1 h3 a) (h.least C h1 h3 b))
      rcases hx with rfl | rfl
      · exact this.1
      · exact this.2
theorem InMet.done {ls : List (List Nat)} {ps M : List Nat} (h2 : ∀ l ∈ ls, ∃ a b, l = [a, b]) (h : InMet ls ps M) (e : stp ls M = M) : IsMet ls ps M := by
  refine ⟨h.sorted, h.sub, fun a b hl ht => ?_, h.least⟩
  have k : ∀ x, x ∈ stp ls M → x ∈ M := fun x hx => e ▸ hx
  exact ⟨k a ((mem_stp h2).mpr (.inr ⟨a, b, hl, ht, .inl rfl⟩)), k b ((mem_stp h2).mpr (.inr ⟨a, b, hl, ht, .inr rfl⟩))⟩
theorem InMet.le {ls : List (List Nat)} {ps M : List Nat} (h : InMet ls ps M) : M.length ≤ (ps ++ ls.flatten).length :=
  nodup_len (h.sorted.imp fun h => Nat.ne_of_lt h) fun x hx => List.mem_append.mpr (h.inn x hx)
end Pdl
namespace Pdl
open PySem L2 PyProof.Rows
theorem atI_nat {α : Type} {xs : List α} {k : Nat} {d : α} (h : xs[k]? = some d) : atI xs (k : Int) = some d := by
  have hl := (List.getElem?_eq_some_iff.mp h).1
  unfold atI ixN
  rw [if_pos (by omega), if_pos (by omega)]
  simpa using h
theorem SL_get {ls : List (List Nat)} {k : Nat} {l : List Nat} (h : ls[k]? = some l) : (SL ls)[k]? = some (.str (S l)) := by
  unfold SL
  rw [List.getElem?_map, h]
  rfl
theorem rng_get {n k : Nat} {d : D} (h : (rngD 0 n)[k]? = some d) : k < n ∧ d = .int (k : Int) := by
  unfold rngD at h
  rw [List.getElem?_map] at h
  obtain ⟨j, hj, rfl⟩ := Option.map_eq_some_iff.mp h
  obtain ⟨h1, h2⟩ := List.getElem?_eq_some_iff.mp hj
  rw [List.getElem_range] at h2
  subst h2
  refine ⟨by simpa using h1, ?_⟩
  rw [Int.zero_add]
theorem rng_len {lo : Int} {n : Nat} : (rngD lo n).length = n := by simp [rngD]
/-- all hangs together -/
def Conn (ls : List (List Nat)) : Prop := ∀ C : Nat → Prop, (∀ l0, ls.head? = some l0 → ∀ x ∈ l0, C x) → (∀ a b, [a, b] ∈ ls → (C a ∨ C b) → C a ∧ C b) → ∀ x ∈ ls.flatten, C x
structure Ties (ls : List (List Nat)) : Prop where
  ne : ls ≠ []
  len : ls.length ≤ 10
  pr : ∀ l ∈ ls, ∃ a b, l = [a, b] ∧ 97 ≤ a ∧ a < b ∧ b ≤ 122
  asc : ls.Pairwise (· < ·)
  few : (us ls.flatten).length ≤ 7
  conn : Conn ls
theorem Ties.two {ls : List (List Nat)} (h : Ties ls) : ∀ l ∈ ls, ∃ a b, l = [a, b] := fun l hl => let ⟨a, b, e, _⟩ := h.pr l hl; ⟨a, b, e⟩
end Pdl
namespace Pdl
open PySem L2 PyProof.Rows
section
variable {X : Cx} {μ : Md} {Γ : En} {P : Po} {c e : Expr} {t u : List Stmt} {pos : Pos} {Q : QE}
/-- if: the outcome is known -/
theorem xs_if_f (h : XT X μ c Γ fun b Γ1 => b = false ∧ Γ1 = Γ) (h2 : XB X μ u Γ P) : XS X μ (.If c t u pos) Γ P := xs_if (h.imp fun b Γ1 ⟨e1, e2⟩ => by subst e1; subst e2; exact ite_ff h2)
end
end Pdl
namespace Pdl
open PySem L2 PyProof.Rows
def DeI (T : Wd) (x : Str) (C : Addr) (qual : Str) (ps : List Str) (st : Stmt) : Prop := ∃ f fd, T.mg x = some (.ref C) ∧ Mk T.K C f ∧ Fun T.K "__init__" qual st f fd ∧ Binds T.K fd ps []
section
variable {T : Wd} {C : Addr} {f x qual : Str} {st : Stmt} {N ps : List Str} {k : Nat}
theorem mk_of {S : ISp} (df : DeI T x C qual ps st) (sc : FnScope N ps (defScope st)) (len : ∀ ds Q, S ds Q → ds.length + 1 = ps.length)
    (hbody : N.Nodup → ∀ (f : Addr) (cdv : Value) (A : Around) (outer : List Env) (s : Shared) (H : Hp) (E0 : XK), Room k (cX T N qual st f cdv A outer s H E0).A →
      ∀ m o ds (Q : List (Str × D) → Prop) E, S ds Q → XB (cX T N qual st f cdv A outer s H E0) (mdOf m [(o, .ins C [])] H E) (defBody st) ⟨startD N (.ref o :: ds), [(o, .ins C [])]⟩ (poOf fun d c => ∃ fs, d = .non ∧ c = [(o, .ins C fs)] ∧ Q fs)) : Mk' T x C (k + 1) S := by
  obtain ⟨f, fd, h1, h2, F, bd⟩ := df
  refine ⟨f, fd, ps, h1, h2, fn_D F sc (fun ds c Q E ⟨o, ds', e, _, h⟩ => by rw [e]; exact len _ _ h) fun cdv A outer s H E0 hr m ds c Q E h => ?_, bd⟩
  obtain ⟨o, ds', rfl, rfl, h⟩ := h
  refine (hbody sc.nd f cdv A outer s H E0 hr m o ds' _ E h).imp ?_ ?_ (fun _ h => h) (fun _ h => h)
  · rintro Γ1 ⟨fs, h1, h2, h3⟩
    show Q .non Γ1.c
    rw [h2]
    exact h3
  · rintro d Γ1 ⟨fs, h1, h2, h3⟩
    show Q d Γ1.c
    rw [h1, h2]
    exact h3
end
end Pdl
namespace Pdl
def pr2 : List Nat → List Nat
  | [a, b] => if b < a then [b, a] else [a, b]
  | l => l
def fst2 (l : List Nat) : Nat := match l with | [a, _] => a | _ => 0
def snd2 (l : List Nat) : Nat := match l with | [_, b] => b | _ => 0
def Ranked (as : List (List Nat)) : Prop := ∃ r : Nat → Nat, ∀ a b, [a, b] ∈ as → r a < r b
def Two (as : List (List Nat)) : Prop := ∀ l ∈ as, ∃ a b, l = [a, b]
structure Arrs (as : List (List Nat)) : Prop where
  two : Two as
  ties : Ties (as.map pr2)
  rk : Ranked as
theorem Arrs.len {as : List (List Nat)} (h : Arrs as) : as.length ≤ 10 := by
  have := h.ties.len
  simpa using this
theorem Arrs.ne {as : List (List Nat)} (h : Arrs as) : as ≠ [] := fun e => h.ties.ne (by rw [e]; rfl)
theorem Arrs.pr {as : List (List Nat)} (h : Arrs as) : ∀ l ∈ as, ∃ a b, l = [a, b] ∧ (97 ≤ a ∧ a ≤ 122) ∧ (97 ≤ b ∧ b ≤ 122) ∧ a ≠ b := fun l hl => by
  obtain ⟨a, b, rfl⟩ := h.two l hl
  obtain ⟨x, y, e, h1, h2, h3⟩ := h.ties.pr (pr2 [a, b]) (List.mem_map_of_mem hl)
  refine ⟨a, b, rfl, ?_⟩
  have e : (if b < a then [b, a] else [a, b]) = [x, y] := e
  split at e <;> (simp at e; omega)
def goesOn (L : List (List Nat)) (l : List Nat) : Bool := L.any fun o => decide ([snd2 o] = [fst2 l])
def onL (L : List (List Nat)) : List (List Nat) := L.filter (goesOn L)
theorem onL_less {L : List (List Nat)} (h2 : Two L) (hr : Ranked L) (hne : L ≠ []) : (onL L).length < L.length := by
  obtain ⟨r, hr⟩ := hr
  -- an arrow whose beginning has the least rank
  have ex : ∃ l ∈ L, ∀ o ∈ L, r (fst2 l) ≤ r (fst2 o) := by
    clear h2 hr
    induction L with
    | nil => exact absurd rfl hne
    | cons l L ih =>
      by_cases hL : L = []
      · subst hL
        exact ⟨l, by simp, fun o ho => by simp at ho; rw [ho]; exact Nat.le_refl _⟩
      · obtain ⟨m, hm, hmin⟩ := ih hL
        by_cases hlt : r (fst2 l) ≤ r (fst2 m)
        · refine ⟨l, by simp, fun o ho => ?_⟩
          rcases List.mem_cons.mp ho with rfl | ho
          · exact Nat.le_refl _
          · exact Nat.le_trans hlt (hmin o ho)
        · refine ⟨m, List.mem_cons_of_mem _ hm, fun o ho => ?_⟩
          rcases List.mem_cons.mp ho with rfl | ho
          · omega
          · exact hmin o ho
  obtain ⟨l, hl, hmin⟩ := ex
  unfold onL
  refine List.length_filter_lt_length_iff_exists.mpr ⟨l, hl, ?_⟩
  intro hg
  unfold goesOn at hg
  obtain ⟨o, ho, e⟩ := List.any_eq_true.mp hg
  have e : snd2 o = fst2 l := by simpa using e
  obtain ⟨a, b, rfl⟩ := h2 o ho
  have h1 := hr a b ho
  have h3 := hmin [a, b] ho
  have e : b = fst2 l := e
  have h3 : r (fst2 l) ≤ r a := h3
  rw [← e] at h3
  omega
theorem onL_two {L : List (List Nat)} (h : Two L) : Two (onL L) := fun l hl => h l (List.mem_filter.mp hl).1
theorem onL_ranked {L : List (List Nat)} (h : Ranked L) : Ranked (onL L) := let ⟨r, hr⟩ := h; ⟨r, fun a b hl => hr a b (List.mem_filter.mp hl).1⟩
def lay (o : List Nat) : List Nat → List Nat
  | [a, b] => if idx o a < idx o b then [a, b] else [b, a]
  | l => l
theorem idx_ne {o : List Nat} {a b : Nat} (ha : a ∈ o) (hb : b ∈ o) (h : a ≠ b) : idx o a ≠ idx o b := fun e => by
  have h1 := idx_at ha
  have h2 := idx_at hb
  rw [e, h2] at h1
  cases h1
  exact h rfl
theorem lay_arrs {ls : List (List Nat)} {o : List Nat} (h : Ties ls) (ho : ∀ x ∈ ls.flatten, x ∈ o) : Arrs (ls.map (lay o)) := by
  have e : (ls.map (lay o)).map pr2 = ls := by
    rw [List.map_map]
    conv => rhs; rw [← List.map_id ls]
    refine List.map_congr_left fun l hl => ?_
    obtain ⟨a, b, rfl, h1, h2, h3⟩ := h.pr l hl
    show pr2 (if idx o a < idx o b then [a, b] else [b, a]) = [a, b]
    split
    · show (if b < a then [b, a] else [a, b]) = _
      rw [if_neg (by omega)]
    · show (if a < b then [a, b] else [b, a]) = _
      rw [if_pos h2]
  refine ⟨fun l hl => ?_, by rw [e]; exact h, idx o, fun x y hxy => ?_⟩
  · obtain ⟨t, ht, rfl⟩ := List.mem_map.mp hl
    obtain ⟨a, b, rfl⟩ := h.two t ht
    show ∃ x y, (if idx o a < idx o b then [a, b] else [b, a]) = [x, y]
    split
    · exact ⟨a, b, rfl⟩
    · exact ⟨b, a, rfl⟩
  · obtain ⟨t, ht, e⟩ := List.mem_map.mp hxy
    obtain ⟨a, b, rfl, h1, h2, h3⟩ := h.pr t ht
    have ha : a ∈ o := ho a (List.mem_flatten.mpr ⟨_, ht, by simp⟩)
    have hb : b ∈ o := ho b (List.mem_flatten.mpr ⟨_, ht, by simp⟩)
    have hne := idx_ne ha hb (by omega)
    have e : (if idx o a < idx o b then [a, b] else [b, a]) = [x, y] := e
    split at e <;> (simp at e; obtain ⟨rfl, rfl⟩ := e; omega)
end Pdl
namespace Pdl
open PySem L2 PyProof.Rows
section
variable {X : Cx} {μ : Md} {Γ Γ' : En} {Q : QE} {a b c e o : Expr} {es : List Expr} {pos apos cpos : Pos} {P P' : Po} {st : Stmt} {sts : List Stmt} {m : Addr → Bool} {H : Hp} {K : PySem.W.Frag} {x y d : D}
theorem cr_list_str (hc : X.calm = true) : CallR X (.type "list") (fun xs H Q => ∃ l : List Nat, xs = [.str (S l)] ∧ l.length ≤ sizeLine ∧ ∀ p, H p = none → Q (.ref p) (upd H p (.lst (((ch l).map S).map V.str)))) := by
  intro pins s σ H xs us Q I r h
  obtain ⟨l, rfl, hz, q⟩ := h
  obtain ⟨u, rfl, ru⟩ := vals1 r
  obtain ⟨t, rfl⟩ := ru
  refine call_list_str (I.ok.hd hc) (S l) t (fun h' tk acc c' hk e hi => ?_) (by show l.toArray.size ≤ _; simpa using hz)
  refine ⟨.ref s.heap.objs.size, upd H s.heap.objs.size (.lst (((ch l).map S).map V.str)), I.laid hk (Nat.le_refl _) ⟨by simp [ch]; exact hz, acc.toList, c', ?_, by rw [Array.toArray_toList]; exact e⟩, rfl, q _ (I.hok.fresh (Nat.le_refl _))⟩
  refine vals_of_idx _ _ (by simp [ch]; have := hi.1; simpa [S] using this) fun j u hj => ?_
  obtain ⟨c, t', hc, rfl⟩ := hi.2 j u (by rw [← Array.getElem?_toList]; exact hj)
  refine ⟨.str (S [c]), ?_, ⟨_, rfl⟩⟩
  have hc : l[j]? = some c := by
    have : l.toArray[j]? = some c := hc
    simpa using this
  simp [ch, hc]
def dT (ks : List (List Nat)) : List (Key × D) := ks.map fun l => (Sum.inr (S l), .bl true)
def insT (ks : List (List Nat)) (l : List Nat) : List (List Nat) := if l ∈ ks then ks else ks ++ [l]
theorem xb_close {J : Addr} {Q : D → Cs → Prop} (h : XB X μ sts Γ { nx := fun _ => False, rt := fun d Γ1 => ∃ x y z : Int, 0 ≤ x ∧ 0 ≤ y ∧ 0 ≤ z ∧ Γ1.c = [(J, .lst [.int x, .int y, .int z])] ∧ Q d [(J, .jar)] }) : XB X μ sts Γ (poOf Q) := by
  refine h.post (fun _ h => h.elim) ?_ (fun _ h => h.elim) (fun _ h => h.elim)
  rintro d ⟨s, c⟩ ⟨x, y, z, hx, hy, hz, hc, hq⟩
  have hc : c = [(J, .lst [.int x, .int y, .int z])] := hc
  subst hc
  refine ⟨⟨s, [(J, .jar)]⟩, fun H σ v R r => ⟨rel_close (c1 := []) (c2 := []) hx hy hz R, fw_same (s := s) (c1 := []) (c2 := []), ?_⟩, hq⟩
  have e : tot μ.m [(J, Cell.lst [.int x, .int y, .int z])] = tot μ.m [(J, Cell.jar)] := tot_swap (c1 := []) (c2 := [])
  have r : Rp X.K (hid (tot μ.m [(J, Cell.lst [.int x, .int y, .int z])]) H) v d := r
  rw [e] at r
  exact r
/-- what is called makes a new jar -/
def kS (S : List D → Prop) : SpD := fun ds c Q _ => c = [] ∧ S ds ∧ ∀ p, Q (.ref p) [(p, .jar)]
abbrev Ck (T : Wd) (x : Str) (k : Nat) (S : List D → Prop) : Prop := Ca T x k (kS S)
theorem xe_ck {k n : Nat} {xn : Str} {S : List D → Prop} {p : Pos} (C : Ck (wdX X) xn k S) (hr : Room n X.A) (hkn : k ≤ n) (hg : Gl X xn) (h : XA X μ (e :: es) Γ fun ds Γ1 => S ds ∧ ∀ p, Q (.ref p) ⟨Γ1.s, (p, .jar) :: Γ1.c⟩) (hdb : (xn == ("__debug__" : Str)) = false := by decide)
    (he : starEach (e :: es) X.env = (false, eval e X.env) :: starEach es X.env := by rfl) (hpl : (backTo pos (starEach es X.env)).any (·.1) = false := by rfl) : XE X μ (.Call (.Name xn p) (e :: es) [] pos) Γ Q := by
  obtain ⟨ps, C⟩ := C
  refine xe_call C (hr.mono hkn) hg (PA.imp h fun σ H q ⟨R, k⟩ => ⟨R, fun vs H' ds Γ' s' f' R' r' hq => k vs H' ds Γ' s' f' R' r' ?_⟩) hdb he hpl
  exact ⟨[], Γ'.c, rfl, fun Qc Ec kq _ => ⟨rfl, hq.1, fun p => kq _ _ (hq.2 p)⟩⟩
end
end Pdl
namespace Pdl
open PySem L2 PyProof.Rows
section
variable {X : Cx} {μ : Md} {Γ : En} {sts : List Stmt}
/-- a new jar is handed out -/
theorem xb_closeN {Q : D → Cs → Prop} (h : XB X μ sts Γ { nx := fun _ => False, rt := fun d Γ1 => ∃ (J : Addr) (x y z : Int), 0 ≤ x ∧ 0 ≤ y ∧ 0 ≤ z ∧ d = .ref J ∧ Γ1.c = [(J, .lst [.int x, .int y, .int z])] ∧ Q d [(J, .jar)] }) : XB X μ sts Γ (poOf Q) := by
  refine h.post (fun _ h => h.elim) ?_ (fun _ h => h.elim) (fun _ h => h.elim)
  rintro d ⟨s, c⟩ ⟨J, x, y, z, hx, hy, hz, hd, hc, hq⟩
  have hc : c = [(J, .lst [.int x, .int y, .int z])] := hc
  subst hc
  refine ⟨⟨s, [(J, .jar)]⟩, fun H σ v R r => ⟨rel_close (c1 := []) (c2 := []) hx hy hz R, fw_same (s := s) (c1 := []) (c2 := []), ?_⟩, hq⟩
  have e : tot μ.m [(J, Cell.lst [.int x, .int y, .int z])] = tot μ.m [(J, Cell.jar)] := tot_swap (c1 := []) (c2 := [])
  have r : Rp X.K (hid (tot μ.m [(J, Cell.lst [.int x, .int y, .int z])]) H) v d := r
  rw [e] at r
  exact r
end
theorem ck_of {T : Wd} {x : Str} {st : Stmt} {N ps : List Str} {k : Nat} {S : List D → Prop} (df : De T x ps st) (sc : FnScope N ps (defScope st)) (len : ∀ ds, S ds → ds.length = ps.length)
    (hbody : N.Nodup → ∀ (f : Addr) (cdv : Value) (A : Around) (outer : List Env) (s : Shared) (H : Hp) (E0 : XK), Room k (cX T N x st f cdv A outer s H E0).A →
      ∀ m ds (Q : D → Cs → Prop) E, S ds → (∀ p, Q (.ref p) [(p, .jar)]) → XB (cX T N x st f cdv A outer s H E0) (mdOf m [] H E) (defBody st) ⟨startD N ds, []⟩ (poOf Q)) : Ck T x (k + 1) S :=
  ⟨ps, cal_of df sc (fun ds c Q E h => len ds h.2.1) fun f cdv A outer s H E0 hr m ds c Q E h => by
    obtain ⟨rfl, h1, h2⟩ := h
    exact hbody sc.nd f cdv A outer s H E0 hr m ds Q E h1 h2⟩
end Pdl
namespace Pdl
structure NetI (w : List Nat) (k : Nat) (ks : List (List Nat)) : Prop where
  nd : ks.Nodup
  pr : ∀ t ∈ ks, ∃ a b, t = [a, b] ∧ a < b ∧ a ∈ w ∧ b ∈ w
  par : ∀ j c, 1 ≤ j → j < k → w[j]? = some c → ∃ i d, i < j ∧ w[i]? = some d ∧ pr2 [c, d] ∈ ks
theorem insT_mem {ks : List (List Nat)} {l x : List Nat} : x ∈ insT ks l ↔ x ∈ ks ∨ x = l := by
  unfold insT
  split
  · exact ⟨.inl, fun h => h.elim id fun e => e ▸ by assumption⟩
  · simp
theorem insT_nodup {ks : List (List Nat)} {l : List Nat} (h : ks.Nodup) : (insT ks l).Nodup := by
  unfold insT
  split
  · exact h
  · rw [List.nodup_append]
    exact ⟨h, by simp, fun x hx y hy e => by simp at hy; subst hy; subst e; contradiction⟩
theorem pr2_lt {a b : Nat} {w : List Nat} (h : a ≠ b) (ha : a ∈ w) (hb : b ∈ w) : ∃ x y, pr2 [a, b] = [x, y] ∧ x < y ∧ x ∈ w ∧ y ∈ w := by
  show ∃ x y, (if b < a then [b, a] else [a, b]) = [x, y] ∧ _
  split
  · exact ⟨b, a, rfl, by assumption, hb, ha⟩
  · exact ⟨a, b, rfl, by omega, ha, hb⟩
theorem NetI.ins {w : List Nat} {k : Nat} {ks : List (List Nat)} {a b : Nat} (h : NetI w k ks) (hne : a ≠ b) (ha : a ∈ w) (hb : b ∈ w) : NetI w k (insT ks (pr2 [a, b])) := by
  refine ⟨insT_nodup h.nd, fun t ht => ?_, fun j c h1 h2 h3 => ?_⟩
  · rcases insT_mem.mp ht with ht | rfl
    · exact h.pr t ht
    · exact pr2_lt hne ha hb
  · obtain ⟨i, d, q1, q2, q3⟩ := h.par j c h1 h2 h3
    exact ⟨i, d, q1, q2, insT_mem.mpr (.inl q3)⟩
theorem NetI.next {w : List Nat} {k i : Nat} {ks : List (List Nat)} {a b : Nat} (hw : w.Nodup) (h : NetI w k ks) (ha : w[k]? = some a) (hb : w[i]? = some b) (hik : i < k) : a ≠ b ∧ NetI w (k + 1) (insT ks (pr2 [a, b])) := by
  have hne : a ≠ b := fun e => by
    obtain ⟨p1, p2⟩ := List.getElem?_eq_some_iff.mp ha
    obtain ⟨p3, p4⟩ := List.getElem?_eq_some_iff.mp hb
    have := (List.getElem_inj hw).mp (p2.trans (e.trans p4.symm))
    omega
  have h1 := h.ins hne (List.mem_of_getElem? ha) (List.mem_of_getElem? hb)
  refine ⟨hne, h1.nd, h1.pr, fun j c g1 g2 g3 => ?_⟩
  by_cases hj : j = k
  · subst hj
    rw [ha] at g3
    cases g3
    exact ⟨i, b, hik, hb, insT_mem.mpr (.inr rfl)⟩
  · exact h1.par j c g1 (by omega) g3
end Pdl
namespace Pdl
open PySem L2 PyProof.Rows
theorem RpA.pick {K : PySem.W.Frag} {G : Hp} {vs : List V} {ds : List D} (r : RpA K G vs ds) : ∀ ix : List Nat, RpA K G (ix.filterMap (vs[·]?)) (ix.filterMap (ds[·]?))
  | [] => .nil
  | i :: ix => by
    have ih := RpA.pick r ix
    rw [List.filterMap_cons, List.filterMap_cons]
    cases e : vs[i]? with
    | none =>
      have : ds[i]? = none := by
        rw [List.getElem?_eq_none_iff] at e ⊢
        rw [← r.length]
        exact e
      rw [this]
      exact ih
    | some v =>
      obtain ⟨d, h1, h2⟩ := r.get e
      rw [h1]
      exact .cons h2 ih
theorem vals_pick {vs : List V} {us : List Value} (r : Vals vs us) : ∀ ix : List Nat, Vals (ix.filterMap (vs[·]?)) (ix.filterMap (us[·]?))
  | [] => .nil
  | i :: ix => by
    have ih := vals_pick r ix
    rw [List.filterMap_cons, List.filterMap_cons]
    cases e : vs[i]? with
    | none =>
      have : us[i]? = none := by
        rw [List.getElem?_eq_none_iff] at e ⊢
        rw [← r.length]
        exact e
      rw [this]
      exact ih
    | some v =>
      obtain ⟨u, h1, h2⟩ := r.get e
      rw [h1]
      exact .cons h2 ih
theorem lay_pr2 {ls : List (List Nat)} {o : List Nat} (h : Ties ls) : (ls.map (lay o)).map pr2 = ls := by
  rw [List.map_map]
  conv => rhs; rw [← List.map_id ls]
  refine List.map_congr_left fun l hl => ?_
  obtain ⟨a, b, rfl, h1, h2, h3⟩ := h.pr l hl
  show pr2 (if idx o a < idx o b then [a, b] else [b, a]) = [a, b]
  split
  · show (if b < a then [b, a] else [a, b]) = _
    rw [if_neg (by omega)]
  · show (if a < b then [a, b] else [b, a]) = _
    rw [if_pos h2]
end Pdl
namespace Pdl
theorem mem_srt {ls : List (List Nat)} {x : List Nat} : x ∈ srt ls ↔ x ∈ ls := (srt_perm ls).mem_iff
end Pdl
namespace Pdl
open PySem L2 PyProof.Rows
mutual
/-- plain data: texts of small signs, small ints -/
def okD : D → Bool
  | .non => true
  | .bl _ => true
  | .int i => decide (-1000000000 ≤ i ∧ i ≤ 1000000000)
  | .str x => x.cps.toList.all (fun c => decide (c < 1000))
  | .lst xs => okL xs
  | .tup xs => okL xs
  | .tupx xs => okL xs
  | _ => false
def okL : List D → Bool
  | [] => true
  | x :: xs => okD x && okL xs
end
mutual
def wtD : D → Nat
  | .int _ => 40
  | .str x => x.length
  | .lst xs => wtL xs
  | .tup xs => wtL xs
  | .tupx xs => wtL xs
  | _ => 0
def wtL : List D → Nat
  | [] => 0
  | x :: xs => wtD x + 1 + wtL xs
end
mutual
def dpD : D → Nat
  | .lst xs => dpL xs + 1
  | .tup xs => dpL xs + 1
  | .tupx xs => dpL xs + 1
  | _ => 0
def dpL : List D → Nat
  | [] => 0
  | x :: xs => max (dpD x) (dpL xs)
end
mutual
theorem ok_py : ∀ (d : D), okD d = true → isPy d = true
  | .non, _ => rfl
  | .bl _, _ => rfl
  | .int _, _ => rfl
  | .str _, _ => rfl
  | .lst xs, h => by rw [isPy]; exact ok_pyL xs (by rw [okD] at h; exact h)
  | .tup xs, h => by rw [isPy]; exact ok_pyL xs (by rw [okD] at h; exact h)
  | .tupx xs, h => by rw [isPy]; exact ok_pyL xs (by rw [okD] at h; exact h)
  | .ty _, h => by simp [okD] at h
  | .ref _, h => by simp [okD] at h
  | .dct _, h => by simp [okD] at h
  | .ins _ _, h => by simp [okD] at h
  | .set _ _, h => by simp [okD] at h
  | .dcT _, h => by simp [okD] at h
  | .dcL _, h => by simp [okD] at h
theorem ok_pyL : ∀ (d : List D), okL d = true → isPyL d = true
  | [], _ => rfl
  | x :: xs, h => by
    rw [okL, Bool.and_eq_true] at h
    rw [isPyL, ok_py x h.1, ok_pyL xs h.2]
    rfl
end
theorem int_log {i : Int} (h : -1000000000 ≤ i ∧ i ≤ 1000000000) : i.natAbs.log2 < 31 := by
  have h1 : i.natAbs ≤ 1000000000 := by omega
  by_cases h0 : i.natAbs = 0
  · rw [h0]; decide
  · exact (Nat.log2_lt h0).mpr (by omega)
theorem int_shown {i : Int} (h : -1000000000 ≤ i ∧ i ≤ 1000000000) : (PyData.shown (.int i)).length ≤ 13 := by
  have h1 : (toString i).length ≤ 10 + 1 := int_text_length_le10 (by decide) (by omega)
  show (Str.ofString (toString i)).length ≤ 13
  rw [ofString_len]
  omega
mutual
theorem ok_can : ∀ (d : D), okD d = true → PyData.canLay0 (toPy d) = true ∧ PyData.showable (toPy d) = true ∧ PyData.hasDict (toPy d) = false ∧ PyData.depth (toPy d) = dpD d ∧ PyData.weight (toPy d) ≤ wtD d ∧ PyData.intsShort 13 (toPy d) = true
  | .non, _ => ⟨rfl, rfl, rfl, rfl, Nat.le_refl _, rfl⟩
  | .bl _, _ => ⟨rfl, rfl, rfl, rfl, Nat.le_refl _, rfl⟩
  | .int i, h => by
    have h : -1000000000 ≤ i ∧ i ≤ 1000000000 := by simpa [okD] using h
    have hl := int_log h
    refine ⟨rfl, ?_, rfl, rfl, ?_, ?_⟩
    · simp only [toPy, PyData.showable, decide_eq_true_eq]; omega
    · show (if i == 0 then 0 else i.natAbs.log2 + 1) ≤ 40
      split <;> omega
    · simp only [toPy, PyData.intsShort, decide_eq_true_eq]
      exact int_shown h
  | .str x, h => by
    have hs : PyData.strOk x = true := by
      unfold PyData.strOk
      rw [Array.all_eq_true_iff_forall_mem]
      intro c hc
      have := (List.all_eq_true.mp (by simpa only [okD] using h)) c (Array.mem_toList_iff.mpr hc)
      simp at this ⊢
      omega
    exact ⟨hs, rfl, rfl, rfl, Nat.le_refl _, rfl⟩
  | .lst xs, h => by
    rw [okD] at h
    obtain ⟨h1, h2, h3, h4, h5, h6⟩ := ok_canL xs h
    exact ⟨h1, h2, h3, congrArg (· + 1) h4, h5, h6⟩
  | .tup xs, h => by
    rw [okD] at h
    obtain ⟨h1, h2, h3, h4, h5, h6⟩ := ok_canL xs h
    exact ⟨h1, h2, h3, congrArg (· + 1) h4, h5, h6⟩
  | .tupx xs, h => by
    rw [okD] at h
    obtain ⟨h1, h2, h3, h4, h5, h6⟩ := ok_canL xs h
    exact ⟨h1, h2, h3, congrArg (· + 1) h4, h5, h6⟩
  | .ty _, h => by simp [okD] at h
  | .ref _, h => by simp [okD] at h
  | .dct _, h => by simp [okD] at h
  | .ins _ _, h => by simp [okD] at h
  | .set _ _, h => by simp [okD] at h
  | .dcT _, h => by simp [okD] at h
  | .dcL _, h => by simp [okD] at h
theorem ok_canL : ∀ (d : List D), okL d = true → PyData.canLayAll0 (toPyL d) = true ∧ PyData.showableAll (toPyL d) = true ∧ PyData.hasDictAll (toPyL d) = false ∧ PyData.depthAll (toPyL d) = dpL d ∧ PyData.weightAll (toPyL d) ≤ wtL d ∧ PyData.intsShortAll 13 (toPyL d) = true
  | [], _ => ⟨rfl, rfl, rfl, rfl, Nat.le_refl _, rfl⟩
  | x :: xs, h => by
    rw [okL, Bool.and_eq_true] at h
    obtain ⟨h1, h2, h3, h4, h5, h6⟩ := ok_can x h.1
    obtain ⟨i1, i2, i3, i4, i5, i6⟩ := ok_canL xs h.2
    refine ⟨?_, ?_, ?_, ?_, ?_, ?_⟩
    · rw [toPyL, PyData.canLayAll0, h1, i1]; rfl
    · rw [toPyL, PyData.showableAll, h2, i2]; rfl
    · rw [toPyL, PyData.hasDictAll, h3, i3]; rfl
    · rw [toPyL, PyData.depthAll, h4, i4]; rfl
    · rw [toPyL, PyData.weightAll, wtL]; omega
    · rw [toPyL, PyData.intsShortAll, h6, i6]; rfl
end
section
variable {X : Cx} {x y : D}
def shownD (d : D) : Str := (toPy d).shown
theorem cd_repr (hg : X.A.guards = some []) (hu : X.A.units + 64 < cLine) (hx : okD x = true) (hd : dpD x ≤ 50) (hw : wtD x ≤ 1000000) (hl : (∃ xs, x = .lst xs) ∨ ∃ xs, x = .tup xs) : CallD X (.builtin "repr") [x] (.str (shownD x)) := fun pins s σ H vs us q I rv ⟨m, hm, h1, k⟩ => by
  obtain ⟨v, rfl, r⟩ := h1.one
  obtain ⟨u, rfl, ru⟩ := rv.one
  obtain ⟨c1, c2, c3, c4, c5, c6⟩ := ok_can x hx
  obtain ⟨as, hr⟩ := Dp.reads I (toPy x) v u ((r.mono (hid_sub m H)).dp (ok_py x hx)) ru
  have hlay : PyData.layable0 (toPy x) = true := by
    unfold PyData.layable0
    rw [c1]
    simp only [Bool.true_and, Bool.and_eq_true, decide_eq_true_eq]
    omega
  have hz : (toPy x).shown.length ≤ sizeLine := Nat.le_trans (shown_le13 hlay c6) (by decide)
  obtain ⟨a, rfl⟩ : ∃ a, u = .ref a := by
    rcases hl with ⟨xs, rfl⟩ | ⟨xs, rfl⟩ <;> (cases r; cases ru; exact ⟨_, rfl⟩)
  refine repr_of_reads' hr c2 (fun z => by rw [c3] at z; cases z) hg (by omega) (fun b o e => e) (fun h' t tk hk => ?_) hz
  exact ⟨.str (shownD x), H, I.kept hk, ⟨t, rfl⟩, k _ H (Sub.refl H) (.str _)⟩
end
def CaG (T : Wd) (x : Str) (k : Nat) (S : SpD) : Prop := ∃ ps, CalG T.P T.w T.K T.mg T.base x k ps S
abbrev CjG (T : Wd) (x : Str) (k : Nat) (S : PSp) : Prop := CaG T x k (jS S)
section
variable {T : Wd}
theorem cjg_of {x : Str} {st : Stmt} {N ps : List Str} {k : Nat} {S : PSp} (df : De T x ps st) (sc : FnScope N ps (defScope st)) (len : ∀ ds Q, S ds Q → ds.length + 1 = ps.length)
    (hbody : N.Nodup → ∀ (f : Addr) (cdv : Value) (A : Around) (outer : List Env) (s : Shared) (H : Hp) (E0 : XK), Room k (cX T N x st f cdv A outer s H E0).A → (cX T N x st f cdv A outer s H E0).A.guards = some [] →
      ∀ m J ds (Q : D → Cs → Prop) E, S ds (fun d => Q d [(J, .jar)]) → XB (cX T N x st f cdv A outer s H E0) (mdOf m [(J, .jar)] H E) (defBody st) ⟨startD N (.ref J :: ds), [(J, .jar)]⟩ (poOf Q)) : CjG T x (k + 1) S :=
  ⟨ps, calg_of df sc (fun ds c Q E ⟨J, ds', h1, h2, h3⟩ => by rw [h1]; exact len ds' _ h3) fun f cdv A outer s H E0 hr hg m ds c Q E h => by
    obtain ⟨J, ds', rfl, rfl, h⟩ := h
    exact hbody sc.nd f cdv A outer s H E0 hr hg m J ds' Q E h⟩
end
section
variable {X : Cx} {μ : Md} {Γ : En} {Q : QE} {k n : Nat} {x : Str} {p pos apos : Pos} {e o : Expr} {es : List Expr}
theorem xe_cjG {S : PSp} (C : CjG (wdX X) x k S) (hr : Room n X.A) (gd : X.A.guards = some []) (hkn : k ≤ n) (hg : Gl X x) (h : XA X μ (e :: es) Γ fun ds Γ1 => ∃ J cs ds', ds = .ref J :: ds' ∧ Γ1.c = (J, .jar) :: cs ∧ ∀ Qc : D → Prop, (∀ d, Q d Γ1 → Qc d) → S ds' Qc) (hdb : (x == ("__debug__" : Str)) = false := by decide)
    (he : starEach (e :: es) X.env = (false, eval e X.env) :: starEach es X.env := by rfl) (hpl : (backTo pos (starEach es X.env)).any (·.1) = false := by rfl) : XE X μ (.Call (.Name x p) (e :: es) [] pos) Γ Q := by
  obtain ⟨ps, C⟩ := C
  refine xe_callG C (hr.mono hkn) gd hg (PA.imp h fun σ H q ⟨R, k⟩ => ⟨R, fun vs H' ds Γ' s' f' R' r' hq => k vs H' ds Γ' s' f' R' r' ?_⟩) hdb he hpl
  obtain ⟨J, cs, ds', rfl, hc, hq⟩ := hq
  exact asks_j hc hq
end
end Pdl
namespace Pdl
open PySem L2 PyProof.Rows PySem.Spec
/-- the tracked part at the law's call: the script alone, unless the module owns it -/
def scr (K : PySem.W.Frag) (a : Addr) (vs : List Value) (ns : List Int) : Hp := fun b => if b = a ∧ K.lookup a = none then some (.frz { cls := .type "list", data := .seq vs.toArray } (.lst (ns.map V.int))) else none
theorem scr_cases {K : PySem.W.Frag} {a : Addr} {vs : List Value} {ns : List Int} (b : Addr) : scr K a vs ns b = none ∨ (b = a ∧ K.lookup a = none ∧ scr K a vs ns b = some (.frz { cls := .type "list", data := .seq vs.toArray } (.lst (ns.map V.int)))) := by
  by_cases h : b = a ∧ K.lookup a = none
  · exact .inr ⟨h.1, h.2, if_pos h⟩
  · exact .inl (if_neg h)
section
variable {P : Program} {w : World} {K : PySem.W.Frag} {mg mb : Str → Option Value} {k : Nat} {fa a : Addr} {fd : FuncData} {x : Str} {sp : Sp} {s₁ : Shared} {vs : List Value} {ns : List Int}
theorem law_callG (kin : K.In s₁.heap) (nsm : s₁.heap.Ns mainGlobals mg) (nsb : s₁.heap.Ns builtinsNs mb) (bb : ∀ x : Str, x ≠ "__name__" → mb x = bootBuiltins x) (nol : s₁.heap.NoLimit) (gen : s₁.gens = #[])
    (at_a : s₁.heap.get? a = some { cls := .type "list", data := .seq vs.toArray }) (hin : IntsAre vs ns) (few : ns.length ≤ sizeLine) (room : Room k callerA)
    (F : ∀ base : Heap, K.In base → base.Ns mainGlobals mg → FnG P w K mg base k fa fd [x] sp) (bind : ∀ (s : Shared) (u : Value), BindsTo s fd ⟨[u], []⟩ [(x, u)])
    (pro : ∀ H : Hp, SqL K H a (ns.map V.int) → sp [.ref a] H (fun v _ => v = .bl true) fun _ _ _ => False) :
    codeAny (model P w) callerA (.call (.ref fa) ⟨[.ref a], []⟩) (fun r s' => r = .ok (.ret (.bool true)) ∧ OldK s₁.heap s'.heap ∧ s'.os = s₁.os ∧ AllBare s'.gens) s₁ := by
  have rel := vals_ints hin
  have inB : ∀ {b : Addr} {o : Obj}, s₁.heap.get? b = some o → scr K a vs ns b = none → (hidT s₁.heap (scr K a vs ns)).get? b = some o := hidT_get
  have dictB : ∀ {b : Addr} {o : Obj} {es : Array DictEntry} {ep : Nat}, s₁.heap.get? b = some o → o.data = .dict es ep → scr K a vs ns b = none := by
    intro b o es ep e d
    rcases scr_cases (K := K) (a := a) (vs := vs) (ns := ns) b with h | ⟨rfl, _, _⟩
    · exact h
    · rw [at_a] at e
      cases e
      cases d
  have spaceB : ∀ {b : Addr} {m : Str → Option Value}, s₁.heap.Ns b m → (hidT s₁.heap (scr K a vs ns)).Ns b m := by
    rintro b m ⟨o, es, ep, e, d, r⟩
    exact ⟨o, es, ep, inB e (dictB e d), d, r⟩
  have kinB : K.In (hidT s₁.heap (scr K a vs ns)) := by
    intro b o e
    refine inB (kin b o e) ?_
    rcases scr_cases (K := K) (a := a) (vs := vs) (ns := ns) b with h | ⟨rfl, h, _⟩
    · exact h
    · rw [h] at e
      cases e
  have modB : Mod K mg (hidT s₁.heap (scr K a vs ns)) := by
    obtain ⟨mc, n1, n2⟩ := nol
    exact ⟨kinB, spaceB nsm, ⟨mb, spaceB nsb, bb⟩, ⟨mc, spaceB n1, n2⟩⟩
  have okB : HOk P w (scr K a vs ns) s₁.heap := by
    intro b u e
    rcases scr_cases (K := K) (a := a) (vs := vs) (ns := ns) b with h | ⟨rfl, _, h⟩
    · rw [h] at e
      cases e
    · rw [h] at e
      cases e
      refine ⟨at_a, ?_, vs, _, rel, at_a⟩
      rw [List.length_map]
      exact few
  have seqB : SqL K (scr K a vs ns) a (ns.map V.int) := by
    cases hk : K.lookup a with
    | none => exact .inl (.inr ⟨{ cls := .type "list", data := .seq vs.toArray }, if_pos ⟨rfl, hk⟩⟩)
    | some o =>
      have e := kin a o hk
      rw [at_a] at e
      cases e
      refine .inr ⟨_, vs.toArray, _, hk, rfl, rfl, rfl, ?_, by simpa using rel⟩
      rw [List.size_toArray, hin.length]
      exact few
  have envB : Env0 P w K mg (hidT s₁.heap (scr K a vs ns)) callerA [] s₁ (scr K a vs ns) := ⟨rfl, modB, fun b o e => of_hidT e, Nat.le_of_eq (hidT_size _ _), trivial, fun b hb => (by cases hb), okB, .of_eq gen⟩
  have go := (F _ kinB (spaceB nsm)).run callerA [] s₁ (scr K a vs ns) ⟨[.ref a], []⟩ [.ref a] [.ref a] _ _ room rfl envB (bind s₁ (.ref a)) (.cons rfl .nil) (pro _ seqB)
  refine codeAny_mono go fun r s' done => ?_
  match r, done with
  | .ok (.ret u), ⟨v, H', os, bare, un, hok', rv, q⟩ =>
    have q : v = .bl true := q
    subst q
    obtain rfl : u = Value.bool true := rv
    refine ⟨rfl, OldK.of_keep fun b o e => ?_, os, bare⟩
    rcases scr_cases (K := K) (a := a) (vs := vs) (ns := ns) b with h | ⟨_, _, h⟩
    · exact un.keep b o e h (fun z => by cases z) (fun z => by cases z)
    · have e1 := (okB b _ h).1
      rw [e] at e1
      cases e1
      exact (hok' b _ (un.frzs b _ _ h)).1
end
end Pdl
namespace Pdl
open PySem L2 PyProof.Rows PySem.Spec
/-- a def's function object: where it is found, its names, its text -/
structure DefX where
  adr : PySem.W.Frag → Addr
  name : Str
  qual : Str
  st : Stmt
abbrev SeenF : Type := Option (Str × Str × Arguments × FuncBody × Scope × Addr × List (Str × Addr) × Value × Addr)
def seenF (K : PySem.W.Frag) (a : Addr) : SeenF := match K.lookup a with
  | some ⟨_, _, .func fd, _⟩ => some (fd.name, fd.qualname, fd.params, fd.body, fd.scope, fd.globals, fd.closure, fd.defaults, fd.builtins)
  | _ => none
def DefX.due (d : DefX) : SeenF := some (d.name, d.qual, defArgs d.st, .stmts (defBody d.st), defScope d.st, mainGlobals, [], .none, builtinsNs)
def DefX.ok (K : PySem.W.Frag) (d : DefX) : Bool := PySem.W.keepIn K (.ref (d.adr K)) && (match K.lookup (d.adr K) with
  | some ⟨_, _, .func fd, _⟩ => PySem.W.codeIn K fd.code d.qual
  | _ => false)
theorem DefX.fo {K : PySem.W.Frag} {d : DefX} (e : seenF K (d.adr K) = d.due) (c : d.ok K = true) : ∃ fd, Fun K d.name d.qual d.st (d.adr K) fd := by
  obtain ⟨kp, c2⟩ := Bool.and_eq_true_iff.mp c
  unfold seenF at e
  cases q : K.lookup (d.adr K) with
  | none => rw [q] at c2; cases c2
  | some o =>
    obtain ⟨oc, od, dt, osl⟩ := o
    rw [q] at c2 e
    cases dt with
    | func fd =>
      obtain ⟨n1, n2, n3, n4, n5, n6, n7, n8, n9, n10, n11, n12, n13, n14, n15⟩ := fd
      unfold DefX.due at e
      simp only [Option.some.injEq, Prod.mk.injEq] at e
      obtain ⟨h1, h2, h3, h4, h5, h6, h7, h8, h9⟩ := e
      subst h1 h2 h3 h4 h5 h6 h7 h8 h9
      exact ⟨_, fun_mk (oc := oc) (od := od) (osl := osl) (kV := n9) (doc := n10) (pm := n11) (an := n12) (cdv := n13) (ct := n14) q c2 kp⟩
    | _ => cases c2
/-- a look at the heap: facts, defs -/
abbrev FB := PySem.W.Frag → Bool
abbrev AlX : Type := Bool × List SeenF
def obsX (fs : List FB) (ds : List DefX) (K : PySem.W.Frag) : AlX := ((fs.all fun f => f K) && ds.all fun d => d.ok K, ds.map fun d => seenF K (d.adr K))
def dueX (ds : List DefX) : AlX := (true, ds.map DefX.due)
def SaysX (fs : List FB) (ds : List DefX) (K : PySem.W.Frag) : Prop := obsX fs ds K = dueX ds
/-- what the objects of a list name -/
def frontG (g : Addr → Option Obj) (as : List Addr) : List Addr := as.flatMap fun a => match g a with
  | some o => He.refsD o
  | none => []
def asF (g : Addr → Option Obj) : Nat → List Addr → List Addr
  | 0, f => f
  | n + 1, f => f ++ asF g n (frontG g f)
/-- the objects of some of the module's names -/
def namedG (g : Addr → Option Obj) (names : List Str) : List Addr := names.filterMap fun x => match PySem.W.nsIn (He.frG g [mainGlobals]) mainGlobals x with
  | some (some (.ref a)) => some a
  | _ => none
def asN (g : Addr → Option Obj) (names : List Str) (n : Nat) : List Addr := mainGlobals :: PySem.cStatics :: asF g n (namedG g names)
def lookX (n : Nat) (names : List Str) (fs : List FB) (ds : List DefX) (g : Addr → Option Obj) : AlX := obsX fs ds (He.frG g (asN g names n))
def hookX (n : Nat) (names : List Str) (fs : List FB) (ds : List DefX) : PySem.W.Hook where
  α := AlX
  obs := fun s => lookX n names fs ds s.heap.get?
  val := fun _ => dueX ds
  says := fun _ h => ∃ K : PySem.W.Frag, K.In h ∧ SaysX fs ds K
  of := fun _ _ e => ⟨_, He.frG_in, e⟩
  keeps := fun _ _ _ ⟨K, hK, c⟩ k => ⟨K, PySem.W.Frag.In.keeps hK k, c⟩
theorem lookX_eq {n : Nat} {names : List Str} {fs : List FB} {ds : List DefX} {g : Addr → Option Obj} {s : Shared} (h : ∀ a, g a = s.heap.get? a) : lookX n names fs ds g = (hookX n names fs ds).obs s := by
  obtain rfl : g = s.heap.get? := funext h
  rfl
section
variable {fs : List FB} {ds : List DefX} {K : PySem.W.Frag}
theorem SaysX.fact (c : SaysX fs ds K) (i : Nat) {f : FB} (h : fs[i]? = some f := by rfl) : f K = true := by
  have c0 : ((fs.all fun f => f K) && ds.all fun d => d.ok K) = true := congrArg Prod.fst c
  exact List.all_eq_true.mp (Bool.and_eq_true_iff.mp c0).1 f (List.mem_of_getElem? h)
theorem SaysX.fo (c : SaysX fs ds K) (i : Nat) {d : DefX} (h : ds[i]? = some d := by rfl) : ∃ fd, Fun K d.name d.qual d.st (d.adr K) fd := by
  have c0 : ((fs.all fun f => f K) && ds.all fun d => d.ok K) = true := congrArg Prod.fst c
  have e : (ds.map fun d => seenF K (d.adr K))[i]? = (ds.map DefX.due)[i]? := by
    have e0 : ds.map (fun d => seenF K (d.adr K)) = ds.map DefX.due := congrArg Prod.snd c
    rw [e0]
  rw [List.getElem?_map, List.getElem?_map, h] at e
  exact DefX.fo (Option.some.inj e) (List.all_eq_true.mp (Bool.and_eq_true_iff.mp c0).2 d (List.mem_of_getElem? h))
end
def gA (x : Str) : PySem.W.Frag → Addr := fun K => He.ga K x
def mA (x m : Str) : PySem.W.Frag → Addr := fun K => He.ma K (He.ga K x) m
def vO (o : Option (Option Value)) (b : Option (Option Value)) : Bool := He.eqO o b
def fFree (x : Str) : FB := fun K => vO (PySem.W.nsIn K mainGlobals x) (some none)
def fGlo (x : Str) : FB := fun K => vO (PySem.W.nsIn K mainGlobals x) (some (some (.ref (gA x K))))
def fInt (x : Str) (i : Int) : FB := (He.Fa.int x i).ok
section
variable {K : PySem.W.Frag} {h : Heap} {mg : Str → Option Value}
theorem glo_mg (X : K.In h) (G : h.Ns mainGlobals mg) {x : Str} (c : fGlo x K = true) : mg x = some (.ref (gA x K)) := PySem.W.mg_of X G (He.eqO_ok c)
theorem free_mg (X : K.In h) (G : h.Ns mainGlobals mg) {x : Str} (c : fFree x K = true) : mg x = none := PySem.W.mg_none_of X G (He.eqO_ok c)
theorem int_mg (X : K.In h) (G : h.Ns mainGlobals mg) {x : Str} {i : Int} (c : fInt x i K = true) : GI mg x i := He.int_ok X G c
end
section
variable {T : Wd} {h : Heap}
theorem de_at {x : Str} {st : Stmt} {ps : List Str} (KX : T.K.In h) (G : h.Ns mainGlobals T.mg) (a : fGlo x T.K = true) (o : ∃ fd, Fun T.K x x st (gA x T.K) fd)
    (b : ∀ (kV doc pm : Value) (an : Option Addr) (cdv ct : Value) (us : List Value), us.length = ps.length → bindArgs (PySem.W.fnOf x x (defArgs st) (defBody st) (defScope st) .none kV doc pm an cdv ct) ⟨us, []⟩ = pure (ps.zip us)) : De T x ps st := by
  obtain ⟨fd, F⟩ := o
  exact ⟨_, fd, glo_mg KX G a, F.kp, F, F.binds b⟩
end
end Pdl
namespace Pdl
open PySem L2 PyProof.Rows PySem.Spec
/-- the law: at every script of whole numbers it is true -/
def sLaw : SpD := fun ds c Q _ => c = [] ∧ (∃ ns : List Int, ds = [.lst (ns.map D.int)] ∧ ns.length ≤ 1000) ∧ ∀ c', Q (.bl true) c'
theorem law_sp {K : PySem.W.Frag} {H : Hp} {a : Addr} {ns : List Int} (hl : ns.length ≤ 63) (hS : SqL K H a (ns.map V.int)) : spD K sLaw [.ref a] H (fun v _ => v = .bl true) fun _ _ _ => False := by
  have e : hid (tot (fun _ => false) []) H = H := by
    funext b
    simp [hid, tot, inC]
  refine ⟨fun _ => false, [.lst (ns.map D.int)], [], ⟨fun a h => (by cases h), List.nodup_nil, fun p hp => (by cases hp), fun p hp => (by cases hp)⟩, ?_, rfl, ⟨ns, rfl, by omega⟩, fun c' v H' _ _ rv => ?_⟩
  · rw [e]
    exact .cons (.lst hS (RpA.ints ns)) .nil
  · cases rv
    rfl
theorem fn_GD {P : Program} {w : World} {K : PySem.W.Frag} {mg : Str → Option Value} {base : Heap} {x qual : Str} {st : Stmt} {f : Addr} {fd : FuncData} {N ps : List Str} {k : Nat} {S : SpD} (F : Fun K x qual st f fd) (sc : FnScope N ps (defScope st)) (len : ∀ ds c Q E, S ds c Q E → ds.length = ps.length)
    (hbody : ∀ (cdv : Value) (A : Around) (outer : List Env) (s : Shared) (H : Hp) (E0 : XK), Room k (bX P w K mg base N qual st f cdv A outer s H E0).A → (bX P w K mg base N qual st f cdv A outer s H E0).A.guards = some [] →
      ∀ m ds c Q E, S ds c Q E → XB (bX P w K mg base N qual st f cdv A outer s H E0) (mdOf m c H E) (defBody st) ⟨startD N ds, c⟩ (poOf Q)) : FnG P w K mg base (k + 1) f fd ps (spD K S) := by
  refine fn_G F sc (fun vs H Q E h => ?_) (fun cdv A outer s H vs Q E hr hg h => ?_)
  · obtain ⟨m, ds, c, _, r, hs⟩ := h
    rw [r.length]
    exact len _ _ _ _ hs
  · exact body_D (X := bX P w K mg base N qual st f cdv A outer s H E) rfl (fun m ds c Q' E' _ hs => hbody cdv A outer s H E hr hg m ds c Q' E' hs) h
section
variable {l : PySem.W.OpenLaw} {q : Program} {loose : List Str} {XP : (Str → Option Value) → Heap → Prop} {fs : List FB} {ds : List DefX} {names : List Str} {n k : Nat} {d : DefRec}
theorem walk_endG (most : l.most = some 63) (nodef : d.params.defaults = []) (room : Room k callerA) (hname : d.name = ("law" : Str))
    (F : ∀ (w : World) (mg : Str → Option Value) (fa : Addr) (h : Heap) {K : PySem.W.Frag}, K.In h → h.Ns mainGlobals mg → mg "law" = some (.ref fa) → SaysX fs ds K → ∃ fd : FuncData, (∀ (s : Shared) (v : Value), BindsTo s fd ⟨[v], []⟩ [("_law_script", v)]) ∧ ∀ base : Heap, K.In base → base.Ns mainGlobals mg → FnG l.prog w K mg base k fa fd ["_law_script"] (spD K sLaw)) :
    PySem.W.WalkO q loose XP (hookX n names fs ds).says l.row.toRowW d [] (fun f vs => PySem.call f vs) := by
  refine Att.attach_call most nodef fun w s₀ s₁ mg mb fa o pm cd doc a vs ns G Y ho hd hcd hmg hobj hints hlen hg => ?_
  obtain ⟨K, KX, c⟩ := Y
  rw [hname] at hmg
  obtain ⟨fd, bind, hF⟩ := F w mg fa _ KX G.T.g hmg c
  exact law_callG KX G.T.g G.T.b G.T.builtins G.T.nolimit hg hobj hints (Nat.le_trans hlen (by decide)) room hF bind fun H hS => law_sp hlen hS
end
end Pdl
namespace Pdl
open PySem L2 PyProof.Rows
def itOn : Nat → List (List Nat) → List (List Nat)
  | 0, L => L
  | n + 1, L => itOn n (onL L)
def rkB (as : List (List Nat)) : Bool := decide (itOn as.length as = [])
theorem ranked_back {L : List (List Nat)} (h2 : Two L) (h : Ranked (onL L)) : Ranked L := by
  obtain ⟨r, hr⟩ := h
  refine ⟨fun x => if (L.any fun o => decide ([snd2 o] = [x])) = true then r x + 1 else 0, fun a b hl => ?_⟩
  have hb : (L.any fun o => decide ([snd2 o] = [b])) = true := List.any_eq_true.mpr ⟨_, hl, by simp [snd2]⟩
  show (if (L.any fun o => decide ([snd2 o] = [a])) = true then r a + 1 else 0) < (if (L.any fun o => decide ([snd2 o] = [b])) = true then r b + 1 else 0)
  rw [if_pos hb]
  by_cases ha : (L.any fun o => decide ([snd2 o] = [a])) = true
  · rw [if_pos ha]
    have := hr a b (List.mem_filter.mpr ⟨hl, ha⟩)
    omega
  · rw [if_neg ha]
    omega
theorem itOn_ranked : ∀ (n : Nat) {L : List (List Nat)}, Two L → itOn n L = [] → Ranked L
  | 0, L, _, h => by
    have h : L = [] := h
    subst h
    exact ⟨fun _ => 0, fun a b hl => by cases hl⟩
  | n + 1, L, h2, h => ranked_back h2 (itOn_ranked n (onL_two h2) h)
theorem itOn_nil : ∀ (n : Nat), itOn n [] = []
  | 0 => rfl
  | n + 1 => itOn_nil n
theorem itOn_end : ∀ (n : Nat) {L : List (List Nat)}, Two L → Ranked L → L.length ≤ n → itOn n L = []
  | 0, L, _, _, h => List.length_eq_zero_iff.mp (Nat.le_zero.mp h)
  | n + 1, L, h2, hr, h => by
    by_cases hne : L = []
    · subst hne
      exact itOn_nil (n + 1)
    · have := onL_less h2 hr hne
      exact itOn_end n (onL_two h2) (onL_ranked hr) (by omega)
theorem rkB_iff {as : List (List Nat)} (h2 : Two as) : rkB as = true ↔ Ranked as := by
  unfold rkB
  rw [decide_eq_true_iff]
  exact ⟨itOn_ranked _ h2, fun h => itOn_end _ h2 h (Nat.le_refl _)⟩
theorem rkB_t {as : List (List Nat)} (h2 : Two as) (h : Ranked as) : rkB as = true := (rkB_iff h2).mpr h
def sTap : PSp := fun ds Q => ∃ n : Nat, ds = [.int (n : Int)] ∧ 1 ≤ n ∧ n ≤ 1000000 ∧ ∀ i : Nat, i < n → Q (.int (i : Int))
def sPick : PSp := fun ds Q => ∃ (d : D) (xs : List D), ds = [d] ∧ (d = .lst xs ∨ d = .tup xs ∨ ∃ l, d = .str (S l) ∧ xs = l.map fun c => .str (S [c])) ∧ xs ≠ [] ∧ xs.length ≤ 100000 ∧ ∀ x ∈ xs, Q x
def kKeg : List D → Prop := fun ds => ∃ (ns : List Int) (k : Nat), ds = [.lst (ns.map D.int), .int (k : Int)] ∧ k ≤ 100 ∧ ns.length ≤ 1000
def sRight : PSp := fun ds Q => ds = [] ∧ Q (.bl true)
end Pdl
namespace Pdl
open PySem L2 PyProof.Rows
/-- the list that is being made stands at p, hidden -/
def LcSt (K : PySem.W.Frag) (μ : Md) (p : Addr) (c1 : Cs) (H1 : Hp) (σ : L2.St) (s : List (Option D)) (acc : List D) (c : Cs) (H : Hp) : Prop :=
  ∃ vs, H p = some (.lst vs) ∧ RpA K (hid (tot μ.m c) H) vs acc ∧ Fw c1 c H1 H ∧ Rel K μ H σ ⟨s, c⟩
section
variable {K : PySem.W.Frag} {μ : Md} {p : Addr} {c1 c c' : Cs} {H1 H H' : Hp} {σ σ' : L2.St} {s s' : List (Option D)} {acc : List D} {y : V} {d : D}
theorem LcSt.off (mp : μ.m p = true) (R : Rel K μ H σ ⟨s, c⟩) : inC c p = false := by
  cases e : inC c p with
  | false => rfl
  | true =>
    obtain ⟨r, hr, er⟩ := of_inC e
    have := R.co.off r hr
    rw [er, mp] at this
    cases this
theorem LcSt.next (mp : μ.m p = true) (h : LcSt K μ p c1 H1 σ s acc c H) (f : Fw c c' H H') (R : Rel K μ H' σ' ⟨s', c'⟩) : LcSt K μ p c1 H1 σ' s' acc c' H' := by
  obtain ⟨vs, h1, h2, h3, h4⟩ := h
  exact ⟨vs, (f _ _ (LcSt.off mp h4) h1).1, h2.mono f.sub, h3.trans f, R⟩
theorem LcSt.push (mp : μ.m p = true) (hp : H1 p = none) (hp0 : μ.H0 p = none) (h : LcSt K μ p c1 H1 σ s acc c H) (r : Rp K (hid (tot μ.m c) H) y d) : ∃ vs, H p = some (.lst vs) ∧ vs.length = acc.length ∧ LcSt K μ p c1 H1 σ s (acc ++ [d]) c (upd H p (.lst (vs ++ [y]))) := by
  obtain ⟨vs, h1, h2, h3, h4⟩ := h
  have tp : tot μ.m c p = true := by unfold tot; rw [mp]; rfl
  refine ⟨vs, h1, h2.length, vs ++ [y], upd_same, ?_, ?_, ⟨⟨fun a ha => ?_, h4.co.nd, h4.co.off, fun r hr => ?_⟩, ?_, fun a o ha e => ?_⟩⟩
  · rw [hid_msk tp]
    exact h2.app (.cons r .nil)
  · intro a o ha e
    obtain ⟨z1, z2⟩ := h3 a o ha e
    exact ⟨by rw [upd_ne (ne_of_none e hp)]; exact z1, z2⟩
  · by_cases ea : a = p
    · subst ea; exact ⟨_, upd_same, rfl⟩
    · obtain ⟨o, ho, z⟩ := h4.co.dom a ha
      exact ⟨o, by rw [upd_ne ea]; exact ho, z⟩
  · have hne : r.1 ≠ p := fun z => by
      have := h4.co.off r hr
      rw [z, mp] at this
      cases this
    show CellRp K (hid (tot μ.m c) (upd H p _)) (upd H p _ r.1) r.2
    rw [hid_msk tp, upd_ne hne]
    exact h4.co.cells r hr
  · show SlotRp K (hid (tot μ.m c) (upd H p _)) _ _
    rw [hid_msk tp]
    exact h4.slots
  · obtain ⟨z1, z2⟩ := h4.fw a o ha e
    exact ⟨by rw [upd_ne (ne_of_none e hp0)]; exact z1, z2⟩
end
end Pdl
namespace Pdl
open PySem L2 PyProof.Rows PySem.W
section
variable {α : Type}
def leE (e : α → D) : α → α → Bool := dataLe false fun a => toPy (e a)
def srtE (e : α → D) (l : List α) : List α := l.mergeSort (leE e)
/-- keys tell the things of l apart -/
def KInj (e : α → D) (l : List α) : Prop := ∀ a ∈ l, ∀ b ∈ l, keyToks (toPy (e a)) = keyToks (toPy (e b)) → a = b
theorem leE_trans (e : α → D) (a b c : α) (h1 : leE e a b = true) (h2 : leE e b c = true) : leE e a c = true := (sortLe_total (listOrd itemOrd) false fun a => keyToks (toPy (e a))).trans a b c h1 h2
theorem leE_total (e : α → D) (a b : α) : (leE e a b || leE e b a) = true := by
  have := (sortLe_total (listOrd itemOrd) false fun a => keyToks (toPy (e a))).total a b
  unfold leE dataLe
  rcases this with h | h <;> simp [h]
theorem leE_anti {e : α → D} {l : List α} (hk : KInj e l) {a b : α} (ha : a ∈ l) (hb : b ∈ l) (h1 : leE e a b = true) (h2 : leE e b a = true) : a = b := by
  have h1' : (!PyProof.Rows.lexLt itemOrd (keyToks (toPy (e b))) (keyToks (toPy (e a)))) = true := h1
  have h2' : (!PyProof.Rows.lexLt itemOrd (keyToks (toPy (e a))) (keyToks (toPy (e b)))) = true := h2
  rw [Bool.not_eq_true'] at h1' h2'
  exact hk a ha b hb (lex_total _ _ h2' h1')
theorem srtE_perm (e : α → D) (l : List α) : (srtE e l).Perm l := List.mergeSort_perm _ _
theorem srtE_sorted (e : α → D) (l : List α) : (srtE e l).Pairwise fun a b => leE e a b = true := List.pairwise_mergeSort (leE_trans e) (leE_total e) l
theorem srtE_eq {e : α → D} {l m : List α} (hk : KInj e l) (hs : m.Pairwise fun a b => leE e a b = true) (hp : m.Perm l) : srtE e l = m :=
  List.Perm.eq_of_pairwise (fun a b ha hb h1 h2 => leE_anti hk ((srtE_perm e l).mem_iff.mp ha) (hp.mem_iff.mp hb) h1 h2) (srtE_sorted e l) hs ((srtE_perm e l).trans hp.symm)
theorem srtE_same {e : α → D} {l m : List α} (hk : KInj e l) (hp : m.Perm l) : srtE e m = srtE e l :=
  (srtE_eq hk (srtE_sorted e m) ((srtE_perm e m).trans hp)).symm
end
def tS (ls : List (List Nat)) : D := .tup (SL ls)
theorem keys_SL : ∀ {a b : List (List Nat)}, keyToksAll (toPyL (SL a)) = keyToksAll (toPyL (SL b)) → a = b
  | [], [], _ => rfl
  | [], y :: b, h => by
    have h : keyToksAll [] = keyToksAll (.str (S y) :: toPyL (SL b)) := h
    simp [keyToksAll] at h
  | x :: a, [], h => by
    have h : keyToksAll (.str (S x) :: toPyL (SL a)) = keyToksAll [] := h
    simp [keyToksAll] at h
  | x :: a, y :: b, h => by
    have h : keyToksAll (.str (S x) :: toPyL (SL a)) = keyToksAll (.str (S y) :: toPyL (SL b)) := h
    simp only [keyToksAll, keyToks, List.cons_append, List.nil_append, List.cons.injEq, Sum.inr.injEq] at h
    obtain ⟨_, h1, h2⟩ := h
    rw [keys_SL h2]
    have h1 : x = y := h1
    rw [h1]
theorem kinj_tS (l : List (List (List Nat))) : KInj tS l := fun a _ b _ h => by
  have h : keyToks (.tuple (toPyL (SL a))) = keyToks (.tuple (toPyL (SL b))) := h
  unfold keyToks at h
  exact keys_SL h
end Pdl
namespace Pdl
open PySem L2 PyProof.Rows
section
variable {X : Cx} {μ : Md} {Γ : En} {Q : QE} {a b c e o it tg elt : Expr} {es ifs : List Expr} {pos apos cpos tpos p : Pos} {x y d : D} {m : Addr → Bool} {H : Hp} {P : Po} {scope : Scope}
theorem xe_me {pl : Sem Bool} {k n : Nat} {C : Addr} {f : Str} {S : PSp} (M : Me (wdX X) C f k S) (hr : Room n X.A) (hkn : k ≤ n) (h : XE X μ o Γ fun z Γ1 => ∃ fs, z = .ins C fs ∧ fs.lookup f = none ∧ XA X μ (e :: es) Γ1 fun ds Γ2 => ∀ Qc : D → Prop, (∀ d, Q d Γ2 → Qc d) → S (.ins C fs :: ds) Qc)
    (hst : starEach (e :: es) X.env = (false, eval e X.env) :: starEach es X.env := by rfl) (hpl : (backTo pos (starEach es X.env)).any (·.1) = false := by rfl)
    (ht : eval (.Call (.Attribute o f apos) (e :: es) [] pos) X.env = (do
      let ov ← eval o X.env
      standAt apos.atName
      let (f, first) ← holding [ov] (getMethod ov f pl)
      callWith pos f first (backTo pos (starEach (e :: es) X.env)) (backToKw pos (keywordEach [] X.env))) := by rfl) : XE X μ (.Call (.Attribute o f apos) (e :: es) [] pos) Γ Q :=
  xe_meth M (hr.mono hkn) (h.imp fun d Γ' ⟨fs, e1, e2, hq⟩ => ⟨fs, e1, e2, PA.imp hq fun σ H q ⟨R, k⟩ => ⟨R, fun vs H' ds Γ'' s' f' R' r' hq => k vs H' ds Γ'' s' f' R' r' (asks_p hq)⟩⟩) hst hpl ht
end
end Pdl
namespace Pdl
open PySem L2 PyProof.Rows
section
variable {X : Cx} {μ : Md} {Γ : En} {Q : QE} {a b c e e2 o it tg elt : Expr} {es ifs : List Expr} {pos apos cpos tpos p : Pos} {x y d : D} {m : Addr → Bool} {H : Hp} {P : Po} {scope : Scope}
theorem RpK.val {K : PySem.W.Frag} {G : Hp} {k : Key} : ∀ {vs : List (Key × V)} {ds : List (Key × D)}, RpK K G vs ds → ∀ {d : D}, (ds.find? fun q => decide (q.1 = k)) = some (k, d) → ∃ v, valV vs k = some v ∧ Rp K G v d
  | _, _, .nil, d, h => by simp at h
  | _, _, .cons (k := k') (v := v') (d := d') h t, d, e => by
    by_cases hk : k' = k
    · subst hk
      rw [List.find?_cons] at e
      simp at e
      subst e
      exact ⟨v', by simp [valV], h⟩
    · rw [List.find?_cons] at e
      simp only [hk, decide_false] at e
      obtain ⟨v, h1, h2⟩ := RpK.val t e
      refine ⟨v, ?_, h2⟩
      unfold valV at h1 ⊢
      rw [List.find?_cons]
      simp only [hk, decide_false]
      exact h1
end
end Pdl
namespace Pdl
/-- arrows with those of a place the other way -/
def exF (p : Nat) (l : List Nat) : List Nat := if p ∈ l then l.reverse else l
def exch (as : List (List Nat)) (p : Nat) : List (List Nat) := as.map (exF p)
def Gives (as : List (List Nat)) (p : Nat) : Prop := ∀ a, [a, p] ∉ as
def Takes (as : List (List Nat)) (p : Nat) : Prop := ∀ a, [p, a] ∉ as
/-- a row of turnings leads from arrows to others -/
inductive Row : List (List Nat) → List Nat → List (List Nat) → Prop
  | nil {as} : Row as [] as
  | cons {as p row bs} : p ∈ as.flatten → Gives as p → Row (exch as p) row bs → Row as (p :: row) bs
def NoLoop (as : List (List Nat)) : Prop := ∀ a, [a, a] ∉ as
theorem Ranked.noLoop {as : List (List Nat)} (h : Ranked as) : NoLoop as := fun a ha => by
  obtain ⟨r, hr⟩ := h
  exact Nat.lt_irrefl _ (hr a a ha)
theorem exF_two {p a b : Nat} : exF p [a, b] = if p = a ∨ p = b then [b, a] else [a, b] := by
  unfold exF
  simp only [List.mem_cons, List.not_mem_nil, or_false]
  rfl
theorem exch_two {as : List (List Nat)} {p : Nat} (h : Two as) : Two (exch as p) := fun l hl => by
  obtain ⟨t, ht, rfl⟩ := List.mem_map.mp hl
  obtain ⟨a, b, rfl⟩ := h t ht
  rw [exF_two]
  split
  · exact ⟨b, a, rfl⟩
  · exact ⟨a, b, rfl⟩
theorem pr2_comm {a b : Nat} : pr2 [a, b] = pr2 [b, a] := by
  show (if b < a then [b, a] else [a, b]) = (if a < b then [a, b] else [b, a])
  by_cases h1 : b < a
  · rw [if_pos h1, if_neg (by omega)]
  · by_cases h2 : a < b
    · rw [if_neg h1, if_pos h2]
    · have : a = b := by omega
      subst this
      simp
theorem exF_pr2 {p : Nat} {l : List Nat} (h : ∃ a b, l = [a, b]) : pr2 (exF p l) = pr2 l := by
  obtain ⟨a, b, rfl⟩ := h
  rw [exF_two]
  split
  · exact pr2_comm
  · rfl
theorem exch_pr2 {as : List (List Nat)} {p : Nat} (h : Two as) : (exch as p).map pr2 = as.map pr2 := by
  unfold exch
  rw [List.map_map]
  exact List.map_congr_left fun l hl => exF_pr2 (h l hl)
theorem mem_exF {p x : Nat} {l : List Nat} : x ∈ exF p l ↔ x ∈ l := by
  unfold exF
  split
  · simp
  · rfl
theorem mem_exch_flat {as : List (List Nat)} {p x : Nat} : x ∈ (exch as p).flatten ↔ x ∈ as.flatten := by
  simp only [List.mem_flatten, exch]
  constructor
  · rintro ⟨l, hl, hx⟩
    obtain ⟨t, ht, rfl⟩ := List.mem_map.mp hl
    exact ⟨t, ht, mem_exF.mp hx⟩
  · rintro ⟨l, hl, hx⟩
    exact ⟨_, List.mem_map_of_mem hl, mem_exF.mpr hx⟩
theorem mem_exch {as : List (List Nat)} {p a b : Nat} (h2 : Two as) : [a, b] ∈ exch as p ↔ ((p = a ∨ p = b) ∧ [b, a] ∈ as) ∨ (¬ (p = a ∨ p = b) ∧ [a, b] ∈ as) := by
  unfold exch
  rw [List.mem_map]
  constructor
  · rintro ⟨t, ht, e⟩
    obtain ⟨x, y, rfl⟩ := h2 t ht
    rw [exF_two] at e
    split at e
    · rename_i h
      simp at e
      obtain ⟨rfl, rfl⟩ := e
      exact .inl ⟨h.symm, ht⟩
    · rename_i h
      simp at e
      obtain ⟨rfl, rfl⟩ := e
      exact .inr ⟨h, ht⟩
  · rintro (⟨h, ht⟩ | ⟨h, ht⟩)
    · exact ⟨_, ht, by rw [exF_two, if_pos h.symm]⟩
    · exact ⟨_, ht, by rw [exF_two, if_neg h]⟩
/-- a giver turned: no ring comes -/
theorem exch_ranked {as : List (List Nat)} {p : Nat} (h2 : Two as) (hr : Ranked as) (hg : Gives as p) : Ranked (exch as p) := by
  obtain ⟨r, h⟩ := hr
  have hl : NoLoop as := Ranked.noLoop ⟨r, h⟩
  obtain ⟨M, hM⟩ : ∃ M, ∀ a b, [a, b] ∈ as → r a < M ∧ r b < M := by
    clear hl hg
    induction as with
    | nil => exact ⟨0, fun a b h => by cases h⟩
    | cons l ls ih =>
      obtain ⟨M, hM⟩ := ih (fun l hl => h2 l (List.mem_cons_of_mem _ hl)) fun a b hab => h a b (List.mem_cons_of_mem _ hab)
      obtain ⟨x, y, rfl⟩ := h2 l List.mem_cons_self
      refine ⟨M + r x + r y + 1, fun a b hab => ?_⟩
      rcases List.mem_cons.mp hab with e | e
      · simp at e
        obtain ⟨rfl, rfl⟩ := e
        omega
      · have := hM a b e
        omega
  refine ⟨fun x => if x = p then M else r x, fun a b hab => ?_⟩
  rcases (mem_exch h2).mp hab with ⟨h1, h3⟩ | ⟨h1, h3⟩
  · have h4 : p ≠ a := fun e => hg b (e ▸ h3)
    have h5 : p = b := h1.resolve_left h4
    subst h5
    show (if a = p then M else r a) < (if p = p then M else r p)
    rw [if_neg (fun e => h4 e.symm), if_pos rfl]
    exact (hM _ _ h3).2
  · show (if a = p then M else r a) < (if b = p then M else r b)
    rw [if_neg (fun e => h1 (.inl e.symm)), if_neg (fun e => h1 (.inr e.symm))]
    exact h a b h3
theorem exch_takes {as : List (List Nat)} {p : Nat} (h2 : Two as) (hg : Gives as p) : Takes (exch as p) p := fun a ha => by
  rcases (mem_exch h2).mp ha with ⟨_, h⟩ | ⟨h, _⟩
  · exact hg a h
  · exact h (.inl rfl)
/-- numbers with the differences that two lots of arrows on the same ties ask for -/
def Fit (as bs : List (List Nat)) (f : Nat → Int) : Prop := ∀ (i a b : Nat) (o : List Nat), as[i]? = some [a, b] → bs[i]? = some o → f a - f b = if [a, b] = o then 0 else 1
/-- the same ties -/
def SameW (as bs : List (List Nat)) : Prop := as.map pr2 = bs.map pr2
theorem SameW.len {as bs : List (List Nat)} (h : SameW as bs) : as.length = bs.length := by
  have := congrArg List.length h
  simpa using this
theorem pr2_inv {a b c d : Nat} (h : pr2 [a, b] = pr2 [c, d]) : (a = c ∧ b = d) ∨ (a = d ∧ b = c) := by
  have h : (if b < a then [b, a] else [a, b]) = (if d < c then [d, c] else [c, d]) := h
  split at h <;> split at h <;> simp at h <;> omega
theorem SameW.at {as bs : List (List Nat)} (h : SameW as bs) (h2 : Two bs) {i a b : Nat} {o : List Nat} (h3 : as[i]? = some [a, b]) (h4 : bs[i]? = some o) : o = [a, b] ∨ o = [b, a] := by
  obtain ⟨c, d, rfl⟩ := h2 o (List.mem_of_getElem? h4)
  have e : (as.map pr2)[i]? = (bs.map pr2)[i]? := by rw [h]
  rw [List.getElem?_map, List.getElem?_map, h3, h4] at e
  have e : pr2 [a, b] = pr2 [c, d] := Option.some.inj e
  rcases pr2_inv e with ⟨rfl, rfl⟩ | ⟨rfl, rfl⟩
  · exact .inl rfl
  · exact .inr rfl
theorem exch_at {as : List (List Nat)} {p i : Nat} : (exch as p)[i]? = (as[i]?).map (exF p) := by
  unfold exch
  rw [List.getElem?_map]
/-- one turning less -/
theorem Fit.turn {as bs : List (List Nat)} {f : Nat → Int} {p : Nat} (h2 : Two as) (h2' : Two bs) (hs : SameW as bs) (hl : NoLoop as) (hg : Gives as p) (h : Fit as bs f) : Fit (exch as p) bs (fun x => if x = p then f x - 1 else f x) := fun i a b o h3 h4 => by
  rw [exch_at] at h3
  cases e : as[i]? with
  | none => rw [e] at h3; cases h3
  | some t =>
    obtain ⟨x, y, rfl⟩ := h2 t (List.mem_of_getElem? e)
    rw [e] at h3
    have h3 : exF p [x, y] = [a, b] := Option.some.inj h3
    have hne : x ≠ y := fun z => hl x (z ▸ List.mem_of_getElem? (z ▸ e))
    have hyp : p ≠ y := fun z => hg x (List.mem_of_getElem? (z ▸ e))
    have hf := h i x y o e h4
    have ho := hs.at h2' e h4
    rw [exF_two] at h3
    by_cases hx : p = x
    · subst hx
      rw [if_pos (.inl rfl)] at h3
      simp at h3
      obtain ⟨rfl, rfl⟩ := h3
      show (if y = p then f y - 1 else f y) - (if p = p then f p - 1 else f p) = _
      rw [if_neg (fun z => hyp z.symm), if_pos rfl]
      rcases ho with rfl | rfl
      · rw [if_pos rfl] at hf
        rw [if_neg (by simp; intro z; exact absurd z.symm hne)]
        omega
      · rw [if_neg (by simp; intro z; exact absurd z hne)] at hf
        rw [if_pos rfl]
        omega
    · rw [if_neg (by rintro (z | z); exact hx z; exact hyp z)] at h3
      simp at h3
      obtain ⟨rfl, rfl⟩ := h3
      show (if x = p then f x - 1 else f x) - (if y = p then f y - 1 else f y) = _
      rw [if_neg (fun z => hx z.symm), if_neg (fun z => hyp z.symm)]
      exact hf
/-- .. one more -/
theorem Fit.back {as bs : List (List Nat)} {f : Nat → Int} {p : Nat} (h2 : Two as) (h2' : Two bs) (hs : SameW as bs) (hl : NoLoop as) (hg : Gives as p) (h : Fit (exch as p) bs f) : Fit as bs (fun x => if x = p then f x + 1 else f x) := fun i x y o e h4 => by
  have hne : x ≠ y := fun z => hl x (z ▸ List.mem_of_getElem? (z ▸ e))
  have hyp : p ≠ y := fun z => hg x (List.mem_of_getElem? (z ▸ e))
  have ho := hs.at h2' e h4
  have e' : (exch as p)[i]? = some (exF p [x, y]) := by rw [exch_at, e]; rfl
  rw [exF_two] at e'
  show (if x = p then f x + 1 else f x) - (if y = p then f y + 1 else f y) = _
  rw [if_neg (c := y = p) (fun z => hyp z.symm)]
  by_cases hx : p = x
  · subst hx
    rw [if_pos (.inl rfl)] at e'
    have hf := h i y p o e' h4
    rw [if_pos rfl]
    rcases ho with rfl | rfl
    · rw [if_neg (by simp; intro z; exact absurd z.symm hne)] at hf
      rw [if_pos rfl]
      omega
    · rw [if_pos rfl] at hf
      rw [if_neg (by simp; intro z; exact absurd z hne)]
      omega
  · rw [if_neg (by rintro (z | z); exact hx z; exact hyp z)] at e'
    rw [if_neg (fun z => hx z.symm)]
    exact h i x y o e' h4
theorem Fit.refl {as : List (List Nat)} : Fit as as (fun _ => 0) := fun i a b o h1 h2 => by
  rw [h1] at h2
  cases h2
  simp
/-- a row: its counts fit -/
theorem Row.facts {as bs : List (List Nat)} {row : List Nat} (h : Row as row bs) : Two as → Ranked as → Two bs ∧ Ranked bs ∧ SameW as bs ∧ Fit as bs (fun x => (row.count x : Int)) := by
  induction h with
  | nil => exact fun h2 hr => ⟨h2, hr, rfl, Fit.refl⟩
  | @cons as p row bs hp hg h ih =>
    intro h2 hr
    obtain ⟨i1, i2, i3, i4⟩ := ih (exch_two h2) (exch_ranked h2 hr hg)
    have hs : SameW as bs := (exch_pr2 h2).symm.trans i3
    refine ⟨i1, i2, hs, ?_⟩
    have := Fit.back h2 i1 hs hr.noLoop hg i4
    intro i a b o e1 e2
    have := this i a b o e1 e2
    rw [← this]
    have hc : ∀ x, ((p :: row).count x : Int) = if x = p then (row.count x : Int) + 1 else (row.count x : Int) := fun x => by
      rw [List.count_cons]
      by_cases hx : x = p
      · subst hx
        simp
      · rw [if_neg hx, if_neg (by simpa using fun z => hx z.symm)]
        simp
    show ((p :: row).count a : Int) - ((p :: row).count b : Int) = _
    rw [hc, hc]
/-- the places of some arrows; a finite maximum -/
theorem max_on (f : Nat → Int) : ∀ (l : List Nat), l ≠ [] → ∃ x ∈ l, ∀ y ∈ l, f y ≤ f x
  | [], h => absurd rfl h
  | [x], _ => ⟨x, by simp, by simp⟩
  | x :: y :: l, _ => by
    obtain ⟨z, hz, hm⟩ := max_on f (y :: l) (by simp)
    by_cases h : f z ≤ f x
    · refine ⟨x, by simp, fun w hw => ?_⟩
      rcases List.mem_cons.mp hw with rfl | hw
      · exact Int.le_refl _
      · have := hm w hw
        omega
    · refine ⟨z, List.mem_cons_of_mem _ hz, fun w hw => ?_⟩
      rcases List.mem_cons.mp hw with rfl | hw
      · omega
      · exact hm w hw
/-- where numbers fit and some are above 0, a place above 0 gives -/
theorem Fit.giver {as bs : List (List Nat)} {f : Nat → Int} (h2 : Two as) (hr : Ranked as) (hs : SameW as bs) (h : Fit as bs f) {p : Nat} (hp : p ∈ as.flatten) (hf : 0 < f p) : ∃ q ∈ as.flatten, 0 < f q ∧ Gives as q := by
  obtain ⟨r, hr⟩ := hr
  obtain ⟨m, hm, hmax⟩ := max_on f as.flatten (fun e => by rw [e] at hp; cases hp)
  have hne : as.flatten.filter (fun x => f x == f m) ≠ [] := fun e => by
    have : m ∈ as.flatten.filter (fun x => f x == f m) := List.mem_filter.mpr ⟨hm, by simp⟩
    rw [e] at this
    cases this
  obtain ⟨q, hq, hmin⟩ := max_on (fun x => - (r x : Int)) _ hne
  obtain ⟨hq1, hq2⟩ := List.mem_filter.mp hq
  have hq2 : f q = f m := by simpa using hq2
  refine ⟨q, hq1, by have := hmax p hp; omega, fun a ha => ?_⟩
  obtain ⟨i, hi⟩ := List.getElem?_of_mem ha
  have hlt : i < bs.length := by rw [← hs.len]; exact (List.getElem?_eq_some_iff.mp hi).1
  have e1 := h i a q bs[i] hi (List.getElem?_eq_getElem hlt)
  have ha1 : a ∈ as.flatten := List.mem_flatten.mpr ⟨_, ha, by simp⟩
  have e2 := hmax a ha1
  have e3 : f a = f m := by split at e1 <;> omega
  have e4 := hmin a (List.mem_filter.mpr ⟨ha1, by simp [e3]⟩)
  have e5 := hr a q ha
  omega
theorem Fit.zero {as bs : List (List Nat)} {f : Nat → Int} (h2 : Two as) (hs : SameW as bs) (h : Fit as bs f) (h0 : ∀ x ∈ as.flatten, f x = 0) : as = bs := by
  refine List.ext_getElem? fun i => ?_
  cases e : as[i]? with
  | none =>
    have : as.length ≤ i := by simpa using e
    rw [List.getElem?_eq_none (by rw [← hs.len]; exact this)]
  | some l =>
    obtain ⟨a, b, rfl⟩ := h2 l (List.mem_of_getElem? e)
    have hlt : i < bs.length := by rw [← hs.len]; exact (List.getElem?_eq_some_iff.mp e).1
    have e1 := h i a b bs[i] e (List.getElem?_eq_getElem hlt)
    have ha := h0 a (List.mem_flatten.mpr ⟨_, List.mem_of_getElem? e, by simp⟩)
    have hb := h0 b (List.mem_flatten.mpr ⟨_, List.mem_of_getElem? e, by simp⟩)
    rw [List.getElem?_eq_getElem hlt]
    by_cases e2 : [a, b] = bs[i]
    · rw [e2]
    · rw [if_neg e2] at e1
      omega
/-- numbers that fit, from 0 on: a row turns each place so often -/
theorem Fit.row {bs : List (List Nat)} (h2' : Two bs) (pl : List Nat) (hn : pl.Nodup) : ∀ (n : Nat) {as : List (List Nat)} {f : Nat → Int}, Two as → Ranked as → SameW as bs → Fit as bs f → (∀ x, x ∈ pl ↔ x ∈ as.flatten) → (∀ x ∈ pl, 0 ≤ f x) → (pl.map f).sum = (n : Int) →
    ∃ row, Row as row bs ∧ ∀ x ∈ pl, (row.count x : Int) = f x
  | 0, as, f, h2, hr, hs, h, hpl, h0, hsum => by
    have hz : ∀ x ∈ pl, f x = 0 := by
      clear h hpl hn
      induction pl with
      | nil => intro x hx; cases hx
      | cons y ys ih =>
        have h1 := h0 y (by simp)
        have hp : ∀ (l : List Nat), (∀ x ∈ l, 0 ≤ f x) → 0 ≤ (l.map f).sum := fun l => by
          induction l with
          | nil => intro _; simp
          | cons z zs ihz =>
            intro hh
            have := ihz fun x hx => hh x (List.mem_cons_of_mem _ hx)
            have := hh z (by simp)
            simp
            omega
        have h3 := hp ys fun x hx => h0 x (List.mem_cons_of_mem _ hx)
        simp at hsum
        intro x hx
        rcases List.mem_cons.mp hx with rfl | hx
        · omega
        · exact ih (fun x hx => h0 x (List.mem_cons_of_mem _ hx)) (by omega) x hx
    have e := h.zero h2 hs fun x hx => hz x ((hpl x).mpr hx)
    subst e
    exact ⟨[], .nil, fun x hx => by rw [hz x hx]; simp⟩
  | n + 1, as, f, h2, hr, hs, h, hpl, h0, hsum => by
    obtain ⟨p, hp, hpos⟩ : ∃ p ∈ pl, 0 < f p := by
      refine Decidable.byContradiction fun hno => ?_
      have : ∀ (l : List Nat), (∀ x ∈ l, f x ≤ 0) → (l.map f).sum ≤ 0 := fun l => by
        induction l with
        | nil => intro _; simp
        | cons z zs ihz =>
          intro hh
          have := ihz fun x hx => hh x (List.mem_cons_of_mem _ hx)
          have := hh z (by simp)
          simp
          omega
      have := this pl fun x hx => by
        refine Int.not_lt.mp fun hlt => hno ⟨x, hx, hlt⟩
      omega
    obtain ⟨q, hq, hqp, hg⟩ := h.giver h2 hr hs ((hpl p).mp hp) hpos
    have hl := hr.noLoop
    have hq' := (hpl q).mpr hq
    obtain ⟨row, hrow, hc⟩ := Fit.row h2' pl hn n (exch_two h2) (exch_ranked h2 hr hg) ((exch_pr2 h2).trans hs) (h.turn h2 h2' hs hl hg) (fun x => (hpl x).trans mem_exch_flat.symm) (fun x hx => by
      show 0 ≤ if x = q then f x - 1 else f x
      have := h0 x hx
      split
      · rename_i e; subst e; omega
      · exact this) (by
      have : ∀ (l : List Nat), l.Nodup → q ∈ l → (l.map fun x => if x = q then f x - 1 else f x).sum = (l.map f).sum - 1 := fun l => by
        induction l with
        | nil => intro _ h; cases h
        | cons z zs ihz =>
          intro hn' hm
          obtain ⟨n1, n2⟩ := List.nodup_cons.mp hn'
          rw [List.map_cons, List.map_cons, List.sum_cons, List.sum_cons]
          rcases List.mem_cons.mp hm with rfl | hm
          · rw [if_pos rfl]
            have : (zs.map fun x => if x = q then f x - 1 else f x) = zs.map f := List.map_congr_left fun x hx => if_neg fun (e : x = q) => n1 (e ▸ hx)
            rw [this]
            omega
          · rw [if_neg (fun (e : z = q) => n1 (e ▸ hm)), ihz n2 hm]
            omega
      rw [this pl hn hq']
      omega)
    refine ⟨q :: row, .cons hq hg hrow, fun x hx => ?_⟩
    have : (row.count x : Int) = if x = q then f x - 1 else f x := hc x hx
    rw [List.count_cons]
    by_cases e : x = q
    · subst e
      rw [if_pos rfl] at this
      simp
      omega
    · rw [if_neg e] at this
      rw [if_neg (by simpa using fun z => e z.symm)]
      simpa using this
end Pdl
namespace Pdl
abbrev NL := List (Nat × Int)
def keys (fd : NL) : List Nat := fd.map (·.1)
/-- all hangs together, from the first arrow -/
def ConnA (as : List (List Nat)) : Prop := ∀ C : Nat → Prop, C (fst2 (as.head?.getD [])) → (∀ a b, [a, b] ∈ as → (C a ↔ C b)) → ∀ x ∈ as.flatten, C x
end Pdl
namespace Pdl
open PySem L2 PyProof.Rows
theorem mem_pr2 {l : List Nat} (h : ∃ a b, l = [a, b]) {x : Nat} : x ∈ pr2 l ↔ x ∈ l := by
  obtain ⟨a, b, rfl⟩ := h
  show x ∈ (if b < a then [b, a] else [a, b]) ↔ _
  split
  · simp [or_comm]
  · rfl
theorem mem_pr2_flat {as : List (List Nat)} (h : Two as) {x : Nat} : x ∈ (as.map pr2).flatten ↔ x ∈ as.flatten := by
  simp only [List.mem_flatten]
  constructor
  · rintro ⟨l, hl, hx⟩
    obtain ⟨t, ht, rfl⟩ := List.mem_map.mp hl
    exact ⟨t, ht, (mem_pr2 (h t ht)).mp hx⟩
  · rintro ⟨l, hl, hx⟩
    exact ⟨_, List.mem_map_of_mem hl, (mem_pr2 (h l hl)).mpr hx⟩
theorem us_pr2 {as : List (List Nat)} (h : Two as) : us (as.map pr2).flatten = us as.flatten :=
  us_eq (us_sorted _) fun x => (mem_us.trans (mem_pr2_flat h).symm)
theorem Arrs.few {as : List (List Nat)} (h : Arrs as) : (us as.flatten).length ≤ 7 := by rw [← us_pr2 h.two]; exact h.ties.few
theorem Arrs.connA {as : List (List Nat)} (h : Arrs as) : ConnA as := fun C hc hs x hx => by
  refine h.ties.conn C (fun l0 hl0 y hy => ?_) (fun a b hab hor => ?_) x ((mem_pr2_flat h.two).mpr hx)
  · cases as with
    | nil => cases hl0
    | cons l ls =>
      obtain ⟨a, b, rfl⟩ := h.two l List.mem_cons_self
      have e : pr2 [a, b] = l0 := Option.some.inj hl0
      subst e
      have hcb := (hs a b List.mem_cons_self).mp hc
      have z : y = a ∨ y = b := by simpa using (mem_pr2 ⟨a, b, rfl⟩).mp hy
      rcases z with rfl | rfl
      · exact hc
      · exact hcb
  · obtain ⟨t, ht, e⟩ := List.mem_map.mp hab
    obtain ⟨x, y, rfl⟩ := h.two t ht
    have e : (if y < x then [y, x] else [x, y]) = [a, b] := e
    have hh := hs x y ht
    split at e <;> (simp at e; obtain ⟨rfl, rfl⟩ := e; rcases hor with z | z <;> simp_all)
theorem Fit.shift {as bs : List (List Nat)} {f : Nat → Int} {m : Int} (h : Fit as bs f) : Fit as bs (fun p => f p - m) := fun i a b o h1 h2 => by
  have := h i a b o h1 h2
  simp only
  omega
end Pdl
namespace Pdl
open PySem L2 PyProof.Rows
section
variable {X : Cx}
theorem ud_neg {i : Int} : UnD X (unaryOp .USub) (.int i) (.int (-i)) := fun pins s σ H x v Q I rx ⟨m, hm, r, k⟩ => by
  cases r
  exact un_neg pins s σ H _ v Q I rx ⟨i, rfl, k _ H (Sub.refl H) (.int _)⟩
end
end Pdl
namespace Pdl
open PySem L2 PyProof.Rows
def givesB (as : List (List Nat)) (p : Nat) : Bool := !(as.any fun l => decide ([snd2 l] = [p]))
theorem givesB_iff {as : List (List Nat)} {p : Nat} (h2 : Two as) : givesB as p = true ↔ Gives as p := by
  unfold givesB Gives
  rw [Bool.not_eq_true', List.any_eq_false]
  constructor
  · intro h a ha
    exact h _ ha (by simp [snd2])
  · intro h l hl e
    obtain ⟨a, b, rfl⟩ := h2 l hl
    have : b = p := by simpa [snd2] using e
    subst this
    exact h a hl
theorem exch_arrs {as : List (List Nat)} {p : Nat} (h : Arrs as) (hr : Ranked (exch as p)) : Arrs (exch as p) := ⟨exch_two h.two, by rw [exch_pr2 h.two]; exact h.ties, hr⟩
theorem turn_arrs {as : List (List Nat)} {p : Nat} (h : Arrs as) (hg : Gives as p) : Arrs (exch as p) := exch_arrs h (exch_ranked h.two h.rk hg)
theorem Row.arrs {as bs : List (List Nat)} {row : List Nat} (h : Row as row bs) : Arrs as → Arrs bs := by
  induction h with
  | nil => exact fun h => h
  | cons hp hg h ih => exact fun ha => ih (turn_arrs ha hg)
end Pdl
namespace Pdl
open PySem L2 PyProof.Rows
theorem Row.snoc {as bs : List (List Nat)} {row : List Nat} {p : Nat} (h : Row as row bs) : p ∈ bs.flatten → Gives bs p → Row as (row ++ [p]) (exch bs p) := by
  induction h with
  | nil => exact fun hp hg => .cons hp hg .nil
  | cons hp hg h ih => exact fun hp' hg' => .cons hp hg (ih hp' hg')
def rot (row : List Nat) (k : Nat) : List Nat := row.drop k ++ row.take k
end Pdl
namespace Pdl
open PySem L2 PyProof.Rows
def valT (kvs : List (List Key × D)) (k : List Key) : Option D := (kvs.find? fun kv => decide (kv.1 = k)).map (·.2)
def putT (kvs : List (List Key × D)) (k : List Key) (v : D) : List (List Key × D) :=
  if (kvs.any fun kv => decide (kv.1 = k)) = true then kvs.map (fun kv => if kv.1 = k then (kv.1, v) else kv) else kvs ++ [(k, v)]
section
variable {K : PySem.W.Frag} {G : Hp}
theorem RpA.keys : ∀ (ks : List Key), RpA K G (ks.map kV) (ks.map kD)
  | [] => .nil
  | .inl i :: ks => .cons (.int i) (RpA.keys ks)
  | .inr z :: ks => .cons (.str z) (RpA.keys ks)
theorem RpT.length : ∀ {vs : List (List Key × V)} {ds : List (List Key × D)}, RpT K G vs ds → vs.length = ds.length
  | _, _, .nil => rfl
  | _, _, .cons _ r => by simp [RpT.length r]
theorem RpT.keys : ∀ {vs : List (List Key × V)} {ds : List (List Key × D)}, RpT K G vs ds → vs.map (·.1) = ds.map (·.1)
  | _, _, .nil => rfl
  | _, _, .cons _ r => by simp [RpT.keys r]
theorem RpT.app : ∀ {vs us : List (List Key × V)} {ds es : List (List Key × D)}, RpT K G vs ds → RpT K G us es → RpT K G (vs ++ us) (ds ++ es)
  | _, _, _, _, .nil, r => r
  | _, _, _, _, .cons h t, r => .cons h (RpT.app t r)
theorem RpT.put {vs : List (List Key × V)} {ds : List (List Key × D)} {kk : List Key} {v : V} {d : D} (r : RpT K G vs ds) (rv : Rp K G v d) : RpT K G (putK vs kk v) (putT ds kk d) := by
  have ea : (vs.any fun kv => decide (kv.1 = kk)) = (ds.any fun kv => decide (kv.1 = kk)) := by
    have h1 : (vs.any fun kv => decide (kv.1 = kk)) = (vs.map (·.1)).any fun z => decide (z = kk) := by rw [List.any_map]; rfl
    have h2 : (ds.any fun kv => decide (kv.1 = kk)) = (ds.map (·.1)).any fun z => decide (z = kk) := by rw [List.any_map]; rfl
    rw [h1, h2, r.keys]
  unfold putK putT
  rw [ea]
  split
  · clear ea
    have go : ∀ {vs : List (List Key × V)} {ds : List (List Key × D)}, RpT K G vs ds → RpT K G (vs.map (fun kv => if kv.1 = kk then (kv.1, v) else kv)) (ds.map (fun kv => if kv.1 = kk then (kv.1, d) else kv)) := by
      intro vs ds r
      induction vs generalizing ds with
      | nil => cases r; exact .nil
      | cons x vs ih =>
        cases r with
        | @cons k0 v0 d0 _ _ h t =>
          rw [List.map_cons, List.map_cons]
          by_cases hk : k0 = kk
          · simp only [hk, if_true]
            exact .cons rv (ih t)
          · simp only [hk, if_false]
            exact .cons h (ih t)
    exact go r
  · exact r.app (.cons rv .nil)
theorem RpT.val {k : List Key} : ∀ {vs : List (List Key × V)} {ds : List (List Key × D)}, RpT K G vs ds →
    (∀ d, valT ds k = some d → ∃ v, valV vs k = some v ∧ Rp K G v d) ∧ (valT ds k = none → valV vs k = none)
  | _, _, .nil => ⟨fun d h => (by cases h), fun _ => rfl⟩
  | _, _, .cons (k := k') h t => by
    obtain ⟨i1, i2⟩ := RpT.val (k := k) t
    by_cases hk : k' = k
    · subst hk
      refine ⟨fun d hd => ?_, fun hd => ?_⟩
      · simp [valT] at hd
        subst hd
        exact ⟨_, valV_pos rfl, h⟩
      · simp [valT] at hd
    · have e1 : ∀ (d0 : D) (ds : List (List Key × D)), valT ((k', d0) :: ds) k = valT ds k := fun d0 ds => by simp [valT, List.find?_cons, hk]
      rw [e1, valV_neg (p := (k', _)) hk]
      exact ⟨i1, i2⟩
end
section
variable {X : Cx} {μ : Md} {Γ : En} {Q : QE} {a b c e e2 o it tg elt : Expr} {es ifs : List Expr} {pos apos cpos tpos p : Pos} {x y d : D} {m : Addr → Bool} {H : Hp} {P : Po} {scope : Scope}
/-- the dict of a value -/
theorem dict_of {G : Hp} {v : V} {kvs : List (List Key × D)} (h : Rp X.K G v (.dcT kvs) ∨ Rp X.K G v (.dcL kvs)) : ∃ a us, v = .ref a ∧ Rd G a (.dT us) ∧ RpT X.K G us kvs := by
  rcases h with h | h
  · cases h with
    | dcT h1 h2 => exact ⟨_, _, rfl, .inl h1, h2⟩
  · cases h with
    | @dcL a o us _ h1 h2 => exact ⟨_, _, rfl, .inr ⟨o, h1⟩, h2⟩
def IsDT (d : D) (kvs : List (List Key × D)) : Prop := d = .dcT kvs ∨ d = .dcL kvs
theorem IsDT.of {G : Hp} {v : V} {d : D} {kvs : List (List Key × D)} (h : IsDT d kvs) (r : Rp X.K G v d) : ∃ a us, v = .ref a ∧ Rd G a (.dT us) ∧ RpT X.K G us kvs := by
  rcases h with rfl | rfl
  · exact dict_of (.inl r)
  · exact dict_of (.inr r)
end
end Pdl
namespace Pdl
open PySem L2 PyProof.Rows
def Reach (as bs : List (List Nat)) : Prop := ∃ row, Row as row bs
theorem Row.app {as bs cs : List (List Nat)} {r1 r2 : List Nat} (h : Row as r1 bs) (h2 : Row bs r2 cs) : Row as (r1 ++ r2) cs := by
  induction h with
  | nil => exact h2
  | cons a b _ ih => exact .cons a b (ih h2)
theorem Reach.trans {as bs cs : List (List Nat)} (h1 : Reach as bs) (h2 : Reach bs cs) : Reach as cs := let ⟨r1, a⟩ := h1; let ⟨r2, b⟩ := h2; ⟨_, a.app b⟩
theorem Reach.refl (as : List (List Nat)) : Reach as as := ⟨[], .nil⟩
theorem min_on (f : Nat → Int) (l : List Nat) (hl : l ≠ []) : ∃ x ∈ l, ∀ y ∈ l, f x ≤ f y := by
  obtain ⟨x, hx, h⟩ := max_on (fun y => - f y) l hl
  exact ⟨x, hx, fun y hy => by have := h y hy; omega⟩
theorem sum_nonneg {f : Nat → Int} : ∀ (l : List Nat), (∀ x ∈ l, 0 ≤ f x) → 0 ≤ (l.map f).sum
  | [], _ => by simp
  | x :: l, h => by
    have h1 := sum_nonneg l fun y hy => h y (List.mem_cons_of_mem _ hy)
    have h2 := h x List.mem_cons_self
    simp
    omega
/-- numbers that fit with the least one 0: a row turns each place so often -/
theorem Fit.least {as bs : List (List Nat)} {f : Nat → Int} (ha : Arrs as) (h : Fit as bs f) : ∃ g : Nat → Int, Fit as bs g ∧ (∀ p ∈ as.flatten, 0 ≤ g p) ∧ ∃ p ∈ as.flatten, g p = 0 := by
  have hne : as.flatten ≠ [] := fun e => by
    obtain ⟨l, hl⟩ := List.exists_mem_of_ne_nil _ ha.ne
    obtain ⟨a, b, rfl⟩ := ha.two l hl
    have : a ∈ as.flatten := List.mem_flatten.mpr ⟨_, hl, by simp⟩
    rw [e] at this
    cases this
  obtain ⟨x, hx, hm⟩ := min_on f _ hne
  exact ⟨fun p => f p - f x, h.shift, fun p hp => by have := hm p hp; show 0 ≤ f p - f x; omega, x, hx, by show f x - f x = 0; omega⟩
theorem fit_row {as bs : List (List Nat)} {f : Nat → Int} (ha : Arrs as) (hb : Two bs) (hs : SameW as bs) (h : Fit as bs f) (h0 : ∀ p ∈ as.flatten, 0 ≤ f p) : ∃ row, Row as row bs ∧ ∀ x ∈ as.flatten, (row.count x : Int) = f x := by
  have h0' : ∀ x ∈ us as.flatten, 0 ≤ f x := fun x hx => h0 x (mem_us.mp hx)
  obtain ⟨row, h1, h2⟩ := Fit.row hb (us as.flatten) ((us_sorted _).imp fun h => Nat.ne_of_lt h) ((us as.flatten).map f).sum.toNat ha.two ha.rk hs h (fun x => mem_us) h0' (by rw [Int.toNat_of_nonneg (sum_nonneg _ h0')])
  exact ⟨row, h1, fun x hx => h2 x (mem_us.mpr hx)⟩
theorem fit_iff {as bs : List (List Nat)} (ha : Arrs as) (hb : Two bs) (hs : SameW as bs) : (∃ f, Fit as bs f) ↔ Reach as bs := by
  constructor
  · rintro ⟨f, h⟩
    obtain ⟨g, h1, h2, _⟩ := h.least ha
    obtain ⟨row, h3, _⟩ := fit_row ha hb hs h1 h2
    exact ⟨row, h3⟩
  · rintro ⟨row, h⟩
    exact ⟨_, (h.facts ha.two ha.rk).2.2.2⟩
def allL : List (List Nat) → List (List (List Nat))
  | [] => [[]]
  | l :: ls => (allL ls).flatMap fun r => [l :: r, l.reverse :: r]
theorem allL_len : ∀ ls, (allL ls).length = 2 ^ ls.length
  | [] => rfl
  | l :: ls => by
    have e : ∀ (rs : List (List (List Nat))), (rs.flatMap fun r => [l :: r, l.reverse :: r]).length = 2 * rs.length := fun rs => by
      induction rs with
      | nil => rfl
      | cons r rs ih => rw [List.flatMap_cons, List.length_append, ih]; simp; omega
    rw [allL, e, allL_len ls, List.length_cons, Nat.pow_succ]
    omega
theorem same_allL : ∀ {as bs : List (List Nat)}, Two as → Two bs → SameW as bs → bs ∈ allL as
  | [], bs, _, _, h => by
    have h : [] = bs.map pr2 := h
    rw [List.map_eq_nil_iff.mp h.symm]
    exact List.mem_singleton.mpr rfl
  | l :: as, [], _, _, h => by
    have h : (l :: as).map pr2 = [] := h
    cases h
  | l :: as, b :: bs, ha, hb, h => by
    have h : (l :: as).map pr2 = (b :: bs).map pr2 := h
    rw [List.map_cons, List.map_cons] at h
    injection h with h1 h2
    have hr := same_allL (fun x hx => ha x (List.mem_cons_of_mem _ hx)) (fun x hx => hb x (List.mem_cons_of_mem _ hx)) h2
    obtain ⟨x, y, rfl⟩ := ha l List.mem_cons_self
    obtain ⟨u, v, rfl⟩ := hb b List.mem_cons_self
    refine List.mem_flatMap.mpr ⟨bs, hr, ?_⟩
    rcases pr2_inv h1 with ⟨rfl, rfl⟩ | ⟨rfl, rfl⟩
    · simp
    · simp
theorem Row.same {as bs : List (List Nat)} {row : List Nat} (ha : Arrs as) (h : Row as row bs) : bs ∈ allL as := by
  obtain ⟨h1, _, h2, _⟩ := h.facts ha.two ha.rk
  exact same_allL ha.two h1 h2
theorem reach_few {as : List (List Nat)} (ha : Arrs as) {l : List (List (List Nat))} (hn : l.Nodup) (h : ∀ b ∈ l, Reach as b) : l.length ≤ 1024 := by
  have h1 := nodup_len hn fun b hb => let ⟨row, hr⟩ := h b hb; hr.same ha
  rw [allL_len] at h1
  exact Nat.le_trans h1 (Nat.pow_le_pow_right (by decide) ha.len)
def heads (as : List (List Nat)) : List Nat := (us as.flatten).filter fun p => !(as.any fun l => decide ([snd2 l] = [p]))
theorem mem_heads {as : List (List Nat)} {p : Nat} (h2 : Two as) : p ∈ heads as ↔ p ∈ as.flatten ∧ Gives as p := by
  unfold heads
  rw [List.mem_filter, mem_us]
  refine and_congr_right fun _ => ?_
  rw [Bool.not_eq_true', List.any_eq_false]
  constructor
  · intro h a hl
    have := h _ hl
    simp [snd2] at this
  · intro h l hl
    obtain ⟨a, b, rfl⟩ := h2 l hl
    simp [snd2]
    rintro rfl
    exact h a hl
theorem heads_sorted (as : List (List Nat)) : (heads as).Pairwise (· < ·) := (us_sorted _).filter _
abbrev LvL := List (List (List Nat) × Nat)
def lvK (fd : LvL) : List (List (List Nat)) := fd.map (·.1)
structure LevOk (as : List (List Nat)) (fd : LvL) : Prop where
  nd : (lvK fd).Nodup
  mem : ∀ b, b ∈ lvK fd ↔ Reach as b
  row : ∀ e ∈ fd, ∃ row, Row as row e.1 ∧ row.length = e.2
  least : ∀ e ∈ fd, ∀ row, Row as row e.1 → e.2 ≤ row.length
structure LevJ (as : List (List Nat)) (fd : LvL) (don : List (List (List Nat))) (k : List (List Nat)) (n : Nat) (fr : List (List (List Nat))) (ps : List Nat) : Prop where
  ks : lvK fd = don ++ k :: fr
  nd : (lvK fd).Nodup
  sat : (as, 0) ∈ fd
  row : ∀ e ∈ fd, ∃ row, Row as row e.1 ∧ row.length = e.2
  mono : (fd.map (·.2)).Pairwise (· ≤ ·)
  kn : (k, n) ∈ fd
  top : ∀ e ∈ fd, e.2 ≤ n + 1
  cl : ∀ e ∈ fd, e.1 ∈ don → ∀ p ∈ e.1.flatten, Gives e.1 p → ∃ m, (exch e.1 p, m) ∈ fd ∧ m ≤ e.2 + 1
  clk : ∀ p ∈ ps, ∃ m, (exch k p, m) ∈ fd ∧ m ≤ n + 1
theorem LevJ.new {as : List (List Nat)} {fd : LvL} {don fr : List (List (List Nat))} {k : List (List Nat)} {n p : Nat} {ps : List Nat} (h : LevJ as fd don k n fr ps) (hp : exch k p ∉ lvK fd) (hk : p ∈ k.flatten) (hg : Gives k p) :
    LevJ as (fd ++ [(exch k p, n + 1)]) don k n (fr ++ [exch k p]) (ps ++ [p]) := by
  have up : ∀ e, e ∈ fd → e ∈ fd ++ [(exch k p, n + 1)] := fun e he => List.mem_append_left _ he
  refine ⟨?_, ?_, up _ h.sat, fun e he => ?_, ?_, up _ h.kn, fun e he => ?_, fun e he hd q hq hgq => ?_, fun q hq => ?_⟩
  · unfold lvK
    rw [List.map_append]
    show lvK fd ++ [exch k p] = _
    rw [h.ks]
    simp
  · unfold lvK
    rw [List.map_append]
    show (lvK fd ++ [exch k p]).Nodup
    rw [List.nodup_append]
    exact ⟨h.nd, by simp, fun a ha b hb => by
      obtain rfl := List.mem_singleton.mp hb
      exact fun e => hp (e ▸ ha)⟩
  · rcases List.mem_append.mp he with he | he
    · exact h.row e he
    · obtain rfl := List.mem_singleton.mp he
      obtain ⟨row, h1, h2⟩ := h.row _ h.kn
      have h2 : row.length = n := h2
      exact ⟨row ++ [p], h1.snoc hk hg, by simp [h2]⟩
  · rw [List.map_append, List.pairwise_append]
    refine ⟨h.mono, by simp, fun a ha b hb => ?_⟩
    obtain ⟨e, he, rfl⟩ := List.mem_map.mp ha
    simp at hb
    subst hb
    exact h.top e he
  · rcases List.mem_append.mp he with he | he
    · exact h.top e he
    · obtain rfl := List.mem_singleton.mp he
      exact Nat.le_refl _
  · rcases List.mem_append.mp he with he | he
    · obtain ⟨m, h1, h2⟩ := h.cl e he hd q hq hgq
      exact ⟨m, up _ h1, h2⟩
    · obtain rfl := List.mem_singleton.mp he
      refine absurd ?_ hp
      rw [h.ks]
      exact List.mem_append_left _ hd
  · rcases List.mem_append.mp hq with hq | hq
    · obtain ⟨m, h1, h2⟩ := h.clk q hq
      exact ⟨m, up _ h1, h2⟩
    · obtain rfl := List.mem_singleton.mp hq
      exact ⟨n + 1, List.mem_append_right _ (by simp), Nat.le_refl _⟩
theorem Fit.symm {as bs : List (List Nat)} {f : Nat → Int} (h2 : Two as) (h2' : Two bs) (hs : SameW as bs) (h : Fit as bs f) : Fit bs as (fun x => - f x) := fun i a b o h3 h4 => by
  obtain ⟨x, y, rfl⟩ := h2 o (List.mem_of_getElem? h4)
  have h5 := h i x y [a, b] h4 h3
  rcases hs.at h2' h4 h3 with e | e
  · injection e with e1 e2
    injection e2 with e2 _
    subst e1 e2
    rw [if_pos rfl] at h5 ⊢
    show - f a - - f b = 0
    omega
  · injection e with e1 e2
    injection e2 with e2 _
    subst e1 e2
    by_cases hab : a = b
    · subst hab
      rw [if_pos rfl] at h5 ⊢
      show - f a - - f a = 0
      omega
    · have e1 : ¬ [b, a] = [a, b] := fun e => by injection e with e1 _; exact hab e1.symm
      have e2 : ¬ [a, b] = [b, a] := fun e => by injection e with e1 _; exact hab e1
      rw [if_neg e1] at h5
      rw [if_neg e2]
      show - f a - - f b = 1
      omega
theorem Reach.symm {as bs : List (List Nat)} (ha : Arrs as) (h : Reach as bs) : Reach bs as := by
  obtain ⟨row, hr⟩ := h
  obtain ⟨h1, h2, h3, h4⟩ := hr.facts ha.two ha.rk
  exact (fit_iff (hr.arrs ha) ha.two h3.symm).mp ⟨_, h4.symm ha.two h1 h3⟩
end Pdl
namespace Pdl
open PySem L2 PyProof.Rows
theorem okL_all : ∀ (ds : List D), okL ds = ds.all okD
  | [] => rfl
  | d :: ds => by rw [okL, okL_all ds]; rfl
theorem shaped_ok {d : D} (h : okD d = true) (hd : dpD d ≤ 64) : SeqAt.shaped (toPy d) = true := by
  obtain ⟨h1, _, _, h2, _⟩ := ok_can d h
  unfold SeqAt.shaped
  rw [h1, h2]
  simpa using hd
end Pdl
namespace Pdl
open PySem L2 PyProof.Rows
def stepQ (F : List (List (List Nat))) (d : List Nat) : List (List (List Nat)) := F.map (fun l => l ++ [d]) ++ F.map (fun l => l ++ [d.reverse])
def lotsQ (ls : List (List Nat)) : List (List (List Nat)) := ls.foldl stepQ [[]]
theorem mem_fold : ∀ (ls : List (List Nat)) (F : List (List (List Nat))) (b : List (List Nat)), b ∈ ls.foldl stepQ F ↔ ∃ f ∈ F, ∃ c ∈ allL ls, b = f ++ c
  | [], F, b => by
    constructor
    · intro h
      exact ⟨b, h, [], List.mem_singleton.mpr rfl, by simp⟩
    · rintro ⟨f, hf, c, hc, rfl⟩
      obtain rfl := List.mem_singleton.mp hc
      simpa using hf
  | d :: ls, F, b => by
    rw [List.foldl_cons, mem_fold ls (stepQ F d) b]
    constructor
    · rintro ⟨f, hf, c, hc, rfl⟩
      rcases List.mem_append.mp hf with hf | hf
      · obtain ⟨g, hg, rfl⟩ := List.mem_map.mp hf
        exact ⟨g, hg, d :: c, List.mem_flatMap.mpr ⟨c, hc, by simp⟩, by simp⟩
      · obtain ⟨g, hg, rfl⟩ := List.mem_map.mp hf
        exact ⟨g, hg, d.reverse :: c, List.mem_flatMap.mpr ⟨c, hc, by simp⟩, by simp⟩
    · rintro ⟨f, hf, c, hc, rfl⟩
      obtain ⟨r, hr, hc⟩ := List.mem_flatMap.mp hc
      rcases List.mem_cons.mp hc with rfl | hc
      · exact ⟨f ++ [d], List.mem_append_left _ (List.mem_map_of_mem hf), r, hr, by simp⟩
      · obtain rfl := List.mem_singleton.mp hc
        exact ⟨f ++ [d.reverse], List.mem_append_right _ (List.mem_map_of_mem hf), r, hr, by simp⟩
theorem mem_lotsQ {ls b : List (List Nat)} : b ∈ lotsQ ls ↔ b ∈ allL ls := by
  unfold lotsQ
  rw [mem_fold]
  simp
theorem fold_len : ∀ (ls : List (List Nat)) (F : List (List (List Nat))), (ls.foldl stepQ F).length = F.length * 2 ^ ls.length
  | [], F => by simp
  | d :: ls, F => by
    rw [List.foldl_cons, fold_len ls]
    unfold stepQ
    simp only [List.length_append, List.length_map, List.length_cons, Nat.pow_succ]
    rw [← Nat.two_mul, Nat.mul_comm 2 F.length, Nat.mul_assoc, Nat.mul_comm 2]
theorem lotsQ_len (ls : List (List Nat)) : (lotsQ ls).length = 2 ^ ls.length := by
  unfold lotsQ
  rw [fold_len]
  simp
theorem allL_two : ∀ {ls b : List (List Nat)}, Two ls → b ∈ allL ls → Two b ∧ SameW ls b
  | [], b, _, h => by
    obtain rfl := List.mem_singleton.mp h
    exact ⟨fun l hl => (by cases hl), rfl⟩
  | d :: ls, b, h2, h => by
    obtain ⟨r, hr, hb⟩ := List.mem_flatMap.mp h
    obtain ⟨t1, t2⟩ := allL_two (fun x hx => h2 x (List.mem_cons_of_mem _ hx)) hr
    obtain ⟨x, y, rfl⟩ := h2 d List.mem_cons_self
    rcases List.mem_cons.mp hb with rfl | hb
    · refine ⟨fun l hl => ?_, ?_⟩
      · rcases List.mem_cons.mp hl with rfl | hl
        · exact ⟨x, y, rfl⟩
        · exact t1 l hl
      · show (_ :: ls.map pr2) = _ :: r.map pr2
        rw [show ls.map pr2 = r.map pr2 from t2]
    · obtain rfl := List.mem_singleton.mp hb
      refine ⟨fun l hl => ?_, ?_⟩
      · rcases List.mem_cons.mp hl with rfl | hl
        · exact ⟨y, x, rfl⟩
        · exact t1 l hl
      · show (pr2 [x, y] :: ls.map pr2) = pr2 [y, x] :: r.map pr2
        rw [show ls.map pr2 = r.map pr2 from t2, pr2_comm]
/-- all ways of ties, ascending -/
def flows (ls : List (List Nat)) : List (List (List Nat)) := srtE tS ((lotsQ ls).filter rkB)
theorem Ties.pr2s {ls : List (List Nat)} (h : Ties ls) : ls.map pr2 = ls := by
  have : ∀ l ∈ ls, pr2 l = l := fun l hl => by
    obtain ⟨a, b, rfl, hlt, _⟩ := h.pr l hl
    unfold pr2
    simp
    omega
  calc ls.map pr2 = ls.map id := List.map_congr_left this
    _ = ls := List.map_id _
theorem mem_flows {ls b : List (List Nat)} (h : Ties ls) : b ∈ flows ls ↔ Arrs b ∧ b.map pr2 = ls := by
  unfold flows
  rw [(srtE_perm _ _).mem_iff, List.mem_filter, mem_lotsQ]
  constructor
  · rintro ⟨h1, h2⟩
    obtain ⟨t1, t2⟩ := allL_two h.two h1
    have e : b.map pr2 = ls := by
      have t2 : ls.map pr2 = b.map pr2 := t2
      rw [← t2, h.pr2s]
    exact ⟨⟨t1, by rw [e]; exact h, (rkB_iff t1).mp h2⟩, e⟩
  · rintro ⟨h1, h2⟩
    refine ⟨same_allL h.two h1.two ?_, rkB_t h1.two h1.rk⟩
    show ls.map pr2 = b.map pr2
    rw [h.pr2s, h2]
theorem flows_ne {ls : List (List Nat)} (h : Ties ls) : flows ls ≠ [] := fun e => by
  have : ls.map (lay (us ls.flatten)) ∈ flows ls := (mem_flows h).mpr ⟨lay_arrs h fun x hx => mem_us.mpr hx, lay_pr2 h⟩
  rw [e] at this
  cases this
theorem flows_len {ls : List (List Nat)} (h : ls.length ≤ 10) : (flows ls).length ≤ 1024 := by
  unfold flows
  rw [(srtE_perm _ _).length_eq]
  refine Nat.le_trans (List.length_filter_le _ _) ?_
  rw [lotsQ_len]
  exact Nat.pow_le_pow_right (by decide) h
theorem alone_eq {as bs : List (List Nat)} {p : Nat} (ha : Arrs as) (h : Reach as bs) (h1 : heads as = [p]) (h2 : heads bs = [p]) : as = bs := by
  obtain ⟨row, hr⟩ := h
  obtain ⟨t1, t2, t3, t4⟩ := hr.facts ha.two ha.rk
  have hb := hr.arrs ha
  have key : ∀ {as bs : List (List Nat)} {f : Nat → Int}, Arrs as → heads as = [p] → SameW as bs → Fit as bs f → ∀ x ∈ as.flatten, f x ≤ f p := fun {as bs f} ha h1 hs hf x hx => by
    refine Int.not_lt.mp fun hlt => ?_
    obtain ⟨q, hq, hq0, hg⟩ := Fit.giver ha.two ha.rk hs (hf.shift (m := f p)) hx (by show 0 < f x - f p; omega)
    have : q ∈ heads as := (mem_heads ha.two).mpr ⟨hq, hg⟩
    rw [h1] at this
    obtain rfl := List.mem_singleton.mp this
    have hq0 : 0 < f q - f q := hq0
    omega
  have k1 := key ha h1 t3 t4
  have k2 := key hb h2 t3.symm (t4.symm ha.two t1 t3)
  have hfl : ∀ x, x ∈ as.flatten → x ∈ bs.flatten := fun x hx => (mem_pr2_flat t1).mp (by rw [← show as.map pr2 = bs.map pr2 from t3]; exact (mem_pr2_flat ha.two).mpr hx)
  refine Fit.zero ha.two t3 (t4.shift (m := (row.count p : Int))) fun x hx => ?_
  have e1 := k1 x hx
  have e2 := k2 x (hfl x hx)
  have e2 : -(row.count x : Int) ≤ -(row.count p : Int) := e2
  show (row.count x : Int) - (row.count p : Int) = 0
  omega
theorem row_in_flat {as bs : List (List Nat)} {row : List Nat} (h : Row as row bs) : ∀ x ∈ row, x ∈ as.flatten := by
  induction h with
  | nil => intro x hx; cases hx
  | cons hp hg h ih =>
    intro x hx
    rcases List.mem_cons.mp hx with rfl | hx
    · exact hp
    · exact mem_exch_flat.mp (ih x hx)
theorem len_of_counts : ∀ (V : List Nat) (row : List Nat), (∀ x ∈ row, x ∈ V) → (∀ x ∈ V, row.count x ≤ 6) → row.length ≤ 6 * V.length
  | [], row, h, _ => by
    cases row with
    | nil => exact Nat.zero_le _
    | cons x r => exact absurd (h x List.mem_cons_self) (by simp)
  | v :: V, row, h, hc => by
    have h1 : row.length = row.count v + (row.filter fun x => !(x == v)).length := by
      rw [List.count_eq_length_filter]
      clear h hc
      induction row with
      | nil => rfl
      | cons x r ih =>
        rw [List.filter_cons, List.filter_cons]
        by_cases hx : (x == v) = true
        · rw [if_pos hx, if_neg (by simp [hx])]
          simp only [List.length_cons]
          omega
        · rw [if_neg hx, if_pos (by simpa using hx)]
          simp only [List.length_cons]
          omega
    have h2 := len_of_counts V (row.filter fun x => !(x == v)) (fun x hx => by
      obtain ⟨hx, hn⟩ := List.mem_filter.mp hx
      rcases List.mem_cons.mp (h x hx) with rfl | hv
      · simp at hn
      · exact hv) (fun x hx => Nat.le_trans (List.Sublist.count_le _ List.filter_sublist) (hc x (List.mem_cons_of_mem _ hx)))
    have h3 := hc v List.mem_cons_self
    rw [List.length_cons]
    omega
theorem alone_bound {as bs : List (List Nat)} {row : List Nat} {p : Nat} (ha : Arrs as) (h : Row as row bs) (hp : p ∈ as.flatten) (hn : p ∉ row) : row.length ≤ 42 := by
  obtain ⟨t1, t2, t3, t4⟩ := h.facts ha.two ha.rk
  have near : ∀ a b, [a, b] ∈ as → row.count a ≤ row.count b + 1 ∧ row.count b ≤ row.count a := fun a b hl => by
    obtain ⟨i, hi⟩ := List.getElem?_of_mem hl
    have hlt : i < bs.length := by rw [← t3.len]; exact (List.getElem?_eq_some_iff.mp hi).1
    have this : (row.count a : Int) - (row.count b : Int) = if [a, b] = bs[i] then 0 else 1 := t4 i a b bs[i] hi (List.getElem?_eq_getElem hlt)
    split at this <;> omega
  have all : ∀ M, (∃ x ∈ as.flatten, row.count x = M) → ∀ v, v ≤ M → ∃ x ∈ as.flatten, row.count x = v := fun M ⟨x, hx, hM⟩ v hv => by
    by_cases h0 : v = 0
    · exact ⟨p, hp, by rw [h0]; exact List.count_eq_zero.mpr hn⟩
    refine Classical.byContradiction fun hno => ?_
    have hno : ∀ y ∈ as.flatten, row.count y ≠ v := fun y hy e => hno ⟨y, hy, e⟩
    have hinv : ∀ a b, [a, b] ∈ as → (row.count a < v ↔ row.count b < v) := fun a b hl => by
      have h1 := near a b hl
      have ha' := hno a (List.mem_flatten.mpr ⟨_, hl, by simp⟩)
      have hb' := hno b (List.mem_flatten.mpr ⟨_, hl, by simp⟩)
      omega
    have hroot := ha.connA (fun y => row.count y < v)
    by_cases hr : row.count (fst2 (as.head?.getD [])) < v
    · have := hroot hr hinv x hx
      have this : row.count x < v := this
      omega
    · have := ha.connA (fun y => ¬ row.count y < v) hr (fun a b hl => not_congr (hinv a b hl)) p hp
      have this : ¬ row.count p < v := this
      rw [List.count_eq_zero.mpr hn] at this
      omega
  have h6 : ∀ x ∈ us as.flatten, row.count x ≤ 6 := fun x hx => by
    have hx := mem_us.mp hx
    have hsub : ∀ v ∈ List.range (row.count x + 1), v ∈ (us as.flatten).map fun y => row.count y := fun v hv => by
      obtain ⟨y, hy, e⟩ := all _ ⟨x, hx, rfl⟩ v (by have := List.mem_range.mp hv; omega)
      exact List.mem_map.mpr ⟨y, mem_us.mpr hy, e⟩
    have := nodup_len List.nodup_range hsub
    rw [List.length_range, List.length_map] at this
    have := ha.few
    omega
  have := len_of_counts (us as.flatten) row (fun x hx => mem_us.mpr (row_in_flat h x hx)) h6
  have := ha.few
  omega
end Pdl
namespace Pdl
open PySem L2 PyProof.Rows
theorem heads_ne {bs : List (List Nat)} (hb : Arrs bs) : heads bs ≠ [] := fun e => by
  obtain ⟨l, hl⟩ := List.exists_mem_of_ne_nil _ hb.ne
  obtain ⟨a, b, rfl⟩ := hb.two l hl
  have ha : a ∈ bs.flatten := List.mem_flatten.mpr ⟨_, hl, by simp⟩
  obtain ⟨q, hq, _, hg⟩ := Fit.giver hb.two hb.rk rfl (Fit.refl.shift (m := -1)) ha (by show (0 : Int) < 0 - -1; omega)
  have : q ∈ heads bs := (mem_heads hb.two).mpr ⟨hq, hg⟩
  rw [e] at this
  cases this
theorem heads_one {bs : List (List Nat)} {p : Nat} (hb : Arrs bs) (h : ∀ x ∈ heads bs, x = p) : heads bs = [p] := by
  have hs := heads_sorted bs
  have hn := heads_ne hb
  generalize heads bs = L at *
  cases L with
  | nil => exact absurd rfl hn
  | cons x L =>
    cases L with
    | nil => rw [h x (by simp)]
    | cons y L =>
      have e1 := h x (by simp)
      have e2 := h y (by simp)
      have := (List.pairwise_cons.mp hs).1 y (by simp)
      omega
theorem alone_ex {as : List (List Nat)} {p : Nat} (ha : Arrs as) (hp : p ∈ as.flatten) : ∃ b, Reach as b ∧ heads b = [p] := by
  have go : ∀ (n : Nat) (bs : List (List Nat)) (row : List Nat), n + row.length = 43 → Row as row bs → p ∉ row → ∃ b, Reach as b ∧ heads b = [p] := by
    intro n
    induction n with
    | zero =>
      intro bs row hn hr hpn
      have := alone_bound ha hr hp hpn
      omega
    | succ n ih =>
      intro bs row hn hr hpn
      have hb := hr.arrs ha
      by_cases h : ∀ x ∈ heads bs, x = p
      · exact ⟨bs, ⟨row, hr⟩, heads_one hb h⟩
      · obtain ⟨q, hq⟩ := Classical.not_forall.mp h
        obtain ⟨hq1, hqp⟩ := Classical.not_imp.mp hq
        obtain ⟨hq3, hq4⟩ := (mem_heads hb.two).mp hq1
        refine ih (exch bs q) (row ++ [q]) (by simp; omega) (hr.snoc hq3 hq4) fun z => ?_
        rcases List.mem_append.mp z with z | z
        · exact hpn z
        · exact hqp (List.mem_singleton.mp z).symm
  exact go 43 as [] (by simp) .nil (by simp)
section
variable {X : Cx}
theorem eqv_self {d : D} (hok : okD d = true) : PyData.eqv (toPy d) (toPy d) = true := SeqAt.eqv_refl _ (ok_can d hok).1
theorem od_neRefl {d : D} (hu : X.A.units + 64 < cLine) (hok : okD d = true) (hdp : dpD d ≤ 64) : OpD X (compareOp .NotEq) d d (.bl false) := by
  have := od_neD (X := X) hu (ok_py _ hok) (ok_py _ hok) (shaped_ok hok hdp) (shaped_ok hok hdp)
  rw [eqv_self hok] at this
  exact this
end
end Pdl
namespace Pdl
open PySem L2 PyProof.Rows
structure LvsOk (as : List (List Nat)) (Ls : List (List (List (List Nat)))) : Prop where
  nd : Ls.flatten.Nodup
  mem : ∀ b, b ∈ Ls.flatten ↔ Reach as b
  ne : ∀ L ∈ Ls, L ≠ []
  row : ∀ i L, Ls[i]? = some L → ∀ b ∈ L, (∃ row, Row as row b ∧ row.length = i) ∧ ∀ row, Row as row b → i ≤ row.length
/-- Ls: the levels so far; later: those of the next one; ps: what of the last level is done -/
structure LvsI (as : List (List Nat)) (Ls : List (List (List (List Nat)))) : Prop where
  nd : Ls.flatten.Nodup
  st : [as] ∈ Ls.head?
  nz : Ls ≠ []
  ne : ∀ i L, Ls[i]? = some L → i + 1 < Ls.length → L ≠ []
  row : ∀ i L, Ls[i]? = some L → ∀ b ∈ L, ∃ row, Row as row b ∧ row.length = i
  cl : ∀ i L, Ls[i]? = some L → i + 1 < Ls.length → ∀ b ∈ L, ∀ p ∈ b.flatten, Gives b p → ∃ j M, j ≤ i + 1 ∧ Ls[j]? = some M ∧ exch b p ∈ M
theorem flat_ge {α : Type} : ∀ (Ls : List (List α)), (∀ i L, Ls[i]? = some L → i + 1 < Ls.length → L ≠ []) → Ls.length ≤ Ls.flatten.length + 1
  | [], _ => Nat.zero_le _
  | [L], _ => by simp
  | L :: M :: Ls, h => by
    have h1 : L ≠ [] := h 0 L rfl (by simp)
    have h2 := flat_ge (M :: Ls) fun i N hi hl => h (i + 1) N (by simpa using hi) (by simpa using hl)
    have h3 := List.length_pos_iff.mpr h1
    rw [List.flatten_cons, List.length_append]
    simp only [List.length_cons] at h2 ⊢
    omega
theorem LvsI.reach {as : List (List Nat)} {Ls : List (List (List (List Nat)))} (h : LvsI as Ls) : ∀ b ∈ Ls.flatten, Reach as b := fun b hb => by
  obtain ⟨L, hL, hb⟩ := List.mem_flatten.mp hb
  obtain ⟨i, hi⟩ := List.getElem?_of_mem hL
  obtain ⟨row, hr, _⟩ := h.row i L hi b hb
  exact ⟨row, hr⟩
theorem LvsI.few {as : List (List Nat)} {Ls : List (List (List (List Nat)))} (ha : Arrs as) (h : LvsI as Ls) : Ls.flatten.length ≤ 1024 ∧ Ls.length ≤ 1025 := by
  have h1 := reach_few ha h.nd h.reach
  have h2 := flat_ge Ls h.ne
  exact ⟨h1, by omega⟩
/-- while a level is gone through -/
structure LvsJ (as : List (List Nat)) (Ls : List (List (List (List Nat)))) (later don : List (List (List Nat))) : Prop where
  nd : (Ls.flatten ++ later).Nodup
  row : ∀ b ∈ later, ∃ row, Row as row b ∧ row.length = Ls.length
  cl : ∀ b ∈ don, ∀ p ∈ b.flatten, Gives b p → exch b p ∈ Ls.flatten ++ later
theorem LvsJ.step {as : List (List Nat)} {Ls : List (List (List (List Nat)))} {later don : List (List (List Nat))} (h : LvsI as Ls) {L : List (List (List Nat))} (hl : Ls.getLast? = some L) {k : List (List Nat)} {p : Nat} (hk : k ∈ L) (hp : p ∈ k.flatten) (hg : Gives k p)
    (hJ : LvsJ as Ls later don) (hn : exch k p ∉ Ls.flatten ++ later) : LvsJ as Ls (later ++ [exch k p]) don := by
  refine ⟨?_, fun b hb => ?_, fun b hb q hq hgq => ?_⟩
  · rw [← List.append_assoc, List.nodup_append]
    exact ⟨hJ.nd, by simp, fun x hx y hy => by
      obtain rfl := List.mem_singleton.mp hy
      exact fun e => hn (e ▸ hx)⟩
  · rcases List.mem_append.mp hb with hb | hb
    · exact hJ.row b hb
    · obtain rfl := List.mem_singleton.mp hb
      have hz := h.nz
      have hlen := List.length_pos_iff.mpr hz
      obtain ⟨row, h1, h2⟩ := h.row (Ls.length - 1) L (by rw [← List.getLast?_eq_getElem?]; exact hl) k hk
      exact ⟨row ++ [p], h1.snoc hp hg, by simp; omega⟩
  · have := hJ.cl b hb q hq hgq
    rw [← List.append_assoc]
    exact List.mem_append_left _ this
/-- the greatest distance -/
structure FarOk (as : List (List Nat)) (n : Nat) : Prop where
  some : ∃ b, (∃ row, Row as row b ∧ row.length = n) ∧ ∀ row, Row as row b → n ≤ row.length
  all : ∀ b, Reach as b → ∃ row, Row as row b ∧ row.length ≤ n
end Pdl
namespace Pdl
open PySem L2 PyProof.Rows
structure LenOk (as bs : List (List Nat)) (n : Nat) : Prop where
  row : ∃ row, Row as row bs ∧ row.length = n
  least : ∀ row, Row as row bs → n ≤ row.length
end Pdl
namespace Pdl
open PySem L2 PyProof.Rows
theorem FarOk.eq {as : List (List Nat)} {fd : LvL} {e : List (List Nat) × Nat} {n : Nat} (h : LevOk as fd) (he : e ∈ fd) (hm : ∀ e' ∈ fd, e'.2 ≤ e.2) (hf : FarOk as n) : n = e.2 := by
  obtain ⟨b, ⟨row, h1, h2⟩, h3⟩ := hf.some
  have hb := (h.mem b).mpr ⟨row, h1⟩
  obtain ⟨e', he', rfl⟩ := List.mem_map.mp hb
  obtain ⟨row', h4, h5⟩ := h.row e' he'
  have h6 := h.least e' he' row h1
  have h7 := h3 row' h4
  have h8 := hm e' he'
  obtain ⟨r1, h9, h10⟩ := hf.all e.1 ((h.mem e.1).mp (List.mem_map_of_mem he))
  have h11 := h.least e he r1 h9
  omega
theorem LenOk.eq {as : List (List Nat)} {fd : LvL} {e : List (List Nat) × Nat} {n : Nat} (h : LevOk as fd) (he : e ∈ fd) (hf : LenOk as e.1 n) : n = e.2 := by
  obtain ⟨row, h1, h2⟩ := hf.row
  obtain ⟨row', h3, h4⟩ := h.row e he
  have := h.least e he row h1
  have := hf.least row' h3
  omega
end Pdl
namespace Pdl
open PySem L2 PyProof.Rows
theorem Row.nil_eq {as bs : List (List Nat)} (h : Row as [] bs) : as = bs := by
  generalize e : ([] : List Nat) = r at h
  cases h with
  | nil => rfl
  | cons => cases e
theorem turn_ne {as : List (List Nat)} {p : Nat} (ha : Arrs as) (hp : p ∈ as.flatten) (hg : Gives as p) : exch as p ≠ as := fun e => by
  obtain ⟨l, hl, hpl⟩ := List.mem_flatten.mp hp
  obtain ⟨a, b, rfl⟩ := ha.two l hl
  have ht := exch_takes ha.two hg
  rw [e] at ht
  rcases List.mem_cons.mp hpl with rfl | h
  · exact ht b hl
  · rw [List.mem_singleton.mp h] at hg
    exact hg a hl
theorem FarOk.pos {as : List (List Nat)} {n : Nat} (ha : Arrs as) (hf : FarOk as n) : 1 ≤ n := by
  obtain ⟨p, hp⟩ := List.exists_mem_of_ne_nil _ (heads_ne ha)
  obtain ⟨h1, h2⟩ := (mem_heads ha.two).mp hp
  obtain ⟨row, hr, hl⟩ := hf.all (exch as p) ⟨[p], .cons h1 h2 .nil⟩
  rcases Nat.eq_zero_or_pos n with rfl | h
  · obtain rfl := List.length_eq_zero_iff.mp (Nat.le_zero.mp hl)
    exact absurd hr.nil_eq.symm (turn_ne ha h1 h2)
  · exact h
theorem short_row {as bs : List (List Nat)} (ha : Arrs as) (h : Reach as bs) : ∃ row, Row as row bs ∧ row.length ≤ 42 := by
  obtain ⟨r0, hr0⟩ := h
  obtain ⟨hb, _, hs, hf⟩ := hr0.facts ha.two ha.rk
  obtain ⟨g, hg, h0, p, hp, hz⟩ := hf.least ha
  obtain ⟨row, hr, hc⟩ := fit_row ha hb hs hg h0
  refine ⟨row, hr, alone_bound ha hr hp fun hm => ?_⟩
  have := hc p hp
  rw [hz] at this
  have := List.count_pos_iff.mpr hm
  omega
theorem FarOk.few {as : List (List Nat)} {n : Nat} (ha : Arrs as) (hf : FarOk as n) : n ≤ 42 := by
  obtain ⟨b, ⟨row, h1, _⟩, h3⟩ := hf.some
  obtain ⟨r, hr, hl⟩ := short_row ha ⟨row, h1⟩
  have := h3 r hr
  omega
theorem LevOk.few {as : List (List Nat)} {fd : LvL} {e : List (List Nat) × Nat} (ha : Arrs as) (h : LevOk as fd) (he : e ∈ fd) : e.2 ≤ 42 := by
  obtain ⟨r, hr, hl⟩ := short_row ha ((h.mem e.1).mp (List.mem_map_of_mem he))
  have := h.least e he r hr
  omega
theorem Reach.step {as bs : List (List Nat)} {p : Nat} (h : Reach as bs) (hp : p ∈ bs.flatten) (hg : Gives bs p) : Reach as (exch bs p) := let ⟨r, hr⟩ := h; ⟨_, hr.snoc hp hg⟩
theorem Reach.arrs {as bs : List (List Nat)} (ha : Arrs as) (h : Reach as bs) : Arrs bs := let ⟨_, hr⟩ := h; hr.arrs ha
end Pdl
namespace Pdl
open PySem L2 PyProof.Rows
def CmD (T : Wd) (C : Addr) (f : Str) (k : Nat) (S : SpD) : Prop :=
  ∃ (mc : Value) (p g : Addr) (fd : FuncData) (ps : List Str), ClX.CRead T.K C mc ∧ ClX.CMet T.K C mc f p g ∧ FnOk T.P T.w T.K T.mg T.base CX0 k g fd ps (spD T.K S) ∧ Binds T.K fd ps []
/-- the class itself stands ahead -/
abbrev Cm (T : Wd) (C : Addr) (f : Str) (k : Nat) (S : PSp) : Prop := CmD T C f k (pS S)
section
variable {X : Cx} {μ : Md} {Γ Γ' : En} {Q : QE} {a b c e o : Expr} {es : List Expr} {pos apos cpos : Pos} {P P' : Po} {st : Stmt} {sts : List Stmt} {m : Addr → Bool} {H : Hp} {K : PySem.W.Frag} {x y d : D}
theorem xe_cmeth {pl : Sem Bool} {k : Nat} {C : Addr} {f : Str} {S : SpD} (M : CmD (wdX X) C f k S) (hr : Room k X.A) (h : XE X μ o Γ fun z Γ1 => z = .ref C ∧ XA X μ (e :: es) Γ1 fun ds Γ2 => Asks μ S Q (.ref C :: ds) Γ2)
    (hst : starEach (e :: es) X.env = (false, eval e X.env) :: starEach es X.env := by rfl) (hpl : (backTo pos (starEach es X.env)).any (·.1) = false := by rfl)
    (ht : eval (.Call (.Attribute o f apos) (e :: es) [] pos) X.env = (do
      let ov ← eval o X.env
      standAt apos.atName
      let (f, first) ← holding [ov] (getMethod ov f pl)
      callWith pos f first (backTo pos (starEach (e :: es) X.env)) (backToKw pos (keywordEach [] X.env))) := by rfl) : XE X μ (.Call (.Attribute o f apos) (e :: es) [] pos) Γ Q := by
  obtain ⟨mc, p, g, fd, ps, cr, cm, F, bd⟩ := M
  refine PE.imp pe_u fun σ H q ⟨R, k⟩ => ⟨_, ClX.pe_cmeth (E := wD X.K μ σ) h cr cm (F.raw bd .nil) hr pass0' pa_u hst hpl ht, R, fun v H1 z Γ1 s1 f1 R1 r1 ⟨hz, hs⟩ => ?_⟩
  subst hz
  cases r1
  refine ⟨rfl, _, hs, R1, fun vs H2 ds Γ2 s2 f2 R2 r2 ha => ?_⟩
  show spD X.K S ((.ref C :: vs) ++ []) H2 q (wD X.K μ σ)
  rw [List.append_nil]
  exact asks_sp R2 (.cons (.ref C) r2) ha fun v H3 d Γ3 s3 f3 R3 r3 hq => k v H3 d Γ3 ((s3.trans s2).trans s1) ((f1.trans f2).trans f3) R3 r3 hq
theorem xe_cm {pl : Sem Bool} {k n : Nat} {C : Addr} {f : Str} {S : PSp} (M : Cm (wdX X) C f k S) (hr : Room n X.A) (hkn : k ≤ n) (h : XE X μ o Γ fun z Γ1 => z = .ref C ∧ XA X μ (e :: es) Γ1 fun ds Γ2 => ∀ Qc : D → Prop, (∀ d, Q d Γ2 → Qc d) → S (.ref C :: ds) Qc)
    (hst : starEach (e :: es) X.env = (false, eval e X.env) :: starEach es X.env := by rfl) (hpl : (backTo pos (starEach es X.env)).any (·.1) = false := by rfl)
    (ht : eval (.Call (.Attribute o f apos) (e :: es) [] pos) X.env = (do
      let ov ← eval o X.env
      standAt apos.atName
      let (f, first) ← holding [ov] (getMethod ov f pl)
      callWith pos f first (backTo pos (starEach (e :: es) X.env)) (backToKw pos (keywordEach [] X.env))) := by rfl) : XE X μ (.Call (.Attribute o f apos) (e :: es) [] pos) Γ Q := by
  refine xe_cmeth M (hr.mono hkn) (h.imp ?_) hst hpl ht
  rintro z Γ1 ⟨h1, h2⟩
  exact ⟨h1, PA.imp h2 fun σ H q ⟨R, k⟩ => ⟨R, fun vs H' ds Γ' s f R' r z => k vs H' ds Γ' s f R' r (asks_p z)⟩⟩
end
end Pdl
namespace Pdl
open PySem L2 PyProof.Rows
def txt (l : List (List Nat)) : List Nat := TL.joinL [32] l
def texts (L : List (List (List Nat))) : List (List Nat) := srt (L.map txt)
theorem srt_same {l m : List (List Nat)} (h : l.Perm m) : srt l = srt m := srt_eq (srt_sorted m) ((srt_perm m).trans h.symm)
theorem texts_same {L M : List (List (List Nat))} (h1 : L.Nodup) (h2 : M.Nodup) (h : ∀ b, b ∈ L ↔ b ∈ M) : texts L = texts M := srt_same (((List.perm_ext_iff_of_nodup h1 h2).mpr h).map _)
theorem spl_txt {as : List (List Nat)} (ha : Arrs as) : TL.spl [32] 0 [] (txt as) = as := TL.spl_join ha.ne fun p hp h => by
  obtain ⟨a, b, rfl, h1, h2, _⟩ := ha.pr p hp
  simp at h
  omega
theorem txt_inj {as bs : List (List Nat)} (ha : Arrs as) (hb : Arrs bs) (h : txt as = txt bs) : as = bs := by rw [← spl_txt ha, h, spl_txt hb]
theorem two_flat : ∀ {ls : List (List Nat)}, Two ls → ls.flatten.length = 2 * ls.length
  | [], _ => rfl
  | l :: ls, h => by
    obtain ⟨a, b, rfl⟩ := h l List.mem_cons_self
    rw [List.flatten_cons, List.length_append, two_flat fun x hx => h x (List.mem_cons_of_mem _ hx)]
    simp
    omega
theorem Arrs.flat {as : List (List Nat)} (ha : Arrs as) : as.flatten.length ≤ 20 := by rw [two_flat ha.two]; have := ha.len; omega
theorem mem_texts {L : List (List (List Nat))} {t : List Nat} : t ∈ texts L ↔ ∃ l ∈ L, txt l = t := by
  unfold texts
  rw [mem_srt, List.mem_map]
/-- just the ways that are like one -/
structure IsCls (as : List (List Nat)) (L : List (List (List Nat))) : Prop where
  nd : L.Nodup
  mem : ∀ b, b ∈ L ↔ Reach as b
theorem IsCls.eq {as : List (List Nat)} {L M : List (List (List Nat))} (h1 : IsCls as L) (h2 : IsCls as M) : texts L = texts M := texts_same h1.nd h2.nd fun b => (h1.mem b).trans (h2.mem b).symm
theorem IsCls.arrs {as : List (List Nat)} {L : List (List (List Nat))} (ha : Arrs as) (h : IsCls as L) : ∀ l ∈ L, Arrs l := fun l hl => ((h.mem l).mp hl).arrs ha
theorem IsCls.few {as : List (List Nat)} {L : List (List (List Nat))} (ha : Arrs as) (h : IsCls as L) : L.length ≤ 1024 := reach_few ha h.nd fun b hb => (h.mem b).mp hb
theorem IsCls.of {as bs : List (List Nat)} {L : List (List (List Nat))} (ha : Arrs as) (h : IsCls as L) (hr : Reach as bs) : IsCls bs L := ⟨h.nd, fun b => (h.mem b).trans ⟨fun z => (hr.symm ha).trans z, fun z => hr.trans z⟩⟩
theorem LevOk.cls {as : List (List Nat)} {fd : LvL} (h : LevOk as fd) : IsCls as (lvK fd) := ⟨h.nd, h.mem⟩
theorem LvsOk.cls {as : List (List Nat)} {Ls : List (List (List (List Nat)))} (h : LvsOk as Ls) : IsCls as Ls.flatten := ⟨h.nd, h.mem⟩
end Pdl
namespace Pdl
open PySem L2 PyProof.Rows
theorem fold_nodup : ∀ (ls : List (List Nat)) (F : List (List (List Nat))), (∀ d ∈ ls, d ≠ d.reverse) → F.Nodup → (ls.foldl stepQ F).Nodup
  | [], _, _, h => h
  | d :: ls, F, hd, h => by
    refine fold_nodup ls _ (fun x hx => hd x (List.mem_cons_of_mem _ hx)) ?_
    have inj : ∀ c : List Nat, (F.map fun l => l ++ [c]).Nodup := fun c => List.Pairwise.map _ (fun a b hne e => hne (List.append_cancel_right e)) h
    refine List.nodup_append.mpr ⟨inj d, inj d.reverse, fun a ha b hb e => ?_⟩
    obtain ⟨x, _, rfl⟩ := List.mem_map.mp ha
    obtain ⟨y, _, rfl⟩ := List.mem_map.mp hb
    have := (List.append_inj' e rfl).2
    simp at this
    exact hd d List.mem_cons_self this
theorem flows_nodup {ls : List (List Nat)} (h : Ties ls) : (flows ls).Nodup := by
  refine (srtE_perm tS _).nodup_iff.mpr ((fold_nodup ls [[]] (fun d hd e => ?_) (by simp)).filter _)
  obtain ⟨a, b, rfl, _, _, hab⟩ := h.pr d hd
  simp at e
  omega
def lone (ls : List (List Nat)) (p : Nat) : List (List (List Nat)) := (flows ls).filter fun l => decide (heads l = [p])
theorem mem_lone {ls b : List (List Nat)} {p : Nat} (h : Ties ls) : b ∈ lone ls p ↔ Arrs b ∧ b.map pr2 = ls ∧ heads b = [p] := by
  unfold lone
  rw [List.mem_filter, mem_flows h, decide_eq_true_iff, and_assoc]
theorem lone_nodup {ls : List (List Nat)} {p : Nat} (h : Ties ls) : (lone ls p).Nodup := (flows_nodup h).filter _
theorem lone_len (ls : List (List Nat)) (h : ls.length ≤ 10) (p : Nat) : (lone ls p).length ≤ 1024 := Nat.le_trans (List.length_filter_le _ _) (flows_len h)
theorem Reach.pr2 {as bs : List (List Nat)} (ha : Arrs as) (h : Reach as bs) : as.map Pdl.pr2 = bs.map Pdl.pr2 := let ⟨_, hr⟩ := h; (hr.facts ha.two ha.rk).2.2.1
theorem mem_flat_of {ls b : List (List Nat)} {p : Nat} (hb : Arrs b) (e : b.map pr2 = ls) : p ∈ b.flatten ↔ p ∈ ls.flatten := by rw [← e, mem_pr2_flat hb.two]
theorem lone_like {ls as bs : List (List Nat)} {p : Nat} (h : Ties ls) (ha : as ∈ lone ls p) (hb : bs ∈ lone ls p) : Reach as bs ↔ as = bs := by
  obtain ⟨h1, h2, h3⟩ := (mem_lone h).mp ha
  obtain ⟨g1, g2, g3⟩ := (mem_lone h).mp hb
  exact ⟨fun r => alone_eq h1 r h3 g3, fun e => e ▸ .refl as⟩
theorem lone_arrs {ls : List (List Nat)} {p : Nat} (h : Ties ls) : ∀ l ∈ lone ls p, Arrs l := fun l hl => ((mem_lone h).mp hl).1
theorem flows_arrs {ls : List (List Nat)} (h : Ties ls) : ∀ l ∈ flows ls, Arrs l := fun l hl => ((mem_flows h).mp hl).1
theorem us_ne {ls : List (List Nat)} (h : Ties ls) : ∃ p r, us ls.flatten = p :: r := by
  cases e : us ls.flatten with
  | cons p r => exact ⟨p, r, rfl⟩
  | nil =>
    obtain ⟨l, hl⟩ := List.exists_mem_of_ne_nil _ h.ne
    obtain ⟨a, b, rfl⟩ := h.two l hl
    have : a ∈ us ls.flatten := mem_us.mpr (List.mem_flatten.mpr ⟨_, hl, by simp⟩)
    rw [e] at this
    cases this
end Pdl
namespace Pdl
open PySem L2 PyProof.Rows
open Classical in
noncomputable def clsF (as : List (List Nat)) : List (List (List Nat)) := (flows (as.map pr2)).filter fun b => decide (Reach as b)
open Classical in
theorem clsF_ok {as : List (List Nat)} (ha : Arrs as) : IsCls as (clsF as) := by
  refine ⟨(flows_nodup ha.ties).filter _, fun b => ?_⟩
  unfold clsF
  rw [List.mem_filter, mem_flows ha.ties, decide_eq_true_iff]
  exact ⟨fun h => h.2, fun h => ⟨⟨h.arrs ha, (h.pr2 ha).symm⟩, h⟩⟩
noncomputable def ct (as : List (List Nat)) : List (List Nat) := texts (clsF as)
theorem IsCls.ct {as : List (List Nat)} {L : List (List (List Nat))} (ha : Arrs as) (h : IsCls as L) : texts L = ct as := h.eq (clsF_ok ha)
theorem mem_ct {as : List (List Nat)} {t : List Nat} (ha : Arrs as) : t ∈ ct as ↔ ∃ b, Reach as b ∧ txt b = t := by
  unfold ct
  rw [mem_texts]
  exact ⟨fun ⟨b, h, e⟩ => ⟨b, ((clsF_ok ha).mem b).mp h, e⟩, fun ⟨b, h, e⟩ => ⟨b, ((clsF_ok ha).mem b).mpr h, e⟩⟩
theorem ct_reach {as bs : List (List Nat)} (ha : Arrs as) (h : Reach as bs) : ct as = ct bs := ((clsF_ok ha).of ha h).ct (h.arrs ha)
theorem ct_eq {as bs : List (List Nat)} (ha : Arrs as) (hb : Arrs bs) : ct as = ct bs ↔ Reach as bs := by
  refine ⟨fun e => ?_, ct_reach ha⟩
  have h1 : txt as ∈ ct bs := e ▸ (mem_ct ha).mpr ⟨as, .refl as, rfl⟩
  obtain ⟨c, hc, e2⟩ := (mem_ct hb).mp h1
  obtain rfl := txt_inj (hc.arrs hb) ha e2
  exact hc.symm hb
theorem ct_nodup {as : List (List Nat)} (ha : Arrs as) : (ct as).Nodup := by
  refine (srt_perm _).nodup_iff.mpr (List.pairwise_map.mpr ((clsF_ok ha).nd.imp_of_mem fun {a b} h1 h2 hne e => hne ?_))
  exact txt_inj ((clsF_ok ha).arrs ha a h1) ((clsF_ok ha).arrs ha b h2) e
/-- all classes of ties, each once -/
structure IsClss (ls : List (List Nat)) (C : List (List (List Nat))) : Prop where
  nd : C.Nodup
  mem : ∀ t, t ∈ C ↔ ∃ as ∈ flows ls, t = ct as
theorem IsClss.perm {ls : List (List Nat)} {C D : List (List (List Nat))} (h1 : IsClss ls C) (h2 : IsClss ls D) : C.Perm D := (List.perm_ext_iff_of_nodup h1.nd h2.nd).mpr fun t => (h1.mem t).trans (h2.mem t).symm
theorem IsClss.eq {ls : List (List Nat)} {C D : List (List (List Nat))} (h1 : IsClss ls C) (h2 : IsClss ls D) : srtE tS C = srtE tS D := srtE_same (kinj_tS _) (h1.perm h2)
theorem lone_clss {ls : List (List Nat)} {p : Nat} (h : Ties ls) (hp : p ∈ ls.flatten) : IsClss ls ((lone ls p).map ct) := by
  refine ⟨List.pairwise_map.mpr ((lone_nodup h).imp_of_mem fun {a b} h1 h2 hne e => hne ((lone_like h h1 h2).mp ((ct_eq (lone_arrs h a h1) (lone_arrs h b h2)).mp e))), fun t => ?_⟩
  rw [List.mem_map]
  constructor
  · rintro ⟨a, ha, rfl⟩
    exact ⟨a, (List.mem_filter.mp ha).1, rfl⟩
  · rintro ⟨a, ha, rfl⟩
    obtain ⟨h1, h2⟩ := (mem_flows h).mp ha
    obtain ⟨b, hb, hh⟩ := alone_ex h1 ((mem_flat_of h1 h2).mpr hp)
    exact ⟨b, (mem_lone h).mpr ⟨hb.arrs h1, by rw [← hb.pr2 h1, h2], hh⟩, (ct_reach h1 hb).symm⟩
theorem IsClss.len {ls : List (List Nat)} {C : List (List (List Nat))} {p : Nat} (h : IsClss ls C) (ht : Ties ls) (hp : p ∈ ls.flatten) : C.length = (lone ls p).length := by
  rw [(h.perm (lone_clss ht hp)).length_eq, List.length_map]
theorem IsClss.few {ls : List (List Nat)} {C : List (List (List Nat))} (h : IsClss ls C) (ht : Ties ls) : C.length ≤ 1024 := by
  obtain ⟨p, r, hu⟩ := us_ne ht
  rw [h.len ht (mem_us.mp (by rw [hu]; simp) : p ∈ ls.flatten)]
  exact lone_len ls ht.len p
theorem IsClss.flat {ls : List (List Nat)} {C : List (List (List Nat))} (h : IsClss ls C) (ht : Ties ls) : C.flatten.Perm ((flows ls).map txt) := by
  have hfa := flows_arrs ht
  refine (List.perm_ext_iff_of_nodup ?_ ?_).mpr fun t => ?_
  · refine List.pairwise_flatten.mpr ⟨fun t htc => ?_, ?_⟩
    · obtain ⟨a, ha, rfl⟩ := (h.mem t).mp htc
      exact ct_nodup (hfa a ha)
    · refine h.nd.imp_of_mem fun {s t} hs ht' hne x hx y hy e => hne ?_
      subst e
      obtain ⟨a, ha, rfl⟩ := (h.mem s).mp hs
      obtain ⟨b, hb, rfl⟩ := (h.mem t).mp ht'
      obtain ⟨c, hc, e1⟩ := (mem_ct (hfa a ha)).mp hx
      obtain ⟨d, hd, e2⟩ := (mem_ct (hfa b hb)).mp hy
      obtain rfl := txt_inj (hc.arrs (hfa a ha)) (hd.arrs (hfa b hb)) (e1.trans e2.symm)
      exact (ct_eq (hfa a ha) (hfa b hb)).mpr (hc.trans (hd.symm (hfa b hb)))
  · exact List.pairwise_map.mpr ((flows_nodup ht).imp_of_mem fun {a b} h1 h2 hne e => hne (txt_inj (hfa a h1) (hfa b h2) e))
  · rw [List.mem_flatten, List.mem_map]
    constructor
    · rintro ⟨s, hs, hts⟩
      obtain ⟨a, ha, rfl⟩ := (h.mem s).mp hs
      obtain ⟨c, hc, e1⟩ := (mem_ct (hfa a ha)).mp hts
      obtain ⟨h1, h2⟩ := (mem_flows ht).mp ha
      exact ⟨c, (mem_flows ht).mpr ⟨hc.arrs h1, by rw [← hc.pr2 h1, h2]⟩, e1⟩
    · rintro ⟨a, ha, rfl⟩
      exact ⟨ct a, (h.mem _).mpr ⟨a, ha, rfl⟩, (mem_ct (hfa a ha)).mpr ⟨a, .refl a, rfl⟩⟩
structure ClsI (fl : List (List (List Nat))) (j : Nat) (K F : List (List (List Nat))) : Prop where
  knd : K.Nodup
  kmem : ∀ b, b ∈ K ↔ ∃ as ∈ fl.take j, Reach as b
  fnd : F.Nodup
  fmem : ∀ t, t ∈ F ↔ ∃ as ∈ fl.take j, t = ct as
theorem ClsI.off {fl : List (List (List Nat))} {j : Nat} {K F L : List (List (List Nat))} {a : List (List Nat)} (hfa : ∀ l ∈ fl, Arrs l) (h : ClsI fl j K F) (ha : Arrs a) (hk : a ∉ K) (hL : IsCls a L) : (K ++ L).Nodup := by
  refine List.nodup_append.mpr ⟨h.knd, hL.nd, fun x hx y hy e => ?_⟩
  subst e
  obtain ⟨c, hc, hr⟩ := (h.kmem x).mp hx
  have h2 := (hL.mem x).mp hy
  exact hk ((h.kmem a).mpr ⟨c, hc, hr.trans (h2.symm ha)⟩)
theorem ClsI.new {fl : List (List (List Nat))} {j : Nat} {K F L : List (List (List Nat))} {a : List (List Nat)} (hfa : ∀ l ∈ fl, Arrs l) (h : ClsI fl j K F) (ha : fl[j]? = some a) (hk : a ∉ K) (hL : IsCls a L) : ClsI fl (j + 1) (K ++ L) (F ++ [ct a]) := by
  have et : fl.take (j + 1) = fl.take j ++ [a] := by rw [List.take_add_one, ha]; rfl
  have haa := hfa a (List.mem_of_getElem? ha)
  refine ⟨h.off hfa haa hk hL, fun b => ?_, ?_, fun t => ?_⟩
  · rw [List.mem_append, h.kmem, et, hL.mem]
    constructor
    · rintro (⟨x, hx, z⟩ | z)
      · exact ⟨x, List.mem_append_left _ hx, z⟩
      · exact ⟨a, by simp, z⟩
    · rintro ⟨x, hx, z⟩
      rcases List.mem_append.mp hx with hx | hx
      · exact .inl ⟨x, hx, z⟩
      · obtain rfl := List.mem_singleton.mp hx
        exact .inr z
  · refine List.nodup_append.mpr ⟨h.fnd, by simp, fun x hx y hy e => ?_⟩
    subst e
    have hy := List.mem_singleton.mp hy
    obtain ⟨c, hc, e⟩ := (h.fmem x).mp hx
    refine hk ((h.kmem a).mpr ⟨c, hc, (ct_eq (hfa c (List.mem_of_mem_take hc)) haa).mp (e.symm.trans hy)⟩)
  · rw [List.mem_append, h.fmem, et, List.mem_singleton]
    constructor
    · rintro (⟨x, hx, z⟩ | z)
      · exact ⟨x, List.mem_append_left _ hx, z⟩
      · exact ⟨a, by simp, z⟩
    · rintro ⟨x, hx, z⟩
      rcases List.mem_append.mp hx with hx | hx
      · exact .inl ⟨x, hx, z⟩
      · obtain rfl := List.mem_singleton.mp hx
        exact .inr z
end Pdl
namespace PySem
end PySem
namespace Pdl
open PySem L2 PyProof.Rows
structure HintsOf (as hs : List (List Nat)) : Prop where
  len : hs.length = as.length
  each : ∀ (i : Nat) (a h : List Nat), as[i]? = some a → hs[i]? = some h → h = a ∨ h = a.reverse ∨ h = [63]
theorem pr2_or {l : List Nat} (h : ∃ a b, l = [a, b]) : pr2 l = l ∨ pr2 l = l.reverse := by
  obtain ⟨a, b, rfl⟩ := h
  by_cases h : b < a
  · exact .inr (show (if b < a then [b, a] else [a, b]) = [b, a] by rw [if_pos h])
  · exact .inl (show (if b < a then [b, a] else [a, b]) = [a, b] by rw [if_neg h])
theorem HintsOf.ties {ls as hs : List (List Nat)} (ha : Arrs as) (e : as.map pr2 = ls) (h : HintsOf as hs) : HintsOf ls hs := by
  subst e
  refine ⟨by rw [h.len, List.length_map], fun i t x h1 h2 => ?_⟩
  rw [List.getElem?_map] at h1
  obtain ⟨a, ha1, rfl⟩ := Option.map_eq_some_iff.mp h1
  have h3 := h.each i a x ha1 h2
  rcases pr2_or (ha.two a (List.mem_of_getElem? ha1)) with e | e
  · rw [e]; exact h3
  · rw [e]
    rcases h3 with h3 | h3 | h3
    · exact .inr (.inl (by rw [h3]; simp))
    · exact .inl h3
    · exact .inr (.inr h3)
theorem HintsOf.refl (as : List (List Nat)) : HintsOf as as := ⟨rfl, fun i a h h1 h2 => .inl (by rw [h1] at h2; exact (Option.some.inj h2).symm)⟩
end Pdl
namespace Pdl
open PySem L2 PyProof.Rows
theorem Ties.arrs {ls : List (List Nat)} (h : Ties ls) : Arrs ls := ⟨h.two, by rw [h.pr2s]; exact h, fun x => x, fun a b hl => by
  obtain ⟨a', b', e, _, hab, _⟩ := h.pr _ hl
  cases e
  exact hab⟩
end Pdl
namespace Pdl
open PySem L2 PyProof.Rows
def Adj (ls : List (List Nat)) (a b : Nat) : Prop := pr2 [a, b] ∈ ls
instance (ls : List (List Nat)) (a b : Nat) : Decidable (Adj ls a b) := inferInstanceAs (Decidable (_ ∈ _))
theorem Adj.symm {ls : List (List Nat)} {a b : Nat} (h : Adj ls a b) : Adj ls b a := by
  unfold Adj at *
  rw [pr2_comm]
  exact h
def hd (r : List Nat) : Nat := r.head?.getD 0
def lst (r : List Nat) : Nat := r.getLast?.getD 0
theorem hd_cons {a : Nat} {t : List Nat} : hd (a :: t) = a := rfl
theorem lst_cons {a b : Nat} {t : List Nat} : lst (a :: b :: t) = lst (b :: t) := by
  unfold lst
  rw [List.getLast?_cons_cons]
theorem lst_snoc {a : Nat} {t : List Nat} : lst (t ++ [a]) = a := by
  unfold lst
  rw [List.getLast?_concat]
  rfl
theorem lst_app {t s : List Nat} (h : s ≠ []) : lst (t ++ s) = lst s := by
  unfold lst
  rw [List.getLast?_append, List.getLast?_eq_some_getLast h]
  rfl
theorem hd_app {t s : List Nat} (h : t ≠ []) : hd (t ++ s) = hd t := by
  cases t with
  | nil => exact absurd rfl h
  | cons a t => rfl
theorem lst_mem {r : List Nat} (h : r ≠ []) : lst r ∈ r := by
  unfold lst
  rw [List.getLast?_eq_some_getLast h]
  exact List.getLast_mem h
/-- neighbours stand side by side -/
def Chn (ls : List (List Nat)) : List Nat → Prop
  | a :: b :: t => Adj ls a b ∧ Chn ls (b :: t)
  | _ => True
theorem Chn.tail {ls : List (List Nat)} {a : Nat} {t : List Nat} (h : Chn ls (a :: t)) : Chn ls t := by
  cases t with
  | nil => trivial
  | cons b t => exact h.2
theorem chn_app {ls : List (List Nat)} : ∀ {s t : List Nat}, s ≠ [] → t ≠ [] → (Chn ls (s ++ t) ↔ Chn ls s ∧ Adj ls (lst s) (hd t) ∧ Chn ls t)
  | [], _, h, _ => absurd rfl h
  | [a], b :: t, _, _ => by
    show (Adj ls a b ∧ Chn ls (b :: t)) ↔ (True ∧ Adj ls a b ∧ Chn ls (b :: t))
    simp
  | a :: b :: s, t, _, ht => by
    have ih := chn_app (ls := ls) (s := b :: s) (t := t) (by simp) ht
    show (Adj ls a b ∧ Chn ls (b :: s ++ t)) ↔ ((Adj ls a b ∧ Chn ls (b :: s)) ∧ Adj ls (lst (a :: b :: s)) (hd t) ∧ Chn ls t)
    rw [lst_cons, ih]
    constructor
    · rintro ⟨h1, h2, h3, h4⟩
      exact ⟨⟨h1, h2⟩, h3, h4⟩
    · rintro ⟨⟨h1, h2⟩, h3, h4⟩
      exact ⟨h1, h2, h3, h4⟩
theorem Chn.mono {ls ms : List (List Nat)} (h : ∀ l ∈ ls, l ∈ ms) : ∀ {p : List Nat}, Chn ls p → Chn ms p
  | [], _ => trivial
  | [_], _ => trivial
  | a :: b :: t, c => ⟨h _ c.1, Chn.mono h (p := b :: t) c.2⟩
/-- a sum along a walk -/
def pth (g : Nat → Nat → Int) : List Nat → Int
  | a :: b :: t => g a b + pth g (b :: t)
  | _ => 0
theorem pth_app (g : Nat → Nat → Int) : ∀ {s t : List Nat}, s ≠ [] → t ≠ [] → pth g (s ++ t) = pth g s + g (lst s) (hd t) + pth g t
  | [], _, h, _ => absurd rfl h
  | [a], b :: t, _, _ => by
    show g a b + pth g (b :: t) = 0 + g a b + pth g (b :: t)
    omega
  | a :: b :: s, t, _, ht => by
    have ih := pth_app g (s := b :: s) (t := t) (by simp) ht
    show g a b + pth g (b :: s ++ t) = g a b + pth g (b :: s) + g (lst (a :: b :: s)) (hd t) + pth g t
    rw [lst_cons, ih]
    omega
/-- a sum round a ring -/
def rnd (g : Nat → Nat → Int) (r : List Nat) : Int := g (lst r) (hd r) + pth g r
theorem rnd_rot (g : Nat → Nat → Int) {s t : List Nat} (hs : s ≠ []) (ht : t ≠ []) : rnd g (s ++ t) = rnd g (t ++ s) := by
  unfold rnd
  rw [pth_app g hs ht, pth_app g ht hs, lst_app ht, lst_app hs, hd_app hs, hd_app ht]
  omega
theorem pth_rev {g : Nat → Nat → Int} {ls : List (List Nat)} (ha : ∀ a b, Adj ls a b → g b a = - g a b) : ∀ {p : List Nat}, Chn ls p → pth g p.reverse = - pth g p
  | [], _ => rfl
  | [_], _ => rfl
  | a :: b :: t, c => by
    have ih := pth_rev ha (p := b :: t) c.2
    have e : (a :: b :: t).reverse = (b :: t).reverse ++ [a] := by simp
    rw [e, pth_app g (by simp) (by simp), ih]
    have e2 : lst (b :: t).reverse = b := by
      rw [List.reverse_cons]
      exact lst_snoc
    rw [e2, hd_cons, ha a b c.1]
    show - pth g (b :: t) + - g a b + 0 = - (g a b + pth g (b :: t))
    omega
theorem lst_rev {p : List Nat} : lst p.reverse = hd p := by
  cases p with
  | nil => rfl
  | cons a t => rw [List.reverse_cons, lst_snoc]; rfl
theorem hd_rev {p : List Nat} : hd p.reverse = lst p := by
  have := lst_rev (p := p.reverse)
  rw [List.reverse_reverse] at this
  exact this.symm
theorem chn_rev {ls : List (List Nat)} : ∀ {p : List Nat}, Chn ls p → Chn ls p.reverse
  | [], _ => trivial
  | [_], _ => trivial
  | a :: b :: t, c => by
    have ih := chn_rev (p := b :: t) c.2
    have e : (a :: b :: t).reverse = (b :: t).reverse ++ [a] := by simp
    rw [e]
    refine (chn_app (by simp) (by simp)).mpr ⟨ih, ?_, trivial⟩
    rw [lst_rev]
    exact c.1.symm
structure Cyc (ls : List (List Nat)) (r : List Nat) : Prop where
  len : 3 ≤ r.length
  nd : r.Nodup
  chn : Chn ls r
  cl : Adj ls (lst r) (hd r)
structure Ring (ls : List (List Nat)) (r : List Nat) : Prop extends Cyc ls r where
  least : ∀ x ∈ r, hd r ≤ x
  turn : ∀ x, r[1]? = some x → x < lst r
theorem Cyc.rot {ls : List (List Nat)} {s t : List Nat} (hs : s ≠ []) (ht : t ≠ []) (h : Cyc ls (s ++ t)) : Cyc ls (t ++ s) where
  len := by have := h.len; simp at *; omega
  nd := (List.perm_append_comm (l₁ := s) (l₂ := t)).nodup_iff.mp h.nd
  chn := by
    obtain ⟨h1, h2, h3⟩ := (chn_app hs ht).mp h.chn
    have := h.cl
    rw [lst_app ht, hd_app hs] at this
    exact (chn_app ht hs).mpr ⟨h3, this, h1⟩
  cl := by
    obtain ⟨h1, h2, h3⟩ := (chn_app hs ht).mp h.chn
    rw [lst_app hs, hd_app ht]
    exact h2
theorem Cyc.rev {ls : List (List Nat)} {r : List Nat} (h : Cyc ls r) : Cyc ls r.reverse where
  len := by rw [List.length_reverse]; exact h.len
  nd := (List.reverse_perm r).nodup_iff.mpr h.nd
  chn := chn_rev h.chn
  cl := by rw [lst_rev, hd_rev]; exact h.cl.symm
theorem rnd_rev {g : Nat → Nat → Int} {ls : List (List Nat)} {r : List Nat} (ha : ∀ a b, Adj ls a b → g b a = - g a b) (h : Cyc ls r) : rnd g r.reverse = - rnd g r := by
  unfold rnd
  rw [pth_rev ha h.chn, lst_rev, hd_rev, ha _ _ h.cl]
  omega
theorem least_at : ∀ (r : List Nat), r ≠ [] → ∃ s m t, r = s ++ m :: t ∧ ∀ x ∈ r, m ≤ x
  | [], h => absurd rfl h
  | [a], _ => ⟨[], a, [], rfl, by simp⟩
  | a :: b :: r, _ => by
    obtain ⟨s, m, t, e, hm⟩ := least_at (b :: r) (by simp)
    by_cases h : a ≤ m
    · exact ⟨[], a, b :: r, rfl, fun x hx => by
        rcases List.mem_cons.mp hx with z | z
        · omega
        · exact Nat.le_trans h (hm x z)⟩
    · exact ⟨a :: s, m, t, by rw [e]; rfl, fun x hx => by
        rcases List.mem_cons.mp hx with z | z
        · omega
        · exact hm x z⟩
/-- each ring has its right form -/
theorem Cyc.form {ls : List (List Nat)} {r : List Nat} (h : Cyc ls r) : ∃ q, Ring ls q ∧ q.Perm r ∧ ∀ g : Nat → Nat → Int, (∀ a b, Adj ls a b → g b a = - g a b) → rnd g q = rnd g r ∨ rnd g q = - rnd g r := by
  have hne : r ≠ [] := fun z => by have := h.len; rw [z] at this; simp at this
  obtain ⟨s, m, t, e, hm⟩ := least_at r hne
  have h1 : Cyc ls (m :: t ++ s) ∧ (∀ g : Nat → Nat → Int, rnd g (m :: t ++ s) = rnd g r) ∧ (m :: t ++ s).Perm r := by
    cases s with
    | nil =>
      rw [List.append_nil]
      rw [List.nil_append] at e
      rw [← e]
      exact ⟨h, fun _ => rfl, .refl _⟩
    | cons a s =>
      rw [e] at h ⊢
      exact ⟨h.rot (by simp) (by simp), fun g => (rnd_rot g (by simp) (by simp)).symm, List.perm_append_comm⟩
  obtain ⟨c1, g1, p1⟩ := h1
  obtain ⟨u, hu⟩ : ∃ u, u = t ++ s := ⟨_, rfl⟩
  rw [List.cons_append, ← hu] at c1 g1 p1
  clear hu
  have hmin : ∀ x ∈ m :: u, m ≤ x := fun x hx => hm x (p1.mem_iff.mp hx)
  have hul : 2 ≤ u.length := by have := c1.len; simp at this; omega
  obtain ⟨b, u', rfl⟩ : ∃ b u', u = b :: u' := by
    cases u with
    | nil => simp at hul
    | cons b u' => exact ⟨b, u', rfl⟩
  have hbl : b ≠ lst (m :: b :: u') := fun z => by
    rw [lst_cons] at z
    have hu' : u' ≠ [] := fun y => by rw [y] at hul; simp at hul
    obtain ⟨c, u2, rfl⟩ : ∃ c u2, u' = c :: u2 := by
      cases u' with
      | nil => exact absurd rfl hu'
      | cons c u2 => exact ⟨c, u2, rfl⟩
    rw [lst_cons] at z
    have := c1.nd
    rw [List.nodup_cons, List.nodup_cons] at this
    exact this.2.1 (by rw [z]; exact lst_mem (by simp))
  by_cases hb : b < lst (m :: b :: u')
  · refine ⟨m :: b :: u', ⟨c1, hmin, fun x hx => ?_⟩, p1, fun g _ => .inl (g1 g)⟩
    have : b = x := by simpa using hx
    rw [← this]
    exact hb
  · -- turned round, behind its first place
    have c2 := c1.rev
    have e2 : (m :: b :: u').reverse = (b :: u').reverse ++ [m] := by rw [List.reverse_cons]
    rw [e2] at c2
    have c3 := c2.rot (by simp) (by simp)
    have p3 : ([m] ++ (b :: u').reverse).Perm (m :: b :: u') := (List.reverse_perm (b :: u')).cons m
    refine ⟨[m] ++ (b :: u').reverse, ⟨c3, fun x hx => hmin x (p3.mem_iff.mp hx), fun x hx => ?_⟩, p3.trans p1, fun g hg => .inr ?_⟩
    · have e3 : lst ([m] ++ (b :: u').reverse) = b := by
        rw [lst_app (by simp), lst_rev]
        rfl
      rw [e3]
      have e4 : ([m] ++ (b :: u').reverse)[1]? = (b :: u').reverse.head? := by
        rw [List.singleton_append, List.getElem?_cons_succ, List.head?_eq_getElem?]
      rw [e4, List.head?_reverse] at hx
      have : lst (m :: b :: u') = x := by
        rw [lst_cons]
        unfold lst
        rw [hx]
        rfl
      omega
    · rw [rnd_rot g (by simp) (by simp), ← e2, rnd_rev hg c1, g1]
inductive RU (E : List (List Nat)) (u : Nat) : Nat → Prop
  | refl : RU E u u
  | step {x y : Nat} : RU E u x → Adj E x y → RU E u y
theorem RU.path {E : List (List Nat)} {u x : Nat} (h : RU E u x) : ∃ p : List Nat, p ≠ [] ∧ p.Nodup ∧ Chn E p ∧ hd p = x ∧ lst p = u := by
  induction h with
  | refl => exact ⟨[u], by simp, by simp, trivial, rfl, rfl⟩
  | @step x y _ hxy ih =>
    obtain ⟨p, h1, h2, h3, h4, h5⟩ := ih
    by_cases hy : y ∈ p
    · obtain ⟨s, t, rfl⟩ := List.append_of_mem hy
      refine ⟨y :: t, by simp, ?_, ?_, rfl, ?_⟩
      · exact (List.nodup_append.mp h2).2.1
      · cases s with
        | nil => exact h3
        | cons a s => exact ((chn_app (by simp) (by simp)).mp h3).2.2
      · rw [lst_app (by simp)] at h5
        exact h5
    · obtain ⟨a, t, rfl⟩ : ∃ a t, p = a :: t := by
        cases p with
        | nil => exact absurd rfl h1
        | cons a t => exact ⟨a, t, rfl⟩
      have h4 : a = x := h4
      subst h4
      exact ⟨y :: a :: t, by simp, List.nodup_cons.mpr ⟨hy, h2⟩, ⟨hxy.symm, h3⟩, rfl, by rw [lst_cons]; exact h5⟩
def Pot (E : List (List Nat)) (g : Nat → Nat → Int) (f : Nat → Int) : Prop := ∀ a b, [a, b] ∈ E → f a - f b = g a b
theorem Pot.adj {E : List (List Nat)} {g : Nat → Nat → Int} {f : Nat → Int} (h : Pot E g f) (hg : ∀ a b, Adj E a b → g b a = - g a b) {a b : Nat} (hab : Adj E a b) : f a - f b = g a b := by
  have hab' := hab
  unfold Adj pr2 at hab
  dsimp only at hab
  split at hab
  · have := h _ _ hab
    rw [hg _ _ hab'] at this
    omega
  · exact h _ _ hab
theorem Pot.pth {E : List (List Nat)} {g : Nat → Nat → Int} {f : Nat → Int} (h : Pot E g f) (hg : ∀ a b, Adj E a b → g b a = - g a b) : ∀ {p : List Nat}, p ≠ [] → Chn E p → Pdl.pth g p = f (hd p) - f (lst p)
  | [], z, _ => absurd rfl z
  | [a], _, _ => by show (0 : Int) = f a - f a; omega
  | a :: b :: t, _, c => by
    have ih := Pot.pth h hg (p := b :: t) (by simp) c.2
    show g a b + Pdl.pth g (b :: t) = f a - f (lst (a :: b :: t))
    rw [ih, lst_cons, hd_cons, ← h.adj hg c.1]
    omega
theorem adj_asc {E : List (List Nat)} (hE : ∀ l ∈ E, ∃ a b, l = [a, b] ∧ a < b) {a b : Nat} (h : [a, b] ∈ E) : Adj E a b := by
  obtain ⟨x, y, e, hxy⟩ := hE _ h
  cases e
  unfold Adj pr2
  dsimp only
  rw [if_neg (by omega)]
  exact h
/-- sums that are 0 round all rings come from numbers of places -/
theorem pot_ex {g : Nat → Nat → Int} : ∀ (E : List (List Nat)), (∀ l ∈ E, ∃ a b, l = [a, b] ∧ a < b) → E.Nodup → (∀ a b, Adj E a b → g b a = - g a b) → (∀ r, Cyc E r → rnd g r = 0) → ∃ f, Pot E g f
  | [], _, _, _, _ => ⟨fun _ => 0, fun a b h => by cases h⟩
  | e :: E, hE, hn, hg, hr => by
    have hsub : ∀ l ∈ E, l ∈ e :: E := fun l hl => List.mem_cons_of_mem _ hl
    obtain ⟨f, hf⟩ := pot_ex E (fun l hl => hE l (hsub l hl)) (List.nodup_cons.mp hn).2 (fun a b h => hg a b (hsub _ h)) fun r c => hr r ⟨c.len, c.nd, c.chn.mono hsub, hsub _ c.cl⟩
    obtain ⟨u, v, rfl, huv⟩ := hE e List.mem_cons_self
    have hguv : g v u = - g u v := hg u v (adj_asc hE List.mem_cons_self)
    have hE' : ∀ l ∈ E, ∃ a b, l = [a, b] ∧ a < b := fun l hl => hE l (hsub l hl)
    by_cases hc : RU E u v
    · -- the new tie closes a ring
      obtain ⟨p, h1, h2, h3, h4, h5⟩ := hc.path
      have hlen : 3 ≤ p.length := by
        match p, h1, h3, h4, h5 with
        | [a], _, _, h4, h5 =>
          have h4 : a = v := h4
          have h5 : a = u := h5
          omega
        | [a, b], _, h3, h4, h5 =>
          have h4 : a = v := h4
          have h5 : b = u := h5
          subst h4 h5
          have h3 : pr2 [a, b] ∈ E := h3.1
          unfold pr2 at h3
          dsimp only at h3
          rw [if_pos huv] at h3
          exact absurd h3 (List.nodup_cons.mp hn).1
        | a :: b :: c :: t, _, _, _, _ => simp
      have cy : Cyc ([u, v] :: E) p := ⟨hlen, h2, h3.mono hsub, by rw [h4, h5]; exact adj_asc hE List.mem_cons_self⟩
      have hz := hr p cy
      unfold rnd at hz
      rw [hf.pth (fun a b h => hg a b (hsub _ h)) h1 h3, h4, h5] at hz
      refine ⟨f, fun a b h => ?_⟩
      rcases List.mem_cons.mp h with z | z
      · cases z
        omega
      · exact hf a b z
    · refine ⟨fun x => open Classical in if RU E u x then f x + (g u v - (f u - f v)) else f x, fun a b h => ?_⟩
      dsimp only
      rcases List.mem_cons.mp h with z | z
      · cases z
        rw [if_pos .refl, if_neg hc]
        omega
      · have hab := adj_asc hE' z
        have hf' := hf a b z
        by_cases ha : RU E u a
        · rw [if_pos ha, if_pos (ha.step hab)]
          omega
        · rw [if_neg ha, if_neg (fun z => ha (z.step hab.symm))]
          exact hf'
end Pdl
namespace Pdl
open PySem PySem.Spec L2 PyProof.Rows
def nearL (ls : List (List Nat)) (p : Nat) : List Nat := (us ls.flatten).filter fun q => decide (Adj ls p q)
def extW (ls : List (List Nat)) (w : List Nat) : List (List Nat) := ((nearL ls (lst w)).filter fun p => decide ([hd w] < [p]) && !decide (p ∈ w)).map fun p => w ++ [p]
def lvW (ls : List (List Nat)) : Nat → List (List Nat)
  | 0 => ch (us ls.flatten)
  | t + 1 => (lvW ls t).flatMap (extW ls)
noncomputable def ringB (ls : List (List Nat)) (r : List Nat) : Bool := @decide (Ring ls r) (Classical.propDecidable _)
theorem ringB_iff {ls : List (List Nat)} {r : List Nat} : ringB ls r = true ↔ Ring ls r := by unfold ringB; exact @decide_eq_true_iff _ (Classical.propDecidable _)
noncomputable def fdW (ls : List (List Nat)) : Nat → List (List Nat)
  | 0 => []
  | t + 1 => fdW ls t ++ (lvW ls t).filter (ringB ls)
noncomputable def rgs (ls : List (List Nat)) : List (List Nat) := srt (fdW ls 8)
theorem Ties.adj_mem {ls : List (List Nat)} (h : Ties ls) {a b : Nat} (hab : Adj ls a b) : a ∈ ls.flatten ∧ b ∈ ls.flatten ∧ a ≠ b := by
  unfold Adj at hab
  obtain ⟨x, y, e, h1, h2, h3⟩ := h.pr _ hab
  unfold pr2 at e
  dsimp only at e
  have hm : ∀ c, c ∈ pr2 [a, b] → c ∈ ls.flatten := fun c hc => List.mem_flatten.mpr ⟨_, hab, hc⟩
  have ha : a ∈ pr2 [a, b] := by unfold pr2; dsimp only; split <;> simp
  have hb : b ∈ pr2 [a, b] := by unfold pr2; dsimp only; split <;> simp
  refine ⟨hm a ha, hm b hb, ?_⟩
  split at e <;> (cases e; omega)
structure IsW (ls : List (List Nat)) (t : Nat) (w : List Nat) : Prop where
  len : w.length = t + 1
  nd : w.Nodup
  sub : ∀ x ∈ w, x ∈ ls.flatten
  chn : Chn ls w
  low : ∀ x ∈ w.tail, hd w < x
theorem mem_nearL {ls : List (List Nat)} (h : Ties ls) {p q : Nat} : q ∈ nearL ls p ↔ Adj ls p q := by
  unfold nearL
  rw [List.mem_filter, mem_us, decide_eq_true_iff]
  exact ⟨fun z => z.2, fun z => ⟨(h.adj_mem z).2.1, z⟩⟩
theorem mem_extW {ls : List (List Nat)} (h : Ties ls) {w v : List Nat} : v ∈ extW ls w ↔ ∃ p, v = w ++ [p] ∧ Adj ls (lst w) p ∧ hd w < p ∧ p ∉ w := by
  unfold extW
  rw [List.mem_map]
  constructor
  · rintro ⟨p, hp, rfl⟩
    obtain ⟨h1, h2⟩ := List.mem_filter.mp hp
    rw [Bool.and_eq_true, decide_eq_true_iff, lt1] at h2
    exact ⟨p, rfl, (mem_nearL h).mp h1, h2.1, by simpa using h2.2⟩
  · rintro ⟨p, rfl, h1, h2, h3⟩
    refine ⟨p, List.mem_filter.mpr ⟨(mem_nearL h).mpr h1, ?_⟩, rfl⟩
    rw [Bool.and_eq_true, decide_eq_true_iff, lt1]
    exact ⟨h2, by simp [h3]⟩
theorem tail_app {a : List Nat} {p : Nat} (h : a ≠ []) : (a ++ [p]).tail = a.tail ++ [p] := by
  cases a with
  | nil => exact absurd rfl h
  | cons x t => rfl
theorem mem_lvW {ls : List (List Nat)} (h : Ties ls) : ∀ (t : Nat) (w : List Nat), w ∈ lvW ls t ↔ IsW ls t w
  | 0, w => by
    show w ∈ ch (us ls.flatten) ↔ _
    unfold ch
    rw [List.mem_map]
    constructor
    · rintro ⟨c, hc, rfl⟩
      exact ⟨rfl, by simp, fun x hx => by rw [List.mem_singleton.mp hx]; exact mem_us.mp hc, trivial, fun x hx => by cases hx⟩
    · intro hw
      obtain ⟨c, rfl⟩ := List.length_eq_one_iff.mp hw.len
      exact ⟨c, mem_us.mpr (hw.sub c (by simp)), rfl⟩
  | t + 1, w => by
    show w ∈ (lvW ls t).flatMap (extW ls) ↔ _
    rw [List.mem_flatMap]
    constructor
    · rintro ⟨v, hv, hw⟩
      obtain ⟨p, rfl, h1, h2, h3⟩ := (mem_extW h).mp hw
      have iv := (mem_lvW h t v).mp hv
      have hne : v ≠ [] := fun z => by have := iv.len; rw [z] at this; simp at this
      refine ⟨by simp [iv.len], ?_, ?_, ?_, ?_⟩
      · rw [List.nodup_append]
        exact ⟨iv.nd, by simp, fun a ha b hb e => h3 (by rw [← List.mem_singleton.mp hb, ← e]; exact ha)⟩
      · intro x hx
        rcases List.mem_append.mp hx with z | z
        · exact iv.sub x z
        · rw [List.mem_singleton.mp z]
          exact (h.adj_mem h1).2.1
      · exact (chn_app hne (by simp)).mpr ⟨iv.chn, h1, trivial⟩
      · rw [tail_app hne, hd_app hne]
        intro x hx
        rcases List.mem_append.mp hx with z | z
        · exact iv.low x z
        · rw [List.mem_singleton.mp z]
          exact h2
    · intro hw
      have hwl := hw.len
      obtain ⟨v, p, rfl⟩ : ∃ v p, w = v ++ [p] := by
        have hne : w ≠ [] := fun z => by rw [z] at hwl; simp at hwl
        exact ⟨w.dropLast, w.getLast hne, (List.dropLast_concat_getLast hne).symm⟩
      have hvl : v.length = t + 1 := by simpa using hwl
      have hne : v ≠ [] := fun z => by rw [z] at hvl; simp at hvl
      obtain ⟨c1, c2, c3⟩ := (chn_app hne (by simp)).mp hw.chn
      have hnd := List.nodup_append.mp hw.nd
      have hlow := hw.low
      rw [tail_app hne, hd_app hne] at hlow
      refine ⟨v, (mem_lvW h t v).mpr ⟨hvl, hnd.1, fun x hx => hw.sub x (List.mem_append_left _ hx), c1, fun x hx => hlow x (List.mem_append_left _ hx)⟩, (mem_extW h).mpr ⟨p, rfl, c2, hlow p (by simp), fun z => hnd.2.2 p z p (by simp) rfl⟩⟩
theorem IsW.few {ls : List (List Nat)} {t : Nat} {w : List Nat} (h : Ties ls) (hw : IsW ls t w) : t + 1 ≤ 7 := by
  have := nodup_len hw.nd (m := us ls.flatten) fun x hx => mem_us.mpr (hw.sub x hx)
  have h2 := h.few
  have h3 := hw.len
  omega
theorem mem_fdW {ls : List (List Nat)} {r : List Nat} : ∀ {n : Nat}, r ∈ fdW ls n ↔ ∃ t, t < n ∧ r ∈ lvW ls t ∧ Ring ls r
  | 0 => by simp [fdW]
  | n + 1 => by
    show r ∈ fdW ls n ++ (lvW ls n).filter (ringB ls) ↔ _
    rw [List.mem_append, mem_fdW, List.mem_filter, ringB_iff]
    constructor
    · rintro (⟨t, h1, h2, h3⟩ | ⟨h1, h2⟩)
      · exact ⟨t, by omega, h2, h3⟩
      · exact ⟨n, by omega, h1, h2⟩
    · rintro ⟨t, h1, h2, h3⟩
      by_cases e : t = n
      · subst e
        exact .inr ⟨h2, h3⟩
      · exact .inl ⟨t, by omega, h2, h3⟩
theorem Ring.isW {ls : List (List Nat)} {r : List Nat} (h : Ties ls) (hr : Ring ls r) : IsW ls (r.length - 1) r where
  len := by have := hr.len; omega
  nd := hr.nd
  sub := fun x hx => by
    -- each place of a ring has one beside it
    obtain ⟨s, t, e⟩ := List.append_of_mem hx
    have hc := hr.chn
    have hl := hr.len
    cases t with
    | nil =>
      cases s with
      | nil => rw [e] at hl; simp at hl
      | cons a s =>
        rw [e] at hc
        exact (h.adj_mem ((chn_app (by simp) (by simp)).mp hc).2.1).2.1
    | cons b t =>
      cases s with
      | nil =>
        rw [e] at hc
        exact (h.adj_mem hc.1).1
      | cons a s =>
        rw [e] at hc
        exact (h.adj_mem ((chn_app (by simp) (by simp)).mp hc).2.1).2.1
  chn := hr.chn
  low := fun x hx => by
    cases r with
    | nil => cases hx
    | cons a t =>
      have h1 := hr.least x (List.mem_cons_of_mem _ hx)
      have h2 := (List.nodup_cons.mp hr.nd).1
      have h3 : x ≠ a := fun e => h2 (by rw [← e]; exact hx)
      rw [hd_cons] at h1 ⊢
      omega
theorem mem_rgs {ls : List (List Nat)} (h : Ties ls) {r : List Nat} : r ∈ rgs ls ↔ Ring ls r := by
  unfold rgs
  rw [mem_srt, mem_fdW]
  constructor
  · rintro ⟨_, _, _, h3⟩
    exact h3
  · intro hr
    have hw := hr.isW h
    have := hw.few h
    exact ⟨r.length - 1, by omega, (mem_lvW h _ _).mpr hw, hr⟩
def xof (as : List (List Nat)) (a b : Nat) : Int := if [a, b] ∈ as then 1 else -1
def tal (as : List (List Nat)) (r : List Nat) : Int := rnd (xof as) r
theorem chn_iff {ls : List (List Nat)} : ∀ (p : List Nat), Chn ls p ↔ ∀ k, k + 1 < p.length → Adj ls (p.getD k 0) (p.getD (k + 1) 0)
  | [] => ⟨fun _ k h => by simp at h, fun _ => trivial⟩
  | [a] => ⟨fun _ k h => by simp at h, fun _ => trivial⟩
  | a :: b :: t => by
    have ih := chn_iff (ls := ls) (b :: t)
    show (Adj ls a b ∧ Chn ls (b :: t)) ↔ _
    rw [ih]
    constructor
    · rintro ⟨h1, h2⟩ k hk
      cases k with
      | zero => exact h1
      | succ k => exact h2 k (by simpa using hk)
    · intro h
      exact ⟨h 0 (by simp), fun k hk => h (k + 1) (by simpa using hk)⟩
end Pdl
namespace Pdl
open PySem L2 PyProof.Rows
theorem Ring.few {ls : List (List Nat)} {r : List Nat} (h : Ties ls) (hr : Ring ls r) : r.length ≤ 7 := by
  have h1 := (hr.isW h).few h
  have h2 := hr.len
  omega
theorem adj_arrow {as : List (List Nat)} (h2 : Two as) {a b : Nat} (h : Adj (as.map pr2) a b) : [a, b] ∈ as ∨ [b, a] ∈ as := by
  obtain ⟨l, hl, e⟩ := List.mem_map.mp h
  obtain ⟨x, y, rfl⟩ := h2 l hl
  rcases pr2_inv e with ⟨rfl, rfl⟩ | ⟨rfl, rfl⟩
  · exact .inl hl
  · exact .inr hl
theorem pth_hi {as : List (List Nat)} {ρ : Nat → Nat} (hρ : ∀ a b, [a, b] ∈ as → ρ a < ρ b) : ∀ (p : List Nat), p ≠ [] → pth (xof as) p + 1 ≤ p.length ∧ (pth (xof as) p + 1 = p.length → ρ (hd p) ≤ ρ (lst p))
  | [], z => absurd rfl z
  | [a], _ => ⟨by show (0 : Int) + 1 ≤ 1; omega, fun _ => Nat.le_refl _⟩
  | a :: b :: t, _ => by
    obtain ⟨h1, h2⟩ := pth_hi hρ (b :: t) (by simp)
    have e : pth (xof as) (a :: b :: t) = xof as a b + pth (xof as) (b :: t) := rfl
    have hx : xof as a b ≤ 1 := by unfold xof; split <;> omega
    have hl : ((a :: b :: t).length : Int) = (b :: t).length + 1 := by simp
    refine ⟨by rw [e, hl]; omega, fun z => ?_⟩
    rw [e, hl] at z
    have hx1 : xof as a b = 1 := by omega
    have hab : [a, b] ∈ as := by
      unfold xof at hx1
      split at hx1
      · assumption
      · omega
    have h3 := h2 (by omega)
    have h4 := hρ a b hab
    rw [lst_cons, hd_cons]
    rw [hd_cons] at h3
    omega
theorem pth_lo {as : List (List Nat)} (h2 : Two as) {ρ : Nat → Nat} (hρ : ∀ a b, [a, b] ∈ as → ρ a < ρ b) : ∀ (p : List Nat), p ≠ [] → Chn (as.map pr2) p → -(p.length : Int) + 1 ≤ pth (xof as) p ∧ (pth (xof as) p = -(p.length : Int) + 1 → ρ (lst p) ≤ ρ (hd p))
  | [], z, _ => absurd rfl z
  | [a], _, _ => ⟨by show -(1 : Int) + 1 ≤ 0; omega, fun _ => Nat.le_refl _⟩
  | a :: b :: t, _, c => by
    obtain ⟨h1, h3⟩ := pth_lo h2 hρ (b :: t) (by simp) c.2
    have e : pth (xof as) (a :: b :: t) = xof as a b + pth (xof as) (b :: t) := rfl
    have hx : -1 ≤ xof as a b := by unfold xof; split <;> omega
    have hl : ((a :: b :: t).length : Int) = (b :: t).length + 1 := by simp
    refine ⟨by rw [e, hl]; omega, fun z => ?_⟩
    rw [e, hl] at z
    have hx1 : xof as a b = -1 := by omega
    have hab : [a, b] ∉ as := by
      unfold xof at hx1
      split at hx1
      · omega
      · assumption
    have h4 := (adj_arrow h2 c.1).resolve_left hab
    have h5 := hρ b a h4
    have h6 := h3 (by omega)
    rw [lst_cons, hd_cons]
    rw [hd_cons] at h6
    omega
theorem tal_lt {as : List (List Nat)} {r : List Nat} (h2 : Two as) (hr : Ranked as) (hc : Cyc (as.map pr2) r) : -(r.length : Int) < tal as r ∧ tal as r < r.length := by
  obtain ⟨ρ, hρ⟩ := hr
  have hne : r ≠ [] := fun z => by have := hc.len; rw [z] at this; simp at this
  obtain ⟨h1, h3⟩ := pth_hi hρ r hne
  obtain ⟨h4, h5⟩ := pth_lo h2 hρ r hne hc.chn
  unfold tal rnd
  by_cases hx : [lst r, hd r] ∈ as
  · have e : xof as (lst r) (hd r) = 1 := if_pos hx
    have h6 := hρ _ _ hx
    refine ⟨by omega, ?_⟩
    have : pth (xof as) r + 1 ≠ r.length := fun z => by have := h3 z; omega
    omega
  · have e : xof as (lst r) (hd r) = -1 := if_neg hx
    have h6 := hρ _ _ ((adj_arrow h2 hc.cl).resolve_left hx)
    refine ⟨?_, by omega⟩
    have : pth (xof as) r ≠ -(r.length : Int) + 1 := fun z => by have := h5 z; omega
    omega
theorem asc_pairs {ls : List (List Nat)} (h : Ties ls) : ∀ l ∈ ls, ∃ a b, l = [a, b] ∧ a < b := fun l hl => by
  obtain ⟨a, b, e, _, h2, _⟩ := h.pr l hl
  exact ⟨a, b, e, h2⟩
theorem ties_nodup {ls : List (List Nat)} (h : Ties ls) : ls.Nodup := h.asc.imp fun {x y} h e => by rw [e] at h; exact List.lt_irrefl y h
end Pdl
namespace Pdl
open PySem L2 PyProof.Rows
def kT (R : List (List Nat)) (as : List (List Nat)) : List Key := R.map fun r => Sum.inl (tal as r)
structure GrI (R : List (List Nat)) (L K : List (List (List Nat))) : Prop where
  nd : (K.map (kT R)).Nodup
  mem : ∀ x, x ∈ K.map (kT R) ↔ ∃ b ∈ L, kT R b = x
  sub : ∀ k ∈ K, k ∈ L
theorem GrI.len {R : List (List Nat)} {L K : List (List (List Nat))} (h : GrI R L K) : K.length ≤ L.length := by
  have hn : K.Nodup := List.Pairwise.of_map (kT R) (fun _ _ hne e => hne (congrArg _ e)) h.nd
  exact nodup_len hn h.sub
/-- a web without rings has one class -/
theorem GrI.one {ls : List (List Nat)} {K : List (List (List Nat))} (ht : Ties ls) (h : GrI (rgs ls) (flows ls) K) (hr : rgs ls = []) : K.length = 1 := by
  have hk : ∀ x y : List (List Nat), kT (rgs ls) x = kT (rgs ls) y := fun x y => by rw [hr]; rfl
  match K, h with
  | [], h =>
    obtain ⟨a, ha⟩ := List.exists_mem_of_ne_nil _ (flows_ne ht)
    have := (h.mem (kT (rgs ls) a)).mpr ⟨a, ha, rfl⟩
    cases this
  | [k], _ => rfl
  | k :: k2 :: K, h =>
    have := h.nd
    rw [List.map_cons, List.map_cons, List.nodup_cons] at this
    exact absurd (List.mem_cons.mpr (.inl (hk k k2))) this.1
end Pdl
namespace Pdl
open PySem L2 PyProof.Rows
def DCh (L : List (List Nat)) : List Nat → Prop
  | a :: b :: t => [a, b] ∈ L ∧ DCh L (b :: t)
  | _ => True
theorem DCh.mono {L M : List (List Nat)} (h : ∀ l ∈ L, l ∈ M) : ∀ {p : List Nat}, DCh L p → DCh M p
  | [], _ => trivial
  | [_], _ => trivial
  | _ :: b :: t, c => ⟨h _ c.1, DCh.mono h (p := b :: t) c.2⟩
theorem DCh.sub {L : List (List Nat)} : ∀ {p : List Nat}, 2 ≤ p.length → DCh L p → ∀ x ∈ p, x ∈ L.flatten
  | [a, b], _, c, x, hx => List.mem_flatten.mpr ⟨_, c.1, hx⟩
  | a :: b :: d :: t, _, c, x, hx => by
    rcases List.mem_cons.mp hx with z | z
    · rw [z]; exact List.mem_flatten.mpr ⟨_, c.1, by simp⟩
    · exact DCh.sub (p := b :: d :: t) (by simp) c.2 x z
theorem Row.split : ∀ {r1 r2 : List Nat} {as b : List (List Nat)}, Row as (r1 ++ r2) b → ∃ c, Row as r1 c ∧ Row c r2 b
  | [], _, as, _, h => ⟨as, .nil, h⟩
  | p :: r1, r2, as, b, h => by
    cases h with
    | cons hp hg h =>
      obtain ⟨c, h1, h2⟩ := Row.split (r1 := r1) h
      exact ⟨c, .cons hp hg h1, h2⟩
end Pdl
namespace Pdl
open PySem L2 PyProof.Rows
/-- places that stand for their lot: the least ones -/
def IsRep (E : List (List Nat)) (V : List Nat) (v : Nat) : Prop := ∀ w ∈ V, RU E v w → v ≤ w
theorem RU.trans {E : List (List Nat)} {a b c : Nat} (h1 : RU E a b) (h2 : RU E b c) : RU E a c := by
  induction h2 with
  | refl => exact h1
  | step _ hxy ih => exact ih.step hxy
theorem RU.symm {E : List (List Nat)} {a b : Nat} (h : RU E a b) : RU E b a := by
  induction h with
  | refl => exact .refl
  | step _ hxy ih => exact (RU.refl.step hxy.symm).trans ih
theorem RU.mono {E F : List (List Nat)} (h : ∀ l ∈ E, l ∈ F) {a b : Nat} (r : RU E a b) : RU F a b := by
  induction r with
  | refl => exact .refl
  | step _ hxy ih => exact ih.step (h _ hxy)
noncomputable def repB (E : List (List Nat)) (V : List Nat) (v : Nat) : Bool := @decide (IsRep E V v) (Classical.propDecidable _)
theorem repB_iff {E : List (List Nat)} {V : List Nat} {v : Nat} : repB E V v = true ↔ IsRep E V v := by unfold repB; exact @decide_eq_true_iff _ (Classical.propDecidable _)
noncomputable def repsL (E : List (List Nat)) (V : List Nat) : List Nat := V.filter (repB E V)
theorem mem_reps {E : List (List Nat)} {V : List Nat} {v : Nat} : v ∈ repsL E V ↔ v ∈ V ∧ IsRep E V v := by
  unfold repsL
  rw [List.mem_filter, repB_iff]
theorem rep_ex {E : List (List Nat)} {V : List Nat} {a : Nat} (ha : a ∈ V) : ∃ r ∈ V, IsRep E V r ∧ RU E r a := by
  classical
  have hne : V.filter (fun w => decide (RU E a w)) ≠ [] := fun z => by
    have := List.mem_filter (p := fun w => decide (RU E a w)) |>.mpr ⟨ha, decide_eq_true (RU.refl (E := E) (u := a))⟩
    rw [z] at this
    cases this
  obtain ⟨s, m, t, e, hm⟩ := least_at _ hne
  have hmm : m ∈ V.filter fun w => decide (RU E a w) := by rw [e]; simp
  obtain ⟨h1, h2⟩ := List.mem_filter.mp hmm
  have h2 := of_decide_eq_true h2
  refine ⟨m, h1, fun w hw hr => hm w (List.mem_filter.mpr ⟨hw, decide_eq_true (h2.trans hr)⟩), h2.symm⟩
/-- a tie more: who is joined -/
theorem ru_cons {E : List (List Nat)} {u v a b : Nat} (huv : u < v) (h : RU ([u, v] :: E) a b) : RU E a b ∨ (RU E a u ∧ RU E v b) ∨ (RU E a v ∧ RU E u b) := by
  induction h with
  | refl => exact .inl .refl
  | @step x y _ hxy ih =>
    have hadj : Adj E x y ∨ (x = u ∧ y = v) ∨ (x = v ∧ y = u) := by
      unfold Adj at hxy
      rcases List.mem_cons.mp hxy with z | z
      · unfold pr2 at z
        dsimp only at z
        split at z
        · cases z; exact .inr (.inr ⟨rfl, rfl⟩)
        · cases z; exact .inr (.inl ⟨rfl, rfl⟩)
      · exact .inl z
    rcases hadj with z | ⟨rfl, rfl⟩ | ⟨rfl, rfl⟩
    · rcases ih with i | ⟨i, j⟩ | ⟨i, j⟩
      · exact .inl (i.step z)
      · exact .inr (.inl ⟨i, j.step z⟩)
      · exact .inr (.inr ⟨i, j.step z⟩)
    · rcases ih with i | ⟨i, j⟩ | ⟨i, j⟩
      · exact .inr (.inl ⟨i, .refl⟩)
      · exact .inr (.inl ⟨i, .refl⟩)
      · exact .inl i
    · rcases ih with i | ⟨i, j⟩ | ⟨i, j⟩
      · exact .inr (.inr ⟨i, .refl⟩)
      · exact .inl i
      · exact .inr (.inr ⟨i, .refl⟩)
theorem rep_same {E : List (List Nat)} {V : List Nat} {a b : Nat} (ha : a ∈ V) (hb : b ∈ V) (h1 : IsRep E V a) (h2 : IsRep E V b) (h : RU E a b) : a = b := Nat.le_antisymm (h1 b hb h) (h2 a ha h.symm)
/-- a tie that joins makes one lot fewer, another one none -/
theorem reps_cons {E : List (List Nat)} {V : List Nat} {u v : Nat} (hV : V.Nodup) (huv : u < v) (hu : u ∈ V) (hv : v ∈ V) : (RU E u v → (repsL ([u, v] :: E) V).length = (repsL E V).length) ∧ (¬ RU E u v → (repsL ([u, v] :: E) V).length + 1 = (repsL E V).length) := by
  have hsub : ∀ l ∈ E, l ∈ [u, v] :: E := fun l hl => List.mem_cons_of_mem _ hl
  have hadj : Adj ([u, v] :: E) u v := by
    unfold Adj pr2
    dsimp only
    rw [if_neg (by omega)]
    exact List.mem_cons_self
  have hn1 : (repsL ([u, v] :: E) V).Nodup := hV.filter _
  have hn2 : (repsL E V).Nodup := hV.filter _
  constructor
  · intro huv'
    have hsame : ∀ a b, RU ([u, v] :: E) a b ↔ RU E a b := fun a b => ⟨fun h => by
      rcases ru_cons huv h with z | ⟨z1, z2⟩ | ⟨z1, z2⟩
      · exact z
      · exact z1.trans (huv'.trans z2)
      · exact z1.trans (huv'.symm.trans z2), fun h => h.mono hsub⟩
    refine ((List.perm_ext_iff_of_nodup hn1 hn2).mpr fun x => ?_).length_eq
    rw [mem_reps, mem_reps]
    unfold IsRep
    constructor
    · rintro ⟨h1, h2⟩
      exact ⟨h1, fun w hw hr => h2 w hw ((hsame x w).mpr hr)⟩
    · rintro ⟨h1, h2⟩
      exact ⟨h1, fun w hw hr => h2 w hw ((hsame x w).mp hr)⟩
  · intro hno
    obtain ⟨ru, hru, hrr, hra⟩ := rep_ex (E := E) hu
    obtain ⟨rv, hrv, hvr, hva⟩ := rep_ex (E := E) hv
    have hne : ru ≠ rv := fun e => hno (hra.symm.trans (by rw [e]; exact hva))
    -- the greater one of both stands for itself no more
    obtain ⟨lo, hi, hlo, hhi, hlh, hloV, hhiV, hloR, hhiR, hj⟩ : ∃ lo hi, (lo = ru ∨ lo = rv) ∧ (hi = ru ∨ hi = rv) ∧ lo < hi ∧ lo ∈ V ∧ hi ∈ V ∧ IsRep E V lo ∧ IsRep E V hi ∧ RU ([u, v] :: E) hi lo := by
      have hj : RU ([u, v] :: E) ru rv := ((hra.mono hsub).step hadj).trans (hva.symm.mono hsub)
      rcases Nat.lt_or_gt_of_ne hne with z | z
      · exact ⟨ru, rv, .inl rfl, .inr rfl, z, hru, hrv, hrr, hvr, hj.symm⟩
      · exact ⟨rv, ru, .inr rfl, .inl rfl, z, hrv, hru, hvr, hrr, hj⟩
    have key : ∀ x, x ∈ repsL E V ↔ x ∈ hi :: repsL ([u, v] :: E) V := fun x => by
      rw [List.mem_cons, mem_reps, mem_reps]
      constructor
      · rintro ⟨h1, h2⟩
        by_cases hx : x = hi
        · exact .inl hx
        · refine .inr ⟨h1, fun w hw hr => ?_⟩
          -- whoever is joined to x now was so, or x is the lower one
          have hxw : RU E x w ∨ x = lo := by
            rcases ru_cons huv hr with z | ⟨z1, z2⟩ | ⟨z1, z2⟩
            · exact .inl z
            · have : x = ru := rep_same h1 hru h2 hrr (z1.trans hra.symm)
              rcases hlo with e | e
              · exact .inr (this.trans e.symm)
              · rcases hhi with e' | e'
                · exact absurd (this.trans e'.symm) hx
                · rw [e, e'] at hlh; omega
            · have : x = rv := rep_same h1 hrv h2 hvr (z1.trans hva.symm)
              rcases hlo with e | e
              · rcases hhi with e' | e'
                · rw [e, e'] at hlh; omega
                · exact absurd (this.trans e'.symm) hx
              · exact .inr (this.trans e.symm)
          rcases hxw with z | rfl
          · exact h2 w hw z
          · -- w is joined to the lower one or to the higher one
            rcases ru_cons huv hr with z | ⟨z1, z2⟩ | ⟨z1, z2⟩
            · exact h2 w hw z
            · have h3 : rv ≤ w := hvr w hw (hva.trans z2)
              rcases hhi with e' | e'
              · rcases hlo with e | e
                · rw [e, e'] at hlh; omega
                · omega
              · omega
            · have h3 : ru ≤ w := hrr w hw (hra.trans z2)
              rcases hhi with e' | e'
              · omega
              · rcases hlo with e | e
                · omega
                · rw [e, e'] at hlh; omega
      · rintro (rfl | ⟨h1, h2⟩)
        · exact ⟨hhiV, hhiR⟩
        · exact ⟨h1, fun w hw hr => h2 w hw (hr.mono hsub)⟩
    have hhn : hi ∉ repsL ([u, v] :: E) V := fun z => by
      have := (mem_reps.mp z).2 lo hloV hj
      omega
    have := ((List.perm_ext_iff_of_nodup hn2 (List.nodup_cons.mpr ⟨hhn, hn1⟩)).mpr key).length_eq
    rw [List.length_cons] at this
    omega
/-- ties, lots and rings -/
theorem reps_count {V : List Nat} (hV : V.Nodup) : ∀ (E : List (List Nat)), (∀ l ∈ E, ∃ a b, l = [a, b] ∧ a < b ∧ a ∈ V ∧ b ∈ V) → E.Nodup → V.length ≤ E.length + (repsL E V).length ∧ ((∀ r, ¬ Cyc E r) ↔ E.length + (repsL E V).length = V.length)
  | [], _, _ => by
    have : repsL [] V = V := by
      unfold repsL
      refine List.filter_eq_self.mpr fun v hv => repB_iff.mpr fun w hw hr => ?_
      cases hr with
      | refl => exact Nat.le_refl _
      | step _ h => cases h
    rw [this]
    refine ⟨by simp, fun _ => by simp, fun _ r hc => ?_⟩
    have := hc.cl
    cases this
  | e :: E, hE, hn => by
    obtain ⟨ih1, ih2⟩ := reps_count hV E (fun l hl => hE l (List.mem_cons_of_mem _ hl)) (List.nodup_cons.mp hn).2
    obtain ⟨u, v, rfl, huv, hu, hv⟩ := hE e List.mem_cons_self
    have hsub : ∀ l ∈ E, l ∈ [u, v] :: E := fun l hl => List.mem_cons_of_mem _ hl
    have hasc : ∀ l ∈ [u, v] :: E, ∃ a b, l = [a, b] ∧ a < b := fun l hl => let ⟨a, b, e, h, _⟩ := hE l hl; ⟨a, b, e, h⟩
    obtain ⟨k1, k2⟩ := reps_cons (E := E) hV huv hu hv
    by_cases hc : RU E u v
    · have hk := k1 hc
      rw [hk, List.length_cons]
      refine ⟨by omega, fun z => ?_, fun z => by omega⟩
      exfalso
      obtain ⟨p, h1, h2, h3, h4, h5⟩ := hc.path
      refine z p ⟨?_, h2, h3.mono hsub, by rw [h4, h5]; exact adj_asc hasc List.mem_cons_self⟩
      match p, h1, h3, h4, h5 with
      | [a], _, _, h4, h5 =>
        have h4 : a = v := h4
        have h5 : a = u := h5
        omega
      | [a, b], _, h3, h4, h5 =>
        have h4 : a = v := h4
        have h5 : b = u := h5
        subst h4 h5
        have h3 : pr2 [a, b] ∈ E := h3.1
        unfold pr2 at h3
        dsimp only at h3
        rw [if_pos huv] at h3
        exact absurd h3 (List.nodup_cons.mp hn).1
      | a :: b :: c :: t, _, _, _, _ => simp
    · have hk := k2 hc
      rw [List.length_cons]
      refine ⟨by omega, ?_⟩
      rw [show E.length + 1 + (repsL ([u, v] :: E) V).length = V.length ↔ E.length + (repsL E V).length = V.length by omega, ← ih2]
      constructor
      · intro z r hr
        exact z r ⟨hr.len, hr.nd, hr.chn.mono hsub, hsub _ hr.cl⟩
      · intro z r hr
        -- a ring over the new tie would join its ends without it: by the sum of what it goes over it
        have hpot : ∃ f, Pot E (fun a b => if (a = u ∧ b = v) ∨ (a = v ∧ b = u) then 0 else 0) f := ⟨fun _ => 0, fun a b _ => by simp⟩
        classical
        let f : Nat → Int := fun x => if RU E u x then 1 else 0
        have hf : Pot E (fun _ _ => 0) f := fun a b hab => by
          have hadj := adj_asc (fun l hl => hasc l (hsub l hl)) hab
          show (if RU E u a then (1 : Int) else 0) - (if RU E u b then 1 else 0) = 0
          by_cases ha : RU E u a
          · rw [if_pos ha, if_pos (ha.step hadj)]; omega
          · rw [if_neg ha, if_neg (fun y => ha (y.step hadj.symm))]; omega
        -- no ring leaves the lot of u and comes back but over the new tie twice
        have hno : ∀ a b, Adj ([u, v] :: E) a b → (Adj E a b ∨ (a = u ∧ b = v) ∨ (a = v ∧ b = u)) := fun a b hab => by
          unfold Adj at hab
          rcases List.mem_cons.mp hab with y | y
          · unfold pr2 at y
            dsimp only at y
            split at y
            · cases y; exact .inr (.inr ⟨rfl, rfl⟩)
            · cases y; exact .inr (.inl ⟨rfl, rfl⟩)
          · exact .inl y
        obtain ⟨r', hr', hedge⟩ : ∃ r', Cyc ([u, v] :: E) r' ∧ ¬ Adj E (lst r') (hd r') := by
          -- some step of the ring is the new tie: turn the ring so that it closes there
          refine Classical.byContradiction fun hall => ?_
          have hcl : ∀ r', Cyc ([u, v] :: E) r' → Adj E (lst r') (hd r') := fun r' h' => Classical.byContradiction fun y => hall ⟨r', h', y⟩
          have hchn : ∀ s t : List Nat, r = s ++ t → s ≠ [] → t ≠ [] → Adj E (lst s) (hd t) := fun s t e hs htt => by
            have := hcl _ ((show Cyc ([u, v] :: E) (s ++ t) from e ▸ hr).rot hs htt)
            rw [lst_app hs, hd_app htt] at this
            exact this
          refine z r ⟨hr.len, hr.nd, (chn_iff r).mpr fun k hk => ?_, hcl r hr⟩
          have e : r = r.take (k + 1) ++ r.drop (k + 1) := (List.take_append_drop ..).symm
          have h1 : r.take (k + 1) ≠ [] := fun y => by
            have := congrArg List.length y
            rw [List.length_take, List.length_nil] at this
            omega
          have h2 : r.drop (k + 1) ≠ [] := fun y => by
            have := congrArg List.length y
            rw [List.length_drop, List.length_nil] at this
            omega
          have h3 := hchn _ _ e h1 h2
          have e1 : lst (r.take (k + 1)) = r.getD k 0 := by
            unfold lst
            rw [List.getLast?_eq_getElem?, List.length_take, List.getElem?_take, List.getD_eq_getElem?_getD]
            rw [if_pos (by omega), show min (k + 1) r.length - 1 = k by omega]
          have e2 : hd (r.drop (k + 1)) = r.getD (k + 1) 0 := by
            unfold hd
            rw [List.head?_drop, List.getD_eq_getElem?_getD]
          rw [e1, e2] at h3
          exact h3
        -- the rest of it is a walk without the new tie
        have hends := (hno _ _ hr'.cl).resolve_left hedge
        have hwalk : Chn E r' := (chn_iff r').mpr fun k hk => by
          refine (hno _ _ ((chn_iff r').mp hr'.chn k hk)).resolve_right fun y => ?_
          -- the same two places stand at the ends
          have hl := hr'.len
          have i1 : r'[0]? = some (hd r') := by
            unfold hd
            rw [← List.head?_eq_getElem?]
            cases r' with
            | nil => simp at hl
            | cons a t => rfl
          have i2 : r'[r'.length - 1]? = some (lst r') := by
            unfold lst
            rw [List.getLast?_eq_getElem?, List.getElem?_eq_getElem (by omega)]
            rfl
          have j1 : r'[k]? = some (r'.getD k 0) := by rw [List.getD_eq_getElem?_getD, List.getElem?_eq_getElem (by omega)]; rfl
          have j2 : r'[k + 1]? = some (r'.getD (k + 1) 0) := by rw [List.getD_eq_getElem?_getD, List.getElem?_eq_getElem hk]; rfl
          have inj : ∀ i j : Nat, i < r'.length → r'[i]? = r'[j]? → i = j := fun i j hi e => (List.getElem?_inj hi hr'.nd).mp e
          rcases hends with ⟨a1, a2⟩ | ⟨a1, a2⟩ <;> rcases y with ⟨b1, b2⟩ | ⟨b1, b2⟩
          · have q1 := inj k (r'.length - 1) (by omega) (by rw [j1, i2, b1, a1])
            omega
          · have q1 := inj k 0 (by omega) (by rw [j1, i1, b1, a2])
            have q2 := inj (k + 1) (r'.length - 1) hk (by rw [j2, i2, b2, a1])
            omega
          · have q1 := inj k 0 (by omega) (by rw [j1, i1, b1, a2])
            have q2 := inj (k + 1) (r'.length - 1) hk (by rw [j2, i2, b2, a1])
            omega
          · have q1 := inj k (r'.length - 1) (by omega) (by rw [j1, i2, b1, a1])
            omega
        have hne : r' ≠ [] := fun y => by have := hr'.len; rw [y] at this; simp at this
        have hp := hf.pth (fun _ _ _ => by omega) hne hwalk
        have h0 : ∀ p : List Nat, pth (fun _ _ => 0) p = 0 := fun p => by
          induction p with
          | nil => rfl
          | cons a t ih =>
            cases t with
            | nil => rfl
            | cons b t =>
              show 0 + pth (fun _ _ => 0) (b :: t) = 0
              rw [ih]
              rfl
        rw [h0] at hp
        have hu1 : f u = 1 := if_pos .refl
        have hv1 : f v = 0 := if_neg hc
        rcases hends with ⟨a1, a2⟩ | ⟨a1, a2⟩
        · rw [a1, a2, hu1, hv1] at hp; omega
        · rw [a1, a2, hu1, hv1] at hp; omega
theorem Ties.one {ls : List (List Nat)} (h : Ties ls) : (repsL ls (us ls.flatten)).length = 1 := by
  -- all places hang together
  have hall : ∀ a ∈ ls.flatten, ∀ b ∈ ls.flatten, RU ls a b := by
    obtain ⟨l0, L, e⟩ : ∃ l0 L, ls = l0 :: L := by
      cases ls with
      | nil => exact absurd rfl h.ne
      | cons l0 L => exact ⟨l0, L, rfl⟩
    have hh : ls.head? = some l0 := by rw [e]; rfl
    obtain ⟨u, v, e0, _, huv, _⟩ := h.pr l0 (by rw [e]; simp)
    have hreach : ∀ x ∈ ls.flatten, RU ls u x := by
      refine h.conn (fun x => RU ls u x) (fun l1 hl1 x hx => ?_) (fun a b hab => ?_)
      · rw [hh] at hl1
        cases hl1
        rw [e0] at hx
        have hadj : Adj ls u v := adj_asc (asc_pairs h) (by rw [e, e0]; simp)
        rcases List.mem_cons.mp hx with z | z
        · rw [z]; exact .refl
        · rw [List.mem_singleton.mp z]; exact RU.refl.step hadj
      · have hadj := adj_asc (asc_pairs h) hab
        rintro (z | z)
        · exact ⟨z, z.step hadj⟩
        · exact ⟨z.step hadj.symm, z⟩
    exact fun a ha b hb => (hreach a ha).symm.trans (hreach b hb)
  obtain ⟨p, r, e⟩ := us_ne h
  have hpm : p ∈ us ls.flatten := by rw [e]; simp
  obtain ⟨m, hm, hr, _⟩ := rep_ex (E := ls) hpm
  have hkey : ∀ x, x ∈ repsL ls (us ls.flatten) ↔ x ∈ [m] := fun x => by
    rw [mem_reps, List.mem_singleton]
    constructor
    · rintro ⟨h1, h2⟩
      exact rep_same h1 hm h2 hr (hall x (mem_us.mp h1) m (mem_us.mp hm))
    · rintro rfl
      exact ⟨hm, hr⟩
  exact ((List.perm_ext_iff_of_nodup ((us_nodup _).filter _) (by simp)).mpr hkey).length_eq
/-- a web has no rings just if it has one place more than ties -/
theorem tree_iff {ls : List (List Nat)} (h : Ties ls) : rgs ls = [] ↔ ls.length + 1 = (us ls.flatten).length := by
  have hE : ∀ l ∈ ls, ∃ a b, l = [a, b] ∧ a < b ∧ a ∈ us ls.flatten ∧ b ∈ us ls.flatten := fun l hl => by
    obtain ⟨a, b, e, _, h2, _⟩ := h.pr l hl
    exact ⟨a, b, e, h2, mem_us.mpr (List.mem_flatten.mpr ⟨l, hl, by rw [e]; simp⟩), mem_us.mpr (List.mem_flatten.mpr ⟨l, hl, by rw [e]; simp⟩)⟩
  obtain ⟨_, h2⟩ := reps_count (us_nodup ls.flatten) ls hE (ties_nodup h)
  rw [h.one] at h2
  rw [← h2]
  constructor
  · intro z r hr
    obtain ⟨q, hq, _⟩ := hr.form
    have := (mem_rgs h).mpr hq
    rw [z] at this
    cases this
  · intro z
    refine List.eq_nil_iff_forall_not_mem.mpr fun r hr => ?_
    exact z r ((mem_rgs h).mp hr).toCyc
end Pdl
namespace Pdl
open PySem L2 PyProof.Rows
/-- the pairs that stand side by side, the last and the first one ahead -/
def zp (r : List Nat) : List (Nat × Nat) := r.zip r.tail
def cp (r : List Nat) : List (Nat × Nat) := (lst r, hd r) :: zp r
def p2 (p : Nat × Nat) : List Nat := pr2 [p.1, p.2]
theorem zp_cons {a b : Nat} {t : List Nat} : zp (a :: b :: t) = (a, b) :: zp (b :: t) := rfl
theorem zp_mem : ∀ {r : List Nat} {p : Nat × Nat}, p ∈ zp r → p.1 ∈ r ∧ p.2 ∈ r
  | [], p, h => by cases h
  | [a], p, h => by cases h
  | a :: b :: t, p, h => by
    rw [zp_cons] at h
    rcases List.mem_cons.mp h with rfl | h
    · simp
    · have := zp_mem h
      exact ⟨List.mem_cons_of_mem _ this.1, List.mem_cons_of_mem _ this.2⟩
theorem zp_pot (g : Nat → Nat → Int) : ∀ r : List Nat, r.Nodup → ∃ f : Nat → Int, ∀ p ∈ zp r, f p.1 - f p.2 = g p.1 p.2
  | [], _ => ⟨fun _ => 0, fun p h => by cases h⟩
  | [a], _ => ⟨fun _ => 0, fun p h => by cases h⟩
  | a :: b :: t, h => by
    obtain ⟨h1, h2⟩ := List.nodup_cons.mp h
    obtain ⟨f, hf⟩ := zp_pot g (b :: t) h2
    refine ⟨fun x => if x = a then f b + g a b else f x, fun p hp => ?_⟩
    rw [zp_cons] at hp
    have hb : b ≠ a := fun z => h1 (by rw [z]; simp)
    rcases List.mem_cons.mp hp with rfl | hp
    · dsimp only
      rw [if_pos rfl, if_neg hb]
      omega
    · have hm := zp_mem hp
      dsimp only
      rw [if_neg (fun z => h1 (by rw [← z]; exact hm.1)), if_neg (fun z => h1 (by rw [← z]; exact hm.2))]
      exact hf p hp
theorem zp_tele {g : Nat → Nat → Int} {f : Nat → Int} : ∀ {r : List Nat}, r ≠ [] → (∀ p ∈ zp r, f p.1 - f p.2 = g p.1 p.2) → pth g r = f (hd r) - f (lst r)
  | [], z, _ => absurd rfl z
  | [a], _, _ => by show (0 : Int) = f a - f a; omega
  | a :: b :: t, _, h => by
    have ih := zp_tele (r := b :: t) (by simp) fun p hp => h p (by rw [zp_cons]; exact List.mem_cons_of_mem _ hp)
    have h1 := h (a, b) (by rw [zp_cons]; simp)
    show g a b + pth g (b :: t) = f a - f (lst (a :: b :: t))
    rw [ih, lst_cons, hd_cons]
    dsimp only at h1
    omega
theorem pth_sum (g : Nat → Nat → Int) : ∀ r : List Nat, pth g r = ((zp r).map fun p => g p.1 p.2).sum
  | [] => rfl
  | [_] => rfl
  | a :: b :: t => by
    rw [zp_cons, List.map_cons, List.sum_cons, ← pth_sum g (b :: t)]
    rfl
theorem rnd_sum (g : Nat → Nat → Int) (r : List Nat) : rnd g r = ((cp r).map fun p => g p.1 p.2).sum := by
  unfold rnd cp
  rw [pth_sum, List.map_cons, List.sum_cons]
theorem chn_zp {ls : List (List Nat)} : ∀ {r : List Nat}, (∀ p ∈ zp r, Adj ls p.1 p.2) → Chn ls r
  | [], _ => trivial
  | [_], _ => trivial
  | a :: b :: t, h => ⟨h (a, b) (by rw [zp_cons]; simp), chn_zp (r := b :: t) fun p hp => h p (by rw [zp_cons]; exact List.mem_cons_of_mem _ hp)⟩
theorem zp_len : ∀ {r : List Nat}, r ≠ [] → (zp r).length + 1 = r.length
  | [], z => absurd rfl z
  | [_], _ => rfl
  | a :: b :: t, _ => by
    have := zp_len (r := b :: t) (by simp)
    rw [zp_cons]
    simp only [List.length_cons] at *
    omega
theorem cp_len {r : List Nat} (h : r ≠ []) : (cp r).length = r.length := by
  have := zp_len h
  unfold cp
  rw [List.length_cons]
  exact this
/-- ties that are one ring -/
structure RingT (ls : List (List Nat)) (r : List Nat) : Prop where
  ties : Ties ls
  nd : r.Nodup
  len : 3 ≤ r.length
  perm : ls.Perm ((cp r).map p2)
theorem RingT.ne {ls : List (List Nat)} {r : List Nat} (h : RingT ls r) : r ≠ [] := fun z => by
  have := h.len
  rw [z] at this
  simp at this
theorem RingT.adj {ls : List (List Nat)} {r : List Nat} (h : RingT ls r) {p : Nat × Nat} (hp : p ∈ cp r) : Adj ls p.1 p.2 := h.perm.mem_iff.mpr (List.mem_map_of_mem hp)
theorem RingT.cyc {ls : List (List Nat)} {r : List Nat} (h : RingT ls r) : Cyc ls r :=
  ⟨h.len, h.nd, chn_zp fun p hp => h.adj (List.mem_cons_of_mem _ hp), h.adj (p := (lst r, hd r)) List.mem_cons_self⟩
theorem RingT.llen {ls : List (List Nat)} {r : List Nat} (h : RingT ls r) : ls.length = r.length := by
  rw [h.perm.length_eq, List.length_map, cp_len h.ne]
theorem RingT.of {ls : List (List Nat)} {r : List Nat} (h : RingT ls r) {a b : Nat} (hab : Adj ls a b) : (a, b) ∈ cp r ∨ (b, a) ∈ cp r := by
  obtain ⟨⟨x, y⟩, hp, e⟩ := List.mem_map.mp (h.perm.mem_iff.mp hab)
  unfold p2 pr2 at e
  dsimp only at e
  split at e <;> split at e <;> cases e
  · exact .inl hp
  · exact .inr hp
  · exact .inr hp
  · exact .inl hp
theorem Ties.adj_ne {ls : List (List Nat)} (h : Ties ls) {a : Nat} : ¬ Adj ls a a := fun hab => by
  obtain ⟨x, y, e, _, h2, _⟩ := h.pr _ hab
  unfold pr2 at e
  dsimp only at e
  split at e <;> cases e <;> omega
theorem RingT.anti {ls : List (List Nat)} {r : List Nat} (h : RingT ls r) {a b : Nat} (hab : (a, b) ∈ cp r) : (b, a) ∉ cp r := fun hba => by
  have hn : ((cp r).map p2).Nodup := h.perm.nodup_iff.mp (ties_nodup h.ties)
  have hne : (a, b) ≠ (b, a) := fun z => by
    cases z
    exact h.ties.adj_ne (h.adj hab)
  have h1 := (List.pairwise_map.mp hn)
  obtain ⟨i, hi⟩ := List.mem_iff_getElem?.mp hab
  obtain ⟨j, hj⟩ := List.mem_iff_getElem?.mp hba
  have e1 : ((cp r).map p2)[i]? = some (p2 (a, b)) := by rw [List.getElem?_map, hi]; rfl
  have e2 : ((cp r).map p2)[j]? = some (p2 (a, b)) := by rw [List.getElem?_map, hj]; exact congrArg some pr2_comm
  have hij := (List.getElem?_inj (List.getElem?_eq_some_iff.mp e1).1 hn).mp (e1.trans e2.symm)
  subst hij
  exact hne (Option.some.inj (hi.symm.trans hj))
theorem RingT.pot {ls : List (List Nat)} {r : List Nat} (h : RingT ls r) {g : Nat → Nat → Int} (hg : ∀ a b, Adj ls a b → g b a = - g a b) (h0 : rnd g r = 0) : ∃ f, Pot ls g f := by
  obtain ⟨f, hf⟩ := zp_pot g r h.nd
  have ht := zp_tele h.ne hf
  have hc : ∀ p ∈ cp r, f p.1 - f p.2 = g p.1 p.2 := fun p hp => by
    rcases List.mem_cons.mp hp with rfl | hp
    · unfold rnd at h0
      dsimp only
      omega
    · exact hf p hp
  refine ⟨f, fun a b hab => ?_⟩
  have hA := adj_asc (asc_pairs h.ties) hab
  rcases h.of hA with z | z
  · exact hc _ z
  · have h1 := hc _ z
    have h2 := hg a b hA
    dsimp only at h1
    omega
def sgB (r : List Nat) (l : List Nat) : Bool := decide ((fst2 l, snd2 l) ∈ cp r)
def fth (r : List Nat) (as : List (List Nat)) : Nat := as.countP (sgB r)
theorem sgB_rev {ls : List (List Nat)} {r : List Nat} (h : RingT ls r) {l : List Nat} (hl : l ∈ ls) : sgB r l.reverse = !sgB r l := by
  obtain ⟨a, b, rfl, _⟩ := h.ties.pr l hl
  have hA := adj_asc (asc_pairs h.ties) hl
  show decide ((b, a) ∈ cp r) = !decide ((a, b) ∈ cp r)
  rcases h.of hA with z | z
  · simp [z, h.anti z]
  · simp [z, h.anti z]
/-- of a way to lay arrows on ties: which of the two -/
theorem one_way {ls as : List (List Nat)} (ht : Ties ls) (h2 : Two as) (hs : as.map pr2 = ls) {a b : Nat} (hab : Adj ls a b) : [b, a] ∈ as ↔ [a, b] ∉ as := by
  have hne : a ≠ b := fun z => by
    subst z
    exact ht.adj_ne hab
  have hn : (as.map pr2).Nodup := by rw [hs]; exact ties_nodup ht
  constructor
  · intro h1 h3
    obtain ⟨i, hi⟩ := List.mem_iff_getElem?.mp h1
    obtain ⟨j, hj⟩ := List.mem_iff_getElem?.mp h3
    have e1 : (as.map pr2)[i]? = some (pr2 [a, b]) := by rw [List.getElem?_map, hi]; exact congrArg some pr2_comm
    have e2 : (as.map pr2)[j]? = some (pr2 [a, b]) := by rw [List.getElem?_map, hj]; rfl
    have hij := (List.getElem?_inj (List.getElem?_eq_some_iff.mp e1).1 hn).mp (e1.trans e2.symm)
    subst hij
    have := Option.some.inj (hi.symm.trans hj)
    cases this
    exact hne rfl
  · intro h1
    have hab' : pr2 [a, b] ∈ as.map pr2 := by rw [hs]; exact hab
    obtain ⟨l, hl, e⟩ := List.mem_map.mp hab'
    obtain ⟨x, y, rfl⟩ := h2 l hl
    unfold pr2 at e
    dsimp only at e
    split at e <;> split at e <;> cases e
    · exact absurd hl h1
    · exact hl
    · exact hl
    · exact absurd hl h1
theorem xof_ant {ls as : List (List Nat)} (ht : Ties ls) (h2 : Two as) (hs : as.map pr2 = ls) {a b : Nat} (hab : Adj ls a b) : xof as b a = - xof as a b := by
  have := one_way ht h2 hs hab
  unfold xof
  by_cases h : [a, b] ∈ as
  · rw [if_pos h, if_neg (fun z => this.mp z h)]
  · rw [if_neg h, if_pos (this.mpr h)]
    rfl
def sgI (r : List Nat) (l : List Nat) : Int := if sgB r l then 1 else -1
theorem sum_sg (r : List Nat) : ∀ as : List (List Nat), (as.map (sgI r)).sum = 2 * (fth r as : Int) - as.length
  | [] => rfl
  | l :: as => by
    have ih := sum_sg r as
    unfold fth at *
    rw [List.map_cons, List.sum_cons, ih, List.countP_cons]
    unfold sgI
    by_cases h : sgB r l
    · rw [if_pos h, if_pos h]
      simp only [List.length_cons]
      omega
    · rw [if_neg h, if_neg h]
      simp only [List.length_cons]
      omega
theorem perm_sum {L M : List Int} (h : L.Perm M) : L.sum = M.sum := by
  induction h with
  | nil => rfl
  | cons x _ ih => rw [List.sum_cons, List.sum_cons, ih]
  | swap x y l => rw [List.sum_cons, List.sum_cons, List.sum_cons, List.sum_cons]; omega
  | trans _ _ h1 h2 => exact h1.trans h2
theorem tal_fth {ls as : List (List Nat)} {r : List Nat} (h : RingT ls r) (h2 : Two as) (hs : as.map pr2 = ls) : tal as r = 2 * (fth r as : Int) - r.length := by
  have hl : as.length = r.length := by rw [← h.llen, ← hs, List.length_map]
  rw [← hl, ← sum_sg]
  -- the sign at a tie
  let F : List Nat → Int := fun t => if t ∈ as then sgI r t else sgI r t.reverse
  have e1 : as.map (sgI r) = ls.map F := by
    rw [← hs, List.map_map]
    refine List.map_congr_left fun l hm => ?_
    obtain ⟨a, b, rfl⟩ := h2 l hm
    have hA : Adj ls a b := by rw [← hs]; exact List.mem_map_of_mem hm
    show sgI r [a, b] = F (pr2 [a, b])
    unfold pr2
    dsimp only
    split
    · show _ = if [b, a] ∈ as then sgI r [b, a] else sgI r [a, b]
      rw [if_neg (fun z => (one_way h.ties h2 hs hA).mp z hm)]
    · show _ = if [a, b] ∈ as then sgI r [a, b] else sgI r [b, a]
      rw [if_pos hm]
  have e2 : (ls.map F).sum = (((cp r).map p2).map F).sum := perm_sum (h.perm.map F)
  unfold tal
  rw [e1, e2, rnd_sum, List.map_map]
  congr 1
  refine List.map_congr_left fun p hp => ?_
  obtain ⟨a, b⟩ := p
  have hA : Adj ls a b := h.adj hp
  have ho := one_way h.ties h2 hs hA
  have hq : sgI r [a, b] = 1 := if_pos (decide_eq_true hp)
  have hq' : sgI r [b, a] = -1 := if_neg (by show ¬ (decide ((b, a) ∈ cp r) = true); rw [decide_eq_true_iff]; exact h.anti hp)
  show xof as a b = F (pr2 [a, b])
  unfold xof
  show _ = F (if b < a then [b, a] else [a, b])
  by_cases hba : b < a
  · rw [if_pos hba]
    show _ = if [b, a] ∈ as then sgI r [b, a] else sgI r [a, b]
    by_cases z : [a, b] ∈ as
    · rw [if_pos z, if_neg (fun y => ho.mp y z), hq]
    · rw [if_neg z, if_pos (ho.mpr z), hq']
  · rw [if_neg hba]
    show _ = if [a, b] ∈ as then sgI r [a, b] else sgI r [b, a]
    by_cases z : [a, b] ∈ as
    · rw [if_pos z, if_pos z, hq]
    · rw [if_neg z, if_neg z, hq']
theorem RingT.rk {ls as : List (List Nat)} {r : List Nat} (h : RingT ls r) (h2 : Two as) (hs : as.map pr2 = ls) : Ranked as ↔ 0 < fth r as ∧ fth r as < r.length := by
  have ht := tal_fth h h2 hs
  constructor
  · intro hr
    have := tal_lt h2 hr (r := r) (by rw [hs]; exact h.cyc)
    omega
  · intro hk
    let g : Nat → Nat → Int := fun a b => (if (a, b) ∈ cp r then tal as r else - tal as r) - r.length * xof as a b
    have hg : ∀ a b, Adj ls a b → g b a = - g a b := fun a b hab => by
      have hx := xof_ant h.ties h2 hs hab
      show (if (b, a) ∈ cp r then tal as r else - tal as r) - r.length * xof as b a = - ((if (a, b) ∈ cp r then tal as r else - tal as r) - r.length * xof as a b)
      rw [hx, Int.mul_neg]
      rcases h.of hab with z | z
      · rw [if_pos z, if_neg (h.anti z)]
        omega
      · rw [if_pos z, if_neg (h.anti z)]
        omega
    have h0 : rnd g r = 0 := by
      have e : ∀ (L : List (Nat × Nat)), (∀ p ∈ L, p ∈ cp r) → (L.map fun p => g p.1 p.2).sum = L.length * tal as r - r.length * (L.map fun p => xof as p.1 p.2).sum := by
        intro L
        induction L with
        | nil => intro _; simp
        | cons p L ih =>
          intro hL
          have ih := ih fun q hq => hL q (List.mem_cons_of_mem _ hq)
          have hp : g p.1 p.2 = tal as r - r.length * xof as p.1 p.2 := by
            show (if (p.1, p.2) ∈ cp r then tal as r else - tal as r) - _ = _
            rw [if_pos (hL p List.mem_cons_self)]
          rw [List.map_cons, List.sum_cons, List.map_cons, List.sum_cons, ih, hp, List.length_cons, Int.mul_add, Int.natCast_add, Int.add_mul]
          omega
      rw [rnd_sum, e _ fun p hp => hp, ← rnd_sum, cp_len h.ne]
      show _ - _ * tal as r = 0
      omega
    obtain ⟨f, hf⟩ := h.pot hg h0
    -- along each arrow the number grows
    have hup : ∀ a b, [a, b] ∈ as → f a < f b := fun a b hab => by
      have hA : Adj ls a b := by rw [← hs]; exact List.mem_map_of_mem hab
      have h1 := hf.adj hg hA
      have h3 : g a b = (if (a, b) ∈ cp r then tal as r else - tal as r) - r.length * xof as a b := rfl
      have hx : xof as a b = 1 := if_pos hab
      rw [hx] at h3
      split at h3 <;> omega
    obtain ⟨m, hm⟩ : ∃ m : Int, ∀ a ∈ as.flatten, m ≤ f a := by
      generalize as.flatten = L
      induction L with
      | nil => exact ⟨0, fun a ha => by cases ha⟩
      | cons x L ih =>
        obtain ⟨m, hm⟩ := ih
        refine ⟨min m (f x), fun a ha => ?_⟩
        rcases List.mem_cons.mp ha with rfl | ha
        · omega
        · have := hm a ha
          omega
    refine ⟨fun a => (f a - m).toNat, fun a b hab => ?_⟩
    have h1 := hup a b hab
    have h3 := hm a (List.mem_flatten.mpr ⟨_, hab, by simp⟩)
    show (f a - m).toNat < (f b - m).toNat
    omega
def chs : Nat → Nat → Nat
  | _, 0 => 1
  | 0, _ + 1 => 0
  | n + 1, k + 1 => chs n k + chs n (k + 1)
theorem lotsQ_snoc (ls : List (List Nat)) (d : List Nat) : lotsQ (ls ++ [d]) = stepQ (lotsQ ls) d := by
  unfold lotsQ
  rw [List.foldl_append]
  rfl
theorem lots_cnt (φ : List Nat → Bool) : ∀ (m : List (List Nat)), (∀ l ∈ m, φ l.reverse = !φ l) → ∀ k, ((lotsQ m.reverse).countP fun w => w.countP φ == k) = chs m.length k
  | [], _, k => by
    cases k <;> rfl
  | d :: m, h, k => by
    have ih := lots_cnt φ m fun l hl => h l (List.mem_cons_of_mem _ hl)
    have hd := h d List.mem_cons_self
    rw [List.reverse_cons, lotsQ_snoc]
    unfold stepQ
    rw [List.countP_append, List.countP_map, List.countP_map]
    have e : ∀ (x : List Nat), ((fun w => List.countP φ w == k) ∘ fun l : List (List Nat) => l ++ [x]) = fun w => (w.countP φ + if φ x then 1 else 0) == k := fun x => by
      funext w
      show (List.countP φ (w ++ [x]) == k) = _
      rw [List.countP_append, List.countP_cons, List.countP_nil, Nat.zero_add]
    rw [e, e, hd]
    have e0 : (fun w : List (List Nat) => (w.countP φ + 0) == k) = fun w => w.countP φ == k := rfl
    have e1 : ∀ j, k = j + 1 → (fun w : List (List Nat) => (w.countP φ + 1) == k) = fun w => w.countP φ == j := fun j hj => by
      subst hj
      funext w
      show decide _ = decide _
      congr 1
      simp
    have e2 : k = 0 → (lotsQ m.reverse).countP (fun w : List (List Nat) => (w.countP φ + 1) == k) = 0 := fun hk => by
      subst hk
      rw [List.countP_eq_zero]
      intro w _ z
      have := of_decide_eq_true z
      omega
    cases k with
    | zero =>
      cases hφ : φ d
      · show List.countP (fun w : List (List Nat) => (w.countP φ + 0) == 0) _ + List.countP (fun w : List (List Nat) => (w.countP φ + 1) == 0) _ = _
        rw [e2 rfl, e0, ih 0, List.length_cons]
        unfold chs
        rfl
      · show List.countP (fun w : List (List Nat) => (w.countP φ + 1) == 0) _ + List.countP (fun w : List (List Nat) => (w.countP φ + 0) == 0) _ = _
        rw [e2 rfl, e0, ih 0, List.length_cons]
        unfold chs
        rfl
    | succ k =>
      cases hφ : φ d
      · show List.countP (fun w : List (List Nat) => (w.countP φ + 0) == k + 1) _ + List.countP (fun w : List (List Nat) => (w.countP φ + 1) == k + 1) _ = _
        rw [e1 k rfl, e0, ih k, ih (k + 1), List.length_cons]
        rw [show chs (m.length + 1) (k + 1) = chs m.length k + chs m.length (k + 1) by rw [chs]]
        omega
      · show List.countP (fun w : List (List Nat) => (w.countP φ + 1) == k + 1) _ + List.countP (fun w : List (List Nat) => (w.countP φ + 0) == k + 1) _ = _
        rw [e1 k rfl, e0, ih k, ih (k + 1), List.length_cons]
        rw [show chs (m.length + 1) (k + 1) = chs m.length k + chs m.length (k + 1) by rw [chs]]
end Pdl
namespace Pdl
open PySem L2 PyProof.Rows
theorem flows_cnt (ls : List (List Nat)) (P : List (List Nat) → Bool) : (flows ls).countP P = (lotsQ ls).countP fun w => P w && rkB w := by
  unfold flows
  rw [(srtE_perm _ _).countP_eq, List.countP_filter]
theorem lots_facts {ls w : List (List Nat)} (h : Ties ls) (hw : w ∈ lotsQ ls) : Two w ∧ w.map pr2 = ls := by
  obtain ⟨t1, t2⟩ := allL_two h.two (mem_lotsQ.mp hw)
  have t2 : ls.map pr2 = w.map pr2 := t2
  exact ⟨t1, by rw [← t2, h.pr2s]⟩
theorem RingT.cnt {ls : List (List Nat)} {r : List Nat} (h : RingT ls r) {k : Nat} (h0 : 0 < k) (hk : k < r.length) : (flows ls).countP (fun w => fth r w == k) = chs r.length k := by
  rw [flows_cnt]
  have e : (lotsQ ls).countP (fun w => (fth r w == k) && rkB w) = (lotsQ ls).countP fun w => w.countP (sgB r) == k := by
    refine List.countP_congr fun w hw => ?_
    obtain ⟨h2, hs⟩ := lots_facts h.ties hw
    rw [Bool.and_eq_true]
    constructor
    · exact fun z => z.1
    · intro z
      refine ⟨z, rkB_t h2 ((h.rk h2 hs).mpr ?_)⟩
      have : fth r w = k := eq_of_beq z
      omega
  rw [e]
  have := lots_cnt (sgB r) ls.reverse (fun l hl => sgB_rev h (List.mem_reverse.mp hl)) k
  rw [List.reverse_reverse, List.length_reverse, h.llen] at this
  exact this
theorem RingT.mem {ls w : List (List Nat)} {r : List Nat} (h : RingT ls r) (hw : w ∈ flows ls) : 0 < fth r w ∧ fth r w < r.length := by
  obtain ⟨a1, a2⟩ := (mem_flows h.ties).mp hw
  exact (h.rk a1.two a2).mp a1.rk
theorem Ties.some {ls : List (List Nat)} (h : Ties ls) : ∃ p, p ∈ ls.flatten := by
  obtain ⟨p, r, e⟩ := us_ne h
  exact ⟨p, mem_us.mp (by rw [e]; simp)⟩
structure TreeT (ls : List (List Nat)) : Prop where
  ties : Ties ls
  cnt : ls.length + 1 = (us ls.flatten).length
theorem TreeT.no {ls : List (List Nat)} (h : TreeT ls) {r : List Nat} : ¬ Cyc ls r := fun hc => by
  obtain ⟨q, hq, _⟩ := hc.form
  have := (mem_rgs h.ties).mpr hq
  rw [(tree_iff h.ties).mpr h.cnt] at this
  cases this
theorem pot_rank {as : List (List Nat)} {f : Nat → Int} (hup : ∀ a b, [a, b] ∈ as → f a < f b) : Ranked as := by
  obtain ⟨m, hm⟩ : ∃ m : Int, ∀ a ∈ as.flatten, m ≤ f a := by
    generalize as.flatten = L
    induction L with
    | nil => exact ⟨0, fun a ha => by cases ha⟩
    | cons x L ih =>
      obtain ⟨m, hm⟩ := ih
      refine ⟨min m (f x), fun a ha => ?_⟩
      rcases List.mem_cons.mp ha with rfl | ha
      · omega
      · have := hm a ha
        omega
  refine ⟨fun a => (f a - m).toNat, fun a b hab => ?_⟩
  have h1 := hup a b hab
  have h3 := hm a (List.mem_flatten.mpr ⟨_, hab, by simp⟩)
  show (f a - m).toNat < (f b - m).toNat
  omega
theorem TreeT.rk {ls as : List (List Nat)} (h : TreeT ls) (h2 : Two as) (hs : as.map pr2 = ls) : Ranked as := by
  have hg : ∀ a b, Adj ls a b → (fun a b => - xof as a b) b a = - (fun a b => - xof as a b) a b := fun a b hab => by
    have := xof_ant h.ties h2 hs hab
    dsimp only
    omega
  obtain ⟨f, hf⟩ := pot_ex ls (asc_pairs h.ties) (ties_nodup h.ties) hg fun r hc => absurd hc h.no
  refine pot_rank (f := f) fun a b hab => ?_
  have hA : Adj ls a b := by rw [← hs]; exact List.mem_map_of_mem hab
  have h1 := hf.adj hg hA
  have hx : xof as a b = 1 := if_pos hab
  rw [hx] at h1
  omega
end Pdl
namespace Pdl
open PySem L2 PyProof.Rows PySem.W
theorem FarOk.le {as : List (List Nat)} {n m : Nat} (h : FarOk as n) (k : FarOk as m) : n ≤ m := by
  obtain ⟨b, ⟨row, h1, h2⟩, h3⟩ := h.some
  obtain ⟨r, h4, h5⟩ := k.all b ⟨row, h1⟩
  have := h3 r h4
  omega
end Pdl
namespace Pdl
open PySem L2 PyProof.Rows PySem.HandSPX
theorem exV_ok {P : Program} {w : World} {H : Hp} {h : Heap} {a C : Addr} {d : Option Addr} {oe : Obj} (he : h.get? a = some oe) (hz : Zc (.ref C) d oe) (hf : ∃ vs, oe.data = .fields vs) : ObjOk P w H h a (exV a C d) :=
  ⟨⟨oe, he, hz, hf⟩, ⟨oe, he⟩, fun _ _ ⟨o, q, r⟩ k => ⟨o, k o q, r⟩⟩
end Pdl
namespace Pdl
open PySem L2 PyProof.Rows
theorem rpF_lookup {K : PySem.W.Frag} {G : Hp} {f : Str} {d : D} : ∀ {vs : List (Str × V)} {ds : List (Str × D)}, RpF K G vs ds → ds.lookup f = some d → ∃ v, vs.lookup f = some v ∧ Rp K G v d
  | _, _, .nil, h => by cases h
  | _, _, .cons (k := k) (v := v) (d := d0) rv rt, h => by
    rw [List.lookup_cons] at h ⊢
    cases hk : f == k
    · rw [hk] at h
      exact rpF_lookup rt h
    · rw [hk] at h
      cases h
      exact ⟨v, rfl, rv⟩
end Pdl
namespace Pdl
open PySem L2 PyProof.Rows
section
variable {X : Cx} {μ : Md} {Γ : En} {C : Addr} {bmB : List Value} {B newId initId : String} {Po' : Po}
theorem pmk_own0 {x : Str} {p pos : Pos} (F : ExcBaseFacts B newId initId bmB) (q : PySem.W.excIn X.K C bmB newId = true) (gC : X.mg x = some (.ref C)) (kC : PySem.W.keepIn X.K (.ref C) = true) (r : Raises X (.ref C)) (hg : Gl X x)
    (hdb : (x == ("__debug__" : Str)) = false := by decide) : PMk X (.Call (.Name x p) [] [] pos) (fun _ H Q => Q (.ref C) none H) := by
  intro pins s σ H Q I h
  refine wpAny_Call_Name_kw (ld_glob I hg gC ?_ hdb)
  refine PySem.W.callWith_K0 I.kIn kC ?_
  show wpAny _ _ (call (.ref C) []) _ _ _
  obtain ⟨bm, N, nm, qn, bs, hdct, sn, sub, ab, col, dd, k0, k1, k2, k3, k5, mN, hC, hN, hni, T⟩ := exc_obj I.kIn q
  refine wpAny_call_exc_subT F T hC hN hni (fun h' e hm => ?_) (by show 0 ≤ sizeLine; omega)
  exact L2.mk_of I hm r h (I.hok.gone hm.new)
/-- an own error without fields -/
structure Err0 (T : Wd) (x : Str) (C : Addr) : Prop where
  mg : T.mg x = some (.ref C)
  kC : PySem.W.keepIn T.K (.ref C) = true
  exC : PySem.W.subIn T.K (.ref C) (.type "BaseException") = some true
  tyC : PySem.W.typeIn T.K (.ref C) = some (.type "type")
  ex : ∃ (bmB : List Value) (B newId initId : String), ExcBaseFacts B newId initId bmB ∧ PySem.W.excIn T.K C bmB newId = true
end
end Pdl
namespace Pdl
open PySem L2 PyProof.Rows
def PurI (N : Nat) (xs : List D) : Prop := ∃ a b c : Int, xs = [.int a, .int b, .int c] ∧ 0 ≤ a ∧ 0 ≤ b ∧ b < 4294967296 ∧ 0 ≤ c ∧ c + N ≤ 1152921504606846976
theorem PurI.le {N N' : Nat} {xs : List D} (h : PurI N xs) (hn : N' ≤ N) : PurI N' xs := by
  obtain ⟨a, b, c, e, h1, h2, h3, h4, h5⟩ := h
  exact ⟨a, b, c, e, h1, h2, h3, h4, by omega⟩
/-- promises with a purse: at most so many draws -/
def purS (n : Nat) (S : PSp) : SpD := fun ds cs Q _ => ∃ J xs N ds', ds = .ref J :: ds' ∧ cs = [(J, .lst xs)] ∧ PurI (N + n) xs ∧ S ds' fun d => ∀ xs', PurI N xs' → Q d [(J, .lst xs')]
abbrev Cu (T : Wd) (x : Str) (k n : Nat) (S : PSp) : Prop := Ca T x k (purS n S)
section
variable {X : Cx} {μ : Md} {Γ : En} {Q : QE} {k n c : Nat} {x : Str} {p pos apos : Pos} {e o : Expr} {es : List Expr}
theorem asks_u {S : PSp} {J : Addr} {xs : List D} {N : Nat} {cs : Cs} {ds : List D} (hc : Γ.c = (J, .lst xs) :: cs) (hp : PurI (N + c) xs) (h : ∀ Qc : D → Prop, (∀ d, (∀ xs', PurI N xs' → Q d ⟨Γ.s, (J, .lst xs') :: cs⟩) → Qc d) → S ds Qc) : Asks μ (purS c S) Q (.ref J :: ds) Γ :=
  ⟨[(J, .lst xs)], cs, hc, fun Qc Ec kq _ => ⟨J, xs, N, ds, rfl, rfl, hp, h _ fun d hq xs' hp' => kq d [(J, .lst xs')] (hq xs' hp')⟩⟩
/-- what a call with a purse asks -/
def AsksU (c : Nat) (S : PSp) (Q : QE) : List D → En → Prop := fun ds Γ1 => ∃ J xs N cs ds', ds = .ref J :: ds' ∧ Γ1.c = (J, .lst xs) :: cs ∧ PurI (N + c) xs ∧ ∀ Qc : D → Prop, (∀ d, (∀ xs', PurI N xs' → Q d ⟨Γ1.s, (J, .lst xs') :: cs⟩) → Qc d) → S ds' Qc
/-- f(purse, e, ..) -/
theorem xe_cu {S : PSp} (C : Cu (wdX X) x k c S) (hr : Room n X.A) (hkn : k ≤ n) (hg : Gl X x) (h : XA X μ (e :: es) Γ (AsksU c S Q)) (hdb : (x == ("__debug__" : Str)) = false := by decide)
    (he : starEach (e :: es) X.env = (false, eval e X.env) :: starEach es X.env := by rfl) (hpl : (backTo pos (starEach es X.env)).any (·.1) = false := by rfl) : XE X μ (.Call (.Name x p) (e :: es) [] pos) Γ Q := by
  obtain ⟨ps, C⟩ := C
  refine xe_call C (hr.mono hkn) hg (PA.imp h fun σ H q ⟨R, k⟩ => ⟨R, fun vs H' ds Γ' s' f' R' r' hq => k vs H' ds Γ' s' f' R' r' ?_⟩) hdb he hpl
  obtain ⟨J, xs, N, cs, ds', rfl, hc, hp, hq⟩ := hq
  exact asks_u hc hp hq
theorem xe_dct0 (h : Q (.dct []) Γ) : XE X μ (.Dict [] [] pos) Γ Q :=
  PE.imp pe_dnewK fun σ H q ⟨R, k⟩ => fun p hp => by
    have hf := R.fresh hp
    have e := sub_upd (o := .dK []) hp
    exact k _ _ _ Γ rfl (Fw.of_sub e) (R.more e) (.dct (hid_upd hf) .nil) h
theorem cr_tuple_str (hc : X.calm = true) : CallR X (.type "tuple") (fun xs H Q => ∃ l : List Nat, xs = [.str (S l)] ∧ l.length ≤ sizeLine ∧ ∀ p, H p = none → Q (.ref p) (upd H p (.tup (((ch l).map S).map V.str)))) := by
  intro pins s σ H xs us Q I r h
  obtain ⟨l, rfl, hz, q⟩ := h
  obtain ⟨u, rfl, ru⟩ := vals1 r
  obtain ⟨t, rfl⟩ := ru
  refine call_tuple_str (I.ok.hd hc) (S l) t (fun h' tk acc hk hi => ?_) (by show l.toArray.size ≤ _; simpa using hz)
  have I2 : Inv X pins σ H { s with heap := h', toks := tk } := I.kept hk
  refine ⟨.ref h'.objs.size, upd H h'.objs.size (.tup (((ch l).map S).map V.str)), I2.laid (t' := tk) (fun c o e => Heap.get?_push_of_some _ e) (Nat.le_refl _) (show ObjOk X.prog X.w _ _ _ (.tup (((ch l).map S).map V.str)) from ⟨by simp [ch]; exact hz, acc.toList, ?_, ?_⟩), rfl, q _ (I2.hok.fresh (Nat.le_refl _))⟩
  · refine vals_of_idx _ _ (by simp [ch]; have := hi.1; simpa [S] using this) fun j u hj => ?_
    obtain ⟨c, t', hc, rfl⟩ := hi.2 j u (by rw [← Array.getElem?_toList]; exact hj)
    refine ⟨.str (S [c]), ?_, ⟨_, rfl⟩⟩
    have hc : l[j]? = some c := by
      have : l.toArray[j]? = some c := hc
      simpa using this
    simp [ch, hc]
  · rw [Array.toArray_toList]; exact IsTup.new _ _
theorem cd_tuple_str {l : List Nat} (hl : l.length ≤ 100000) (hc : X.calm = true := by rfl) : CallD X (.type "tuple") [.str (S l)] (.tup (SL (ch l))) := .of (cr_tuple_str hc) fun vs H q m hm h1 k => by
  obtain ⟨v, rfl, r⟩ := h1.one
  cases r
  refine ⟨l, rfl, Nat.le_trans hl (by decide), fun p hp => ?_⟩
  refine k _ _ (sub_upd hp) (.tup (.of (hid_upd (fresh_m hm hp))) ?_)
  rw [SL_strs]
  exact RpA.strs _
theorem cd_list_str {l : List Nat} (hl : l.length ≤ 100000) (hc : X.calm = true := by rfl) : CallD X (.type "list") [.str (S l)] (.lst (SL (ch l))) := .of (cr_list_str hc) fun vs H q m hm h1 k => by
  obtain ⟨v, rfl, r⟩ := h1.one
  cases r
  refine ⟨l, rfl, Nat.le_trans hl (by decide), fun p hp => ?_⟩
  refine k _ _ (sub_upd hp) (.lst (.of (hid_upd (fresh_m hm hp))) ?_)
  rw [SL_strs]
  exact RpA.strs _
/-- data that is no text -/
inductive NoStr : D → Prop
  | non : NoStr .non
  | bl {b : Bool} : NoStr (.bl b)
  | int {i : Int} : NoStr (.int i)
  | lst {xs : List D} : NoStr (.lst xs)
  | tup {xs : List D} : NoStr (.tup xs)
  | dct {xs : List (Key × D)} : NoStr (.dct xs)
theorem isi_nostr {d : D} (h : NoStr d) : CallD X (.builtin "isinstance") [d, .ty "str"] (.bl false) := by
  cases h with
  | non => exact cd_isi .non .ty (kit_ty (by decide +kernel))
  | bl => exact cd_isi .bl .ty (kit_ty (by decide +kernel))
  | int => exact cd_isi .int .ty (kit_ty (by decide +kernel))
  | lst => exact cd_isi .lst .ty (kit_ty (by decide +kernel))
  | tup => exact cd_isi .tup .ty (kit_ty (by decide +kernel))
  | dct => exact cd_isi .dct .ty (kit_ty (by decide +kernel))
end
end Pdl
namespace Pdl
open PySem L2 PyProof.Rows
/-- a paper: a text of some length, or no text -/
def CertOk (n : Nat) (d : D) : Prop := (∃ row, d = .str (S row) ∧ row.length ≤ n) ∨ NoStr d
theorem CertOk.le {n n' : Nat} {d : D} (h : CertOk n d) (hn : n ≤ n') : CertOk n' d := by
  rcases h with ⟨row, e, hl⟩ | h
  · exact .inl ⟨row, e, by omega⟩
  · exact .inr h
structure RndI (as cur : List (List Nat)) (f : List Nat) : Prop where
  row : Row as f cur
  nd : f.Nodup
  fit : Fit cur as fun x => if x ∈ f then 0 else 1
theorem RndI.start {as : List (List Nat)} : RndI as as [] := ⟨.nil, List.nodup_nil, fun i a b o h1 h2 => by
  rw [h1] at h2
  cases h2
  simp⟩
theorem RndI.sub {as cur : List (List Nat)} {f : List Nat} (ha : Arrs as) (h : RndI as cur f) : ∀ x ∈ f, x ∈ us as.flatten := fun x hx => mem_us.mpr (by
  have : ∀ {as cur : List (List Nat)} {f : List Nat}, Row as f cur → ∀ x ∈ f, x ∈ as.flatten := fun hr => by
    induction hr with
    | nil => intro x hx; cases hx
    | cons hp hg h ih =>
      intro x hx
      rcases List.mem_cons.mp hx with e | e
      · subst e; exact hp
      · exact mem_exch_flat.mp (ih x e)
  exact this h.row x hx)
theorem RndI.same {as cur : List (List Nat)} {f : List Nat} (ha : Arrs as) (h : RndI as cur f) : Arrs cur ∧ SameW cur as ∧ us cur.flatten = us as.flatten := by
  have hc := h.row.arrs ha
  obtain ⟨t1, t2, t3, t4⟩ := h.row.facts ha.two ha.rk
  refine ⟨hc, t3.symm, ?_⟩
  rw [← us_pr2 t1, ← us_pr2 ha.two, show as.map pr2 = cur.map pr2 from t3]
theorem RndI.ex {as cur : List (List Nat)} {f : List Nat} (ha : Arrs as) (h : RndI as cur f) (hl : f.length < (us as.flatten).length) : ∃ p ∈ us as.flatten, givesB cur p = true ∧ p ∉ f := by
  obtain ⟨hc, hs, hu⟩ := h.same ha
  have : ¬ ∀ x ∈ us as.flatten, x ∈ f := fun z => by
    have := nodup_len (us_nodup as.flatten) z
    omega
  obtain ⟨p, hp, hpf⟩ : ∃ p ∈ us as.flatten, p ∉ f := by
    refine Decidable.byContradiction fun hn => this fun x hx => Decidable.byContradiction fun hf => hn ⟨x, hx, hf⟩
  obtain ⟨q, hq1, hq2, hq3⟩ := h.fit.giver hc.two hc.rk hs (p := p) (by rw [← hu] at hp; exact mem_us.mp hp) (by rw [if_neg hpf]; decide)
  refine ⟨q, by rw [← hu]; exact mem_us.mpr hq1, (givesB_iff hc.two).mpr hq3, fun z => ?_⟩
  rw [if_pos z] at hq2
  omega
theorem RndI.next {as cur : List (List Nat)} {f : List Nat} {p : Nat} (ha : Arrs as) (h : RndI as cur f) (hp : p ∈ us as.flatten) (hg : givesB cur p = true) (hf : p ∉ f) : RndI as (exch cur p) (f ++ [p]) := by
  obtain ⟨hc, hs, hu⟩ := h.same ha
  have hg := (givesB_iff hc.two).mp hg
  refine ⟨h.row.snoc (by rw [← hu] at hp; exact mem_us.mp hp) hg, ?_, ?_⟩
  · rw [List.nodup_append]
    exact ⟨h.nd, by simp, fun a ha b hb e => hf (by rw [List.mem_singleton.mp hb] at e; rw [← e]; exact ha)⟩
  · have := h.fit.turn hc.two ha.two hs hc.rk.noLoop hg
    refine fun i a b o h1 h2 => ?_
    have e := this i a b o h1 h2
    rw [← e]
    have key : ∀ x, (if x ∈ f ++ [p] then (0 : Int) else 1) = if x = p then (if x ∈ f then (0 : Int) else 1) - 1 else if x ∈ f then 0 else 1 := fun x => by
      by_cases hx : x = p
      · subst hx
        rw [if_pos (by simp), if_pos rfl, if_neg hf]
        rfl
      · rw [if_neg hx]
        simp [hx]
    show (if a ∈ f ++ [p] then (0 : Int) else 1) - (if b ∈ f ++ [p] then (0 : Int) else 1) = _
    rw [key, key]
theorem RndI.done {as cur : List (List Nat)} {f : List Nat} (ha : Arrs as) (h : RndI as cur f) (hl : (us as.flatten).length ≤ f.length) : cur = as := by
  obtain ⟨hc, hs, hu⟩ := h.same ha
  have hall : ∀ x ∈ us as.flatten, x ∈ f := fun x hx => Decidable.byContradiction fun hn => by
    have h1 : (x :: f).Nodup := List.nodup_cons.mpr ⟨hn, h.nd⟩
    have h2 := nodup_len h1 (m := us as.flatten) fun y hy => by
      rcases List.mem_cons.mp hy with e | e
      · rw [e]; exact hx
      · exact h.sub ha y e
    simp at h2
    omega
  refine h.fit.zero hc.two hs fun x hx => ?_
  rw [if_pos (hall x (by rw [← hu]; exact mem_us.mpr hx))]
end Pdl
namespace Pdl
open PySem L2 PyProof.Rows PySem.Spec
abbrev TabL := List (List Nat × Int)
def entI (e : DictEntry) : Option (Str × Int) := match e.key, e.val with
  | .str x _, .int i _ => some (x, i)
  | _, _ => none
def tabE (kvs : TabL) : List (Option (Str × Int)) := kvs.map fun p => some (S p.1, p.2)
structure TabI (K : PySem.W.Frag) (w : World) (a : Addr) (kvs : TabL) : Prop where
  ex : ∃ es n, KDict K w a es n ∧ es.toList.map entI = tabE kvs
def tabV (kvs : TabL) (k : List Nat) (d : D) : D := match kvs.lookup k with
  | some i => .int i
  | none => d
theorem tab_find {z : List Nat} : ∀ {l : List DictEntry} {kvs : TabL}, l.map entI = tabE kvs → (∀ i, kvs.lookup z = some i → ∃ e t, l.find? (fun d => Value.isStrOf (S z) d.key) = some e ∧ e.val = .int i t) ∧ (kvs.lookup z = none → l.find? (fun d => Value.isStrOf (S z) d.key) = none)
  | [], [], _ => ⟨fun i h => (by cases h), fun _ => rfl⟩
  | [], _ :: _, h => by cases h
  | _ :: _, [], h => by cases h
  | e :: l, (k, i) :: kvs, h => by
    have h1 : entI e :: l.map entI = some (S k, i) :: tabE kvs := h
    injection h1 with h2 h3
    obtain ⟨i1, i2⟩ := tab_find (z := z) h3
    obtain ⟨x, t, i', u, ek, ev, ex, ei⟩ : ∃ x t i' u, e.key = .str x t ∧ e.val = .int i' u ∧ x = S k ∧ i' = i := by
      unfold entI at h2
      split at h2
      · rename_i x t i' u q1 q2
        cases h2
        exact ⟨_, _, _, _, q1, q2, rfl, rfl⟩
      · cases h2
    subst ex; subst ei
    rw [List.lookup_cons, List.find?_cons]
    have hb : Value.isStrOf (S z) e.key = (z == k) := by
      rw [ek]
      show (S k == S z) = (z == k)
      by_cases hzk : z = k
      · subst hzk; simp
      · have : ¬ S k = S z := fun q => hzk (S_inj q).symm
        rw [beq_eq_false_iff_ne.mpr this, beq_eq_false_iff_ne.mpr hzk]
    rw [hb]
    cases hzk : (z == k) with
    | true => exact ⟨fun j hj => (by cases hj; exact ⟨e, u, rfl, ev⟩), fun hj => by cases hj⟩
    | false => exact ⟨i1, i2⟩
section
variable {X : Cx} {μ : Md} {Γ : En} {Q : QE} {x : Str} {a : Addr} {kvs : TabL} {p apos cpos : Pos} {e f : Expr} {te tf : TE}
def tGetI (kvs : TabL) (te tf : TE) : TE := fun σ H Q => te σ H fun y H1 => tf σ H1 fun z H2 => ∃ k : List Nat, y = .str (S k) ∧ Q (match kvs.lookup k with | some i => .int i | none => z) H2
theorem pe_getI (T : TabI X.K X.w a kvs) (hm : X.mg x = some (.ref a)) (hg : Gl X x) (he : PE X e te) (hf : PE X f tf) (m : M2 X (.Name x p) "get" apos e f cpos) (hdb : (x == ("__debug__" : Str)) = false) :
    PE X (.Call (.Attribute (.Name x p) "get" apos) [e, f] [] cpos) (tGetI kvs te tf) := by
  obtain ⟨es, n, D, hent⟩ := T.ex
  refine ⟨fun pins s σ H Q I h => ?_⟩
  have mp : ∀ {s' : Shared}, X.K.In s'.heap → s'.heap.MapOf (strKind X.prog X.w) a (fun k => findBy Value.isStrOf es k) := fun kin => PySem.W.mapOf_K (prog := X.prog) (w := X.w) kin D.at_ D.lit
  refine wpAny_Call_method m.base m.few m.line PySem.F.plainAttrs_dict PySem.F.slot_dict_get PySem.F.type_dict_get (ld_glob I hg hm ?_ hdb)
  refine ⟨(mp I.kIn).typeIs, fun b hb => ?_, ?_⟩
  · cases hb
    exact ⟨_, I.kIn _ _ D.at_, rfl⟩
  rw [m.trees]
  refine Calls.callWith_builtin rfl (Calls.evalArgs_plain (Calls.spliced_cons (thn (he.run pins s σ H _ I h) fun iv s2 ⟨y, H2, I2, ry, q2⟩ =>
    Calls.spliced_cons (thn (hf.run pins s2 σ H2 _ I2 q2) fun fv s3 ⟨z, H3, I3, rz, k, ey, q3⟩ => Calls.spliced_nil ?_))))
  subst ey
  obtain ⟨t, rfl⟩ := ry
  refine call_meetsIn PySem.F.slot_dict_get (mp I3.kIn).typeIs PySem.F.entry_dict_get (PySem.F.args_dict_get_3 _ _ _) (meets_dict_get_default (strKind X.prog X.w) a (strKind_is X.prog X.w (S k) t) D.low fv) ⟨_, mp I3.kIn, ?_⟩
  obtain ⟨f1, f2⟩ := tab_find (z := k) hent
  have ef : findBy Value.isStrOf es (S k) = (es.toList.find? fun d => Value.isStrOf (S k) d.key).map (·.val) := by
    obtain ⟨l⟩ := es
    simp [findBy]
  cases hl : kvs.lookup k with
  | some i =>
    rw [hl] at q3
    obtain ⟨e', t', h1, h2⟩ := f1 i hl
    refine ⟨.int i, H3, I3.tok _, ?_, q3⟩
    rw [ef, h1]
    exact ⟨t', h2⟩
  | none =>
    rw [hl] at q3
    refine ⟨z, H3, I3.tok _, ?_, q3⟩
    rw [ef, f2 hl]
    exact rz
/-- the module's table under x -/
def GT (T : Wd) (x : Str) (kvs : TabL) : Prop := ∃ a, T.mg x = some (.ref a) ∧ TabI T.K T.w a kvs
/-- TABLE.get(e, f) -/
theorem xe_getI (T : GT (wdX X) x kvs) (hg : Gl X x) (h : XE X μ e Γ fun y Γ1 => XE X μ f Γ1 fun z Γ2 => ∃ k : List Nat, y = .str (S k) ∧ Q (tabV kvs k z) Γ2) (hdb : (x == ("__debug__" : Str)) = false := by decide)
    (m : M2 X (.Name x p) "get" apos e f cpos := by exact ⟨rfl, rfl, rfl, rfl⟩) : XE X μ (.Call (.Attribute (.Name x p) "get" apos) [e, f] [] cpos) Γ Q := by
  obtain ⟨a, hm, T⟩ := T
  refine PE.imp (pe_getI T hm hg h pe_u m hdb) fun σ H q ⟨R, k⟩ => ?_
  refine ⟨R, fun y H2 dy Γ2 s2 f2 R2 r2 hf => ⟨_, hf, R2, fun z H3 dz Γ3 s3 f3 R3 r3 ⟨kk, hy, hq⟩ => ?_⟩⟩
  subst hy
  cases r2
  refine ⟨kk, rfl, ?_⟩
  unfold tabV at hq
  cases hl : kvs.lookup kk with
  | some i =>
    rw [hl] at hq
    exact k _ H3 _ _ (s3.trans s2) (f2.trans f3) R3 (.int i) hq
  | none =>
    rw [hl] at hq
    exact k _ H3 _ _ (s3.trans s2) (f2.trans f3) R3 r3 hq
end
theorem od_isB {X : Cx} {a b : Bool} : OpD X (compareOp .Is) (.bl a) (.bl b) (.bl (decide (a = b))) := .of op_isBl fun x y H q m _ h1 h2 k => by
  cases h1; cases h2
  exact ⟨a, b, rfl, rfl, k _ H (Sub.refl H) (.bl _)⟩
end Pdl
namespace Pdl
open PySem L2 PyProof.Rows
/-- kinds of things that are no own ones -/
inductive OthV (K : PySem.W.Frag) (H : Hp) : V → String → Prop
  | non : OthV K H .non "NoneType"
  | int (i : Int) : OthV K H (.int i) "int"
  | str (x : Str) : OthV K H (.str x) "str"
  | lst {a : Addr} {xs : List V} : SqL K H a xs → OthV K H (.ref a) "list"
  | tup {a : Addr} {xs : List V} : H a = some (.tup xs) → OthV K H (.ref a) "tuple"
  | dct {a : Addr} {kvs : List (Key × V)} : H a = some (.dK kvs) → OthV K H (.ref a) "dict"
def kinds : List String := ["NoneType", "int", "str", "list", "tuple", "dict"]
theorem OthV.mem {K : PySem.W.Frag} {H : Hp} {v : V} {T : String} (h : OthV K H v T) : T ∈ kinds := by cases h <;> simp [kinds]
/-- data of another kind -/
inductive OthD : D → String → Prop
  | non : OthD .non "NoneType"
  | int (i : Int) : OthD (.int i) "int"
  | str (x : Str) : OthD (.str x) "str"
  | lst (xs : List D) : OthD (.lst xs) "list"
  | tup (xs : List D) : OthD (.tup xs) "tuple"
  | dct (kvs : List (Key × D)) : OthD (.dct kvs) "dict"
theorem OthV.sub {K : PySem.W.Frag} {G G' : Hp} {v : V} {T : String} (e : Sub G G') (h : OthV K G v T) : OthV K G' v T := by
  cases h with
  | non => exact .non
  | int i => exact .int i
  | str x => exact .str x
  | lst s => exact .lst (e.sqL s)
  | tup s => exact .tup (e _ _ s)
  | dct s => exact .dct (e _ _ s)
end Pdl
namespace Pdl
open PySem L2 PyProof.Rows
def gU {α : Type} (ix : List Nat) (us ws : List α) : List α := us ++ ix.filterMap (ws[·]?)
/-- how a def with one thing ahead (the object, the class) binds names -/
def KbX (st : Stmt) (ps ks : List Str) (ix : List Nat) : Prop := ∀ (x qual : Str) (kV doc pm : Value) (an : Option Addr) (cdv ct u : Value) (ws : List Value), ws.length = ks.length →
  bindArgs (PySem.W.fnOf x qual (defArgs st) (defBody st) (defScope st) .none kV doc pm an cdv ct) ⟨[u], ks.zip ws⟩ = pure (ps.zip (u :: ix.filterMap (ws[·]?)))
theorem kbn_of {K : PySem.W.Frag} {x qual : Str} {st : Stmt} {g : Addr} {fd : FuncData} {ps ks : List Str} {ix : List Nat} (F : Fun K x qual st g fd) (h : KbX st ps ks ix) : KBn K fd ps 1 ks (gU ix) (gU ix) := by
  obtain ⟨oc, od, kV, doc, pm, an, cdv, ct, osl, rfl, lk, hcd⟩ := F.ex
  refine ⟨fun s us ws _ l1 l2 => ?_, fun r1 r2 => r1.append (vals_pick r2 ix)⟩
  match us, l1 with
  | [u], _ => exact .of_eq (h x qual kV doc pm an cdv ct u ws l2)
def MkK (T : Wd) (x : Str) (C : Addr) (k : Nat) (ks : List Str) (ix : List Nat) (S : ISp) : Prop :=
  ∃ (f : Addr) (fd : FuncData) (ps : List Str), T.mg x = some (.ref C) ∧ Mk T.K C f ∧ FnOk T.P T.w T.K T.mg T.base CX0 k f fd ps (spD T.K (iS C S)) ∧ KBn T.K fd ps 1 ks (gU ix) (gU ix)
def MeK (T : Wd) (C : Addr) (f : Str) (k : Nat) (ks : List Str) (ix : List Nat) (S : PSp) : Prop :=
  ∃ (g : Addr) (fd : FuncData) (ps : List Str), Cls T.K C ∧ Meth T.K C f g ∧ FnOk T.P T.w T.K T.mg T.base CX0 k g fd ps (spD T.K (pS S)) ∧ KBn T.K fd ps 1 ks (gU ix) (gU ix)
def CmK (T : Wd) (C : Addr) (f : Str) (k : Nat) (ks : List Str) (ix : List Nat) (S : PSp) : Prop :=
  ∃ (mc : Value) (p g : Addr) (fd : FuncData) (ps : List Str), ClX.CRead T.K C mc ∧ ClX.CMet T.K C mc f p g ∧ FnOk T.P T.w T.K T.mg T.base CX0 k g fd ps (spD T.K (pS S)) ∧ KBn T.K fd ps 1 ks (gU ix) (gU ix)
section
variable {X : Cx} {μ : Md} {Γ Γ' : En} {Q : QE} {a b c e o : Expr} {es : List Expr} {kws : List Keyword} {pos apos cpos p : Pos} {k n : Nat} {xn f : Str} {C : Addr} {ks : List Str} {ix : List Nat}
theorem xe_mkw {S : ISp} (M : MkK (wdX X) xn C k ks ix S) (hr : Room n X.A) (hkn : k + 1 ≤ n) (hg : Gl X xn)
    (h : XKw X μ kws Γ fun ds Γ1 => ds.length = ks.length ∧ ∀ Qc : List (Str × D) → Prop, (∀ fs, Q (.ins C fs) Γ1 → Qc fs) → S (ix.filterMap (ds[·]?)) Qc)
    (hks : (backToKw pos (keywordEach kws X.env)).filterMap (·.1) = ks := by rfl) (hall : (backToKw pos (keywordEach kws X.env)).all (·.1.isSome) = true := by rfl)
    (hdb : (xn == ("__debug__" : Str)) = false := by decide) (hpl : ((backTo pos (starEach [] X.env)).any (·.1) || (backToKw pos (keywordEach kws X.env)).any (·.1.isNone)) = false := by rfl) : XE X μ (.Call (.Name xn p) [] kws pos) Γ Q := by
  obtain ⟨f, fd, ps, hm, mk, F, bd⟩ := M
  refine PE.imp pe_u fun σ H q ⟨R, k⟩ => ⟨_, L2.pe_makeK0 (E := wD X.K μ σ) mk F (hr.mono hkn) hg hm bd pass0' h hall hks hdb hpl, R, fun vs H1 ds Γ1 s1 f1 R1 r1 ⟨hl, hs⟩ => ⟨rfl, r1.length.trans hl, fun x dx hx hdx hne => ?_⟩⟩
  show spD X.K (iS C S) (.ref x :: ([] ++ ix.filterMap (vs[·]?))) _ _ (wD X.K μ σ)
  rw [List.nil_append]
  obtain ⟨sl, cs⟩ := Γ1
  obtain ⟨R2, f2⟩ := R1.newF (C := C) hx hdx hne
  refine asks_sp (Q := fun d Γ' => d = .non ∧ ∃ fs, Γ' = ⟨sl, (x, .ins C fs) :: cs⟩ ∧ Q (.ins C fs) ⟨sl, cs⟩) R2 (.cons (.ref x) ((r1.pick ix).mono f2.sub)) ?_ fun v H3 d Γ3 s3 f3 R3 r3 ⟨hd, fs, hG, hq⟩ => ?_
  · refine ⟨[(x, .ins C [])], cs, rfl, fun Qc Ec kq _ => ⟨x, _, rfl, rfl, hs _ fun fs hq => kq _ _ ⟨rfl, fs, rfl, hq⟩⟩⟩
  · subst hd; subst hG
    cases r3
    obtain ⟨R4, f4, _⟩ := Rel.freeze (c1 := []) R3 (.inr (.inr trivial))
    exact ⟨rfl, k _ H3 _ ⟨sl, cs⟩ s1 (((f1.trans f2).trans f3).trans f4) R4 (frozen (c1 := []) R3 rfl) hq⟩
/-- o.m(k = e, ..) -/
theorem pe_methW {pl : Sem Bool} {fd : FuncData} {ps : List Str} {sp : Sp} {E : XK} {ta : TE} {tk : TA} {g' : Addr} (he : PE X o ta) (cl : Cls X.K C) (hm : Meth X.K C f g') (F : FnOk X.prog X.w X.K X.mg X.base CX0 k g' fd ps sp) (hr : Room k X.A) (kb : KBn X.K fd ps 1 ks (gU ix) (gU ix)) (hkw : PK X kws tk)
    (hks : (backToKw pos (keywordEach kws X.env)).filterMap (·.1) = ks) (hall : (backToKw pos (keywordEach kws X.env)).all (·.1.isSome) = true)
    (hpl : ((backTo pos (starEach [] X.env)).any (·.1) || (backToKw pos (keywordEach kws X.env)).any (·.1.isNone)) = false)
    (ht : eval (.Call (.Attribute o f apos) [] kws pos) X.env = (do
      let ov ← eval o X.env
      standAt apos.atName
      let (f, first) ← holding [ov] (getMethod ov f pl)
      callWith pos f first (backTo pos (starEach [] X.env)) (backToKw pos (keywordEach kws X.env)))) :
    PE X (.Call (.Attribute o f apos) [] kws pos) (fun σ H Q => ta σ H fun x H1 => ∃ a dx fs, x = .ref a ∧ H1 a = some (.ins C dx fs) ∧ fs.lookup f = none ∧ tk σ H1 fun zs H2 => zs.length = ks.length ∧ sp (.ref a :: ix.filterMap (zs[·]?)) H2 Q E) := by
  refine ⟨fun pins s σ H Q I h => ?_⟩
  refine PySem.W.methodCall_KW (pl := pl) (thn (he.run pins s σ H _ I h) fun u s1 ⟨x, H1, I1, rx, a, dx, fs, ex, ea, l, q⟩ => ?_) ht
  subst ex
  cases (show u = Value.ref a from rx)
  refine getmeth_ok I1 ea cl hm l ?_
  refine PySem.W.callWith_KW0 (first := [.ref a]) (h₀ := X.base) I.ok.mod.kin hm.kp hall (thn (hkw.run pos pins s1 σ H1 _ I1 q) fun ws s2 ⟨zs, H2, I2, rz, l2, q2⟩ => ⟨I2.kIn, ?_⟩) hpl
  rw [hks]
  have r2 : Vals (gU ix [V.ref a] zs) (gU ix [Value.ref a] ws) := kb.rel (.cons rfl .nil) rz
  refine wpAny_call (codeAny_mono (F.run X.A X.stack s2 H2 ⟨[.ref a], ks.zip ws⟩ (gU ix [Value.ref a] ws) (gU ix [V.ref a] zs) Q E hr I2.env0 (kb.to s2 [.ref a] ws I2.kIn rfl (rz.length.symm.trans l2)) r2 q2) fun r s' hq => ?_)
  cases r with
  | error e => exact hq.elim
  | ok fl =>
    cases fl with
    | ret u => exact I2.after hq
    | next => exact False.elim hq
    | brk => exact False.elim hq
    | cont => exact False.elim hq
theorem xe_mew {pl : Sem Bool} {S : PSp} (M : MeK (wdX X) C f k ks ix S) (hr : Room n X.A) (hkn : k ≤ n) (h : XE X μ o Γ fun z Γ1 => ∃ fs, z = .ins C fs ∧ fs.lookup f = none ∧ XKw X μ kws Γ1 fun ds Γ2 => ds.length = ks.length ∧ ∀ Qc : D → Prop, (∀ d, Q d Γ2 → Qc d) → S (.ins C fs :: ix.filterMap (ds[·]?)) Qc)
    (hks : (backToKw pos (keywordEach kws X.env)).filterMap (·.1) = ks := by rfl) (hall : (backToKw pos (keywordEach kws X.env)).all (·.1.isSome) = true := by rfl)
    (hpl : ((backTo pos (starEach [] X.env)).any (·.1) || (backToKw pos (keywordEach kws X.env)).any (·.1.isNone)) = false := by rfl)
    (ht : eval (.Call (.Attribute o f apos) [] kws pos) X.env = (do
      let ov ← eval o X.env
      standAt apos.atName
      let (f, first) ← holding [ov] (getMethod ov f pl)
      callWith pos f first (backTo pos (starEach [] X.env)) (backToKw pos (keywordEach kws X.env))) := by rfl) : XE X μ (.Call (.Attribute o f apos) [] kws pos) Γ Q := by
  obtain ⟨g, fd, ps, cl, mt, F, bd⟩ := M
  refine PE.imp pe_u fun σ H q ⟨R, k⟩ => ⟨_, pe_methW (E := wD X.K μ σ) h cl mt F (hr.mono hkn) bd pk_u hks hall hpl ht, R, fun v H1 z Γ1 s1 f1 R1 r1 ⟨fs, hz, hl, hs⟩ => ?_⟩
  subst hz
  cases r1 with
  | @ins a _ dx fv _ g1 g2 =>
    refine ⟨a, dx, fv, rfl, hid_sub _ _ _ _ g1, (RpF.lookup g2).2 hl, _, hs, R1, fun vs H2 ds Γ2 s2 f2 R2 r2 ⟨hlen, ha⟩ => ⟨r2.length.trans hlen, ?_⟩⟩
    exact asks_sp R2 (.cons ((Rp.ins g1 g2).mono f2.sub) (r2.pick ix)) (asks_p ha) fun v H3 d Γ3 s3 f3 R3 r3 hq => k v H3 d Γ3 ((s3.trans s2).trans s1) ((f1.trans f2).trans f3) R3 r3 hq
/-- C.m(k = e, ..) -/
theorem pe_cmethW {pl : Sem Bool} {fd : FuncData} {ps : List Str} {sp : Sp} {E : XK} {ta : TE} {tk : TA} {g' q' : Addr} {mc : Value} (he : PE X o ta) (cr : ClX.CRead X.K C mc) (cm : ClX.CMet X.K C mc f q' g') (F : FnOk X.prog X.w X.K X.mg X.base CX0 k g' fd ps sp) (hr : Room k X.A) (kb : KBn X.K fd ps 1 ks (gU ix) (gU ix)) (hkw : PK X kws tk)
    (hks : (backToKw pos (keywordEach kws X.env)).filterMap (·.1) = ks) (hall : (backToKw pos (keywordEach kws X.env)).all (·.1.isSome) = true)
    (hpl : ((backTo pos (starEach [] X.env)).any (·.1) || (backToKw pos (keywordEach kws X.env)).any (·.1.isNone)) = false)
    (ht : eval (.Call (.Attribute o f apos) [] kws pos) X.env = (do
      let ov ← eval o X.env
      standAt apos.atName
      let (f, first) ← holding [ov] (getMethod ov f pl)
      callWith pos f first (backTo pos (starEach [] X.env)) (backToKw pos (keywordEach kws X.env)))) :
    PE X (.Call (.Attribute o f apos) [] kws pos) (fun σ H Q => ta σ H fun x H1 => x = .ref C ∧ tk σ H1 fun zs H2 => zs.length = ks.length ∧ sp (.ref C :: ix.filterMap (zs[·]?)) H2 Q E) := by
  refine ⟨fun pins s σ H Q I h => ?_⟩
  refine PySem.W.methodCall_KW (pl := pl) (thn (he.run pins s σ H _ I h) fun u s1 ⟨x, H1, I1, rx, ex, q⟩ => ?_) ht
  subst ex
  cases (show u = Value.ref C from rx)
  refine ClX.getmethcm_ok I1 cr cm fun s2 I2 => ?_
  refine PySem.W.callWith_of hpl (PySem.W.keeps_M cm.fi) (PyProof.Rows.evalArgs_kw2_nil hall (thn (hkw.run pos _ s2 σ H1 _ I2 q) fun ws s3 ⟨zs, H2, I3, rz, l2, q2⟩ => ⟨⟨ClX.pin_at I3, I3.kIn⟩, ?_⟩))
  rw [hks]
  have r2 : Vals (gU ix [V.ref C] zs) (gU ix [Value.ref C] ws) := kb.rel (.cons rfl .nil) rz
  have run := F.run X.A X.stack s3 H2 ⟨[.ref C], ks.zip ws⟩ (gU ix [Value.ref C] ws) (gU ix [V.ref C] zs) Q E hr I3.env0 (kb.to s3 [.ref C] ws I3.kIn rfl (rz.length.symm.trans l2)) r2 q2
  refine wpAny_call (PySem.W.method_call (ClX.pin_at I3) (codeAny_mono run fun r s' hq => ?_))
  cases r with
  | error e => exact hq.elim
  | ok fl =>
    cases fl with
    | ret u => exact ClX.unpinE (I3.after hq)
    | next => exact False.elim hq
    | brk => exact False.elim hq
    | cont => exact False.elim hq
theorem xe_cmw {pl : Sem Bool} {S : PSp} (M : CmK (wdX X) C f k ks ix S) (hr : Room n X.A) (hkn : k ≤ n) (h : XE X μ o Γ fun z Γ1 => z = .ref C ∧ XKw X μ kws Γ1 fun ds Γ2 => ds.length = ks.length ∧ ∀ Qc : D → Prop, (∀ d, Q d Γ2 → Qc d) → S (.ref C :: ix.filterMap (ds[·]?)) Qc)
    (hks : (backToKw pos (keywordEach kws X.env)).filterMap (·.1) = ks := by rfl) (hall : (backToKw pos (keywordEach kws X.env)).all (·.1.isSome) = true := by rfl)
    (hpl : ((backTo pos (starEach [] X.env)).any (·.1) || (backToKw pos (keywordEach kws X.env)).any (·.1.isNone)) = false := by rfl)
    (ht : eval (.Call (.Attribute o f apos) [] kws pos) X.env = (do
      let ov ← eval o X.env
      standAt apos.atName
      let (f, first) ← holding [ov] (getMethod ov f pl)
      callWith pos f first (backTo pos (starEach [] X.env)) (backToKw pos (keywordEach kws X.env))) := by rfl) : XE X μ (.Call (.Attribute o f apos) [] kws pos) Γ Q := by
  obtain ⟨mc, p, g, fd, ps, cr, cm, F, bd⟩ := M
  refine PE.imp pe_u fun σ H q ⟨R, k⟩ => ⟨_, pe_cmethW (E := wD X.K μ σ) h cr cm F (hr.mono hkn) bd pk_u hks hall hpl ht, R, fun v H1 z Γ1 s1 f1 R1 r1 ⟨hz, hs⟩ => ?_⟩
  subst hz
  cases r1
  refine ⟨rfl, _, hs, R1, fun vs H2 ds Γ2 s2 f2 R2 r2 ⟨hlen, ha⟩ => ⟨r2.length.trans hlen, ?_⟩⟩
  exact asks_sp R2 (.cons (.ref C) (r2.pick ix)) (asks_p ha) fun v H3 d Γ3 s3 f3 R3 r3 hq => k v H3 d Γ3 ((s3.trans s2).trans s1) ((f1.trans f2).trans f3) R3 r3 hq
end
end Pdl
namespace Pdl
open PySem L2 PyProof.Rows
theorem spl_ties {ls : List (List Nat)} (h : Ties ls) : TL.spl [32] 0 [] (txt ls) = ls := TL.spl_join h.ne fun p hp hm => by
  obtain ⟨a, b, rfl, h1, h2, h3⟩ := h.pr p hp
  simp at hm
  omega
section
variable {X : Cx} {C : Addr} {d : D} {T : String}
theorem OthD.ty {K : PySem.W.Frag} (h : OthD d T) : TyD K d (.type T) := by cases h <;> constructor
end
end Pdl
namespace Pdl
open PySem L2 PyProof.Rows
inductive KnD : D → Prop
  | non : KnD .non
  | bl {b : Bool} : KnD (.bl b)
  | int {i : Int} : KnD (.int i)
  | str (l : List Nat) (h : l.length ≤ 100000) : KnD (.str (S l))
  | lst {xs : List D} : KnD (.lst xs)
  | tup {xs : List D} : KnD (.tup xs)
def isS : D → Bool
  | .str _ => true
  | _ => false
theorem KnD.no {d : D} (h : KnD d) (hs : isS d = false) : NoStr d := by
  cases h with
  | non => exact .non
  | bl => exact .bl
  | int => exact .int
  | str => simp [isS] at hs
  | lst => exact .lst
  | tup => exact .tup
def textOf (d : D) : List Nat := match d with
  | .str x => x.cps.toList
  | _ => []
end Pdl
namespace Pdl
open PySem
/-- a sheet of known things, two levels deep -/
def KnDD (d : D) : Prop := KnD d ∧ ∀ xs, d = .tup xs → ∀ x ∈ xs, KnD x ∧ ∀ ys, x = .tup ys → ys.length ≤ 100000 ∧ ∀ y ∈ ys, KnD y
end Pdl
namespace Pdl
open PySem L2 PyProof.Rows
/-- a sheet that may be compared -/
structure ShOk (d : D) : Prop where
  kn : KnDD d
  ok : okD d = true
  dp : dpD d ≤ 60
end Pdl
namespace Pdl
open PySem L2 PyProof.Rows
/-- an expression behind which a token is out -/
structure PE1 (X : Cx) (e : Expr) (t : TE) : Prop where
  run : ∀ (pins : List (Addr × Obj)) (s : Shared) (σ : L2.St) (H : Hp) (Q : VK), Inv X pins σ H s → t σ H Q → wpAny (model X.prog X.w) X.A (eval e X.env) (fun v s' => 1 ≤ s'.toks ∧ EP X pins σ Q v s') X.xe s
theorem PE1.imp {X : Cx} {e : Expr} {t u : TE} (h : PE1 X e t) (i : ∀ σ H Q, u σ H Q → t σ H Q) : PE1 X e u := ⟨fun pins s σ H Q I q => h.run pins s σ H Q I (i _ _ _ q)⟩
end Pdl
namespace Pdl
open PySem L2 PyProof.Rows
section
variable {X : Cx} {μ : Md} {Γ : En} {Q : QE} {e : Expr} {pos : Pos}
theorem RpA.rev {K : PySem.W.Frag} {G : Hp} : ∀ {vs : List V} {ds : List D}, RpA K G vs ds → RpA K G vs.reverse ds.reverse
  | _, _, .nil => .nil
  | _, _, .cons h r => by
    rw [List.reverse_cons, List.reverse_cons]
    exact (RpA.rev r).app (.cons h .nil)
end
end Pdl
namespace Pdl
open PySem
structure PrtOk (d : D) : Prop where
  kn : KnD d
  in1 : ∀ ys, d = .tup ys → ys.length ≤ 100000 ∧ ∀ y ∈ ys, KnD y
  ok : okD d = true
  dp : dpD d ≤ 50
theorem dpL_le {n : Nat} : ∀ {xs : List D}, (∀ x ∈ xs, dpD x ≤ n) → dpL xs ≤ n
  | [], _ => Nat.zero_le _
  | x :: xs, h => by
    rw [dpL]
    exact Nat.max_le.mpr ⟨h x List.mem_cons_self, dpL_le fun y hy => h y (List.mem_cons_of_mem _ hy)⟩
theorem okL_of {xs : List D} (h : ∀ x ∈ xs, okD x = true) : okL xs = true := by
  rw [okL_all, List.all_eq_true]
  exact h
theorem ShOk.tup {xs : List D} (h : ∀ x ∈ xs, PrtOk x) : ShOk (.tup xs) := ⟨⟨.tup, fun ys e x hx => by
    cases e
    exact ⟨(h x hx).kn, (h x hx).in1⟩⟩, by rw [okD]; exact okL_of fun x hx => (h x hx).ok, by rw [dpD]; have := dpL_le fun x hx => (h x hx).dp; omega⟩
theorem ShOk.lst {xs : List D} (h : ∀ x ∈ xs, PrtOk x) : ShOk (.lst xs) := ⟨⟨.lst, (fun ys e => by cases e)⟩, by rw [okD]; exact okL_of fun x hx => (h x hx).ok, by rw [dpD]; have := dpL_le fun x hx => (h x hx).dp; omega⟩
/-- flat parts: no tuple -/
structure FltOk (d : D) : Prop where
  kn : KnD d
  nt : ∀ ys, d ≠ .tup ys
  ok : okD d = true
  dp : dpD d ≤ 5
theorem PrtOk.tup {xs : List D} (hl : xs.length ≤ 100000) (h : ∀ x ∈ xs, FltOk x) : PrtOk (.tup xs) := ⟨.tup, fun ys e => by
    cases e
    exact ⟨hl, fun y hy => (h y hy).kn⟩, by rw [okD]; exact okL_of fun x hx => (h x hx).ok, by rw [dpD]; have := dpL_le fun x hx => (h x hx).dp; omega⟩
theorem FltOk.lst {xs : List D} (h : ∀ x ∈ xs, okD x = true ∧ dpD x ≤ 4) : FltOk (.lst xs) := ⟨.lst, (fun ys e => by cases e), by rw [okD]; exact okL_of fun x hx => (h x hx).1, by rw [dpD]; have := dpL_le fun x hx => (h x hx).2; omega⟩
theorem FltOk.str {l : List Nat} (hl : l.length ≤ 100000) (h : ∀ c ∈ l, c < 1000) : FltOk (.str (S l)) := ⟨.str l hl, (fun ys e => by cases e), by
    rw [okD, S_cps, List.all_eq_true]
    exact fun c hc => decide_eq_true (h c hc), by simp [dpD]⟩
theorem FltOk.non : FltOk .non := ⟨.non, (fun ys e => by cases e), rfl, by simp [dpD]⟩
theorem FltOk.bl {b : Bool} : FltOk (.bl b) := ⟨.bl, (fun ys e => by cases e), rfl, by simp [dpD]⟩
end Pdl
namespace Pdl
open PySem L2 PyProof.Rows
theorem eqv_bl : ∀ (a b : List Bool), PyData.eqvAll (toPyL (a.map D.bl)) (toPyL (b.map D.bl)) = decide (a = b)
  | [], [] => rfl
  | [], _ :: _ => rfl
  | _ :: _, [] => rfl
  | x :: a, y :: b => by
    show (PyData.eqv (toPy (.bl x)) (toPy (.bl y)) && PyData.eqvAll (toPyL (a.map D.bl)) (toPyL (b.map D.bl))) = _
    rw [eqv_bl a b]
    have e : PyData.eqv (toPy (.bl x)) (toPy (.bl y)) = decide (x = y) := by cases x <;> cases y <;> decide +kernel
    rw [e, ← Bool.decide_and]
    exact decide_eq_decide.mpr (by simp)
section
variable {X : Cx}
theorem ok_bls (a : List Bool) : okD (.lst (a.map D.bl)) = true := by
  rw [okD]
  exact okL_of fun x hx => by
    obtain ⟨b, _, rfl⟩ := List.mem_map.mp hx
    rfl
theorem dp_bls (a : List Bool) : dpD (.lst (a.map D.bl)) ≤ 64 := by
  rw [dpD]
  have := dpL_le (n := 0) (xs := a.map D.bl) fun x hx => by
    obtain ⟨b, _, rfl⟩ := List.mem_map.mp hx
    simp [dpD]
  omega
end
section
variable {X : Cx}
theorem call_reprB : CallR X (.builtin "repr") (fun xs H Q => ∃ b, xs = [.bl b] ∧ Q (.str (if b = true then "True" else "False")) H) := by
  intro pins s σ H xs us Q I r h
  obtain ⟨b, rfl, q⟩ := h
  cases r with
  | cons r1 rs =>
    cases rs
    cases r1
    exact PySem.P.repr_of_bool ⟨.str _, H, I.tok _, ⟨_, rfl⟩, q⟩
theorem cd_reprB {b : Bool} : CallD X (.builtin "repr") [.bl b] (.str (if b = true then "True" else "False")) := .of call_reprB fun vs H q m hm h1 k => by
  obtain ⟨v, rfl, r⟩ := h1.one
  cases r
  exact ⟨b, rfl, k _ H (Sub.refl H) (.str _)⟩
end
end Pdl
namespace Pdl
open PySem L2 PyProof.Rows
theorem od_notB {X : Cx} {a b : Bool} : OpD X (compareOp .IsNot) (.bl a) (.bl b) (.bl (!decide (a = b))) := .of op_notBl fun x y H q m _ h1 h2 k => by
  cases h1; cases h2
  exact ⟨a, b, rfl, rfl, k _ H (Sub.refl H) (.bl _)⟩
end Pdl
namespace Pdl
open PySem L2 PyProof.Rows
theorem pr2_cases {a b c d : Nat} (h : pr2 [a, b] = pr2 [c, d]) : (a = c ∧ b = d) ∨ (a = d ∧ b = c) := by
  have h : (if b < a then [b, a] else [a, b]) = if d < c then [d, c] else [c, d] := h
  split at h <;> split at h <;> simp at h <;> omega
structure IsWy (ls x : List (List Nat)) : Prop where
  two : Two x
  pr : x.map pr2 = ls
  rk : Ranked x
theorem Ranked.no2 {x : List (List Nat)} (h : Ranked x) {u v : Nat} (h1 : [u, v] ∈ x) (h2 : [v, u] ∈ x) : False := by
  obtain ⟨r, hr⟩ := h
  have a := hr _ _ h1
  have b := hr _ _ h2
  omega
section
variable {ls x y : List (List Nat)}
theorem IsWy.one (h : IsWy ls x) {u v : Nat} (hm : pr2 [u, v] ∈ ls) : [u, v] ∈ x ∨ [v, u] ∈ x := by
  rw [← h.pr] at hm
  obtain ⟨l, hl, e⟩ := List.mem_map.mp hm
  obtain ⟨a, b, rfl⟩ := h.two l hl
  rcases pr2_cases e with ⟨rfl, rfl⟩ | ⟨rfl, rfl⟩
  · exact .inl hl
  · exact .inr hl
theorem IsWy.ext (hx : IsWy ls x) (hy : IsWy ls y) (h : ∀ u v, [u, v] ∈ x → [u, v] ∈ y) : x = y := by
  refine List.ext_getElem? fun i => ?_
  have e : (x.map pr2)[i]? = (y.map pr2)[i]? := by rw [hx.pr, hy.pr]
  rw [List.getElem?_map, List.getElem?_map] at e
  cases ex : x[i]? with
  | none =>
    rw [ex] at e
    cases ey : y[i]? with
    | none => rfl
    | some l =>
      rw [ey] at e
      cases e
  | some l =>
    rw [ex] at e
    cases ey : y[i]? with
    | none =>
      rw [ey] at e
      cases e
    | some l' =>
      rw [ey] at e
      have e : pr2 l = pr2 l' := Option.some.inj e
      have hl := List.mem_of_getElem? ex
      have hl' := List.mem_of_getElem? ey
      obtain ⟨a, b, rfl⟩ := hx.two l hl
      obtain ⟨c, d, rfl⟩ := hy.two l' hl'
      rcases pr2_cases e with ⟨rfl, rfl⟩ | ⟨rfl, rfl⟩
      · rfl
      · exact (hy.rk.no2 (h _ _ hl) hl').elim
end
section
variable {G L : List (List Nat)} {a b c d : Nat} {w x : List (List Nat)}
structure Less (G L : List (List Nat)) (a b : Nat) : Prop where
  hg : Ties G
  hl : Ties L
  lt : a < b
  tie : [a, b] ∈ G
  mem : ∀ t, t ∈ L ↔ t ∈ G ∧ t ≠ [a, b]
theorem Less.sub (H : Less G L a b) : ∀ t ∈ L, t ∈ G := fun t h => ((H.mem t).mp h).1
theorem Less.pr (H : Less G L a b) (hc : pr2 [c, d] = [a, b]) : pr2 [c, d] ∉ L := fun h => ((H.mem _).mp h).2 hc
end
end Pdl
namespace Pdl
open PySem L2 PyProof.Rows
/-- ties hang places together -/
def AllC (L : List (List Nat)) (w : List Nat) : Prop := ∀ C : Nat → Prop, (∀ u v, [u, v] ∈ L → (C u ↔ C v)) → ∀ x ∈ w, ∀ y ∈ w, (C x ↔ C y)
end Pdl
namespace Pdl
open PySem L2 PyProof.Rows
def lessL (ls : List (List Nat)) (a b : Nat) : List (List Nat) := ls.filter fun t => decide (t ≠ [a, b])
/-- places met over ties, from the first one -/
structure MetI (L : List (List Nat)) (w F : List Nat) : Prop where
  nd : F.Nodup
  sub : ∀ x ∈ F, x ∈ w
  h0 : Pdl.hd w ∈ F
  cl : ∀ C : Nat → Prop, (∀ u v, [u, v] ∈ L → (C u ↔ C v)) → ∀ x ∈ F, (C x ↔ C (Pdl.hd w))
theorem MetI.all {L : List (List Nat)} {w F : List Nat} (h : MetI L w F) (hl : F.length = w.length) (hw : w.Nodup) : AllC L w := fun C hC => by
  have hin : ∀ x ∈ w, x ∈ F := fun x hx => Decidable.byContradiction fun hn => by
    have := nodup_len (l := x :: F) (m := w) (List.nodup_cons.mpr ⟨hn, h.nd⟩) fun y hy => by
      rcases List.mem_cons.mp hy with rfl | z
      · exact hx
      · exact h.sub y z
    simp at this
    omega
  intro x hx y hy
  exact (h.cl C hC x (hin x hx)).trans (h.cl C hC y (hin y hy)).symm
end Pdl
namespace Pdl
open PySem L2 PyProof.Rows
theorem exV_at {P : Program} {w : World} {H : Hp} {h : Heap} {a C : Addr} {d : Option Addr} (hok : HOk P w H h) (he : H a = some (exV a C d)) : ∃ oe, h.get? a = some oe ∧ Zc (.ref C) d oe ∧ ∃ vs, oe.data = .fields vs := by
  have := hok a _ he
  exact this.1
section
variable {X : Cx} {pins : List (Addr × Obj)} {σ : L2.St} {H : Hp} {s : Shared}
theorem inv_heap {s2 : Shared} (J : Inv X pins σ H s) (hh : s2.heap = s.heap) (ho : s2.os = s.os) (hb : AllBare s2.gens) : Inv X pins σ H s2 := by
  obtain ⟨hp2, g2, d2, t2, os2⟩ := s2
  obtain ⟨hp, g, d, t, os⟩ := s
  dsimp only at hh ho hb
  subst hh ho
  exact ⟨J.ok, J.os, hb, J.base, J.loc, J.cell, J.free, J.freeC, J.pin, J.hok, J.len⟩
/-- what makes an exception makes a value -/
theorem pe_mk {e : Expr} {t : L2.St → Hp → XK → Prop} (h : PMk X e t) : PE X e (fun σ H Q => t σ H fun cls d H1 => ∃ C, cls = .ref C ∧ ∀ a, H1 a = none → Q (.ref a) (upd H1 a (exV a C d))) := by
  refine ⟨fun pins s σ H Q I q => wpAny_mono (h pins s σ H _ I q) (fun u s1 hu => ?_) fun _ _ x => x⟩
  obtain ⟨a, oe, vs, sI, H1, cls, d, rfl, J, gs, ga, ho, hz, hd, h1, na, hos, hbare, hr, C, rfl, hq⟩ := hu
  have J2 : Inv X pins σ (upd H1 a (exV a C d)) { sI with heap := s1.heap, toks := s1.toks } := J.laidN gs ga na (exV_ok ho hz ⟨vs, hd⟩)
  exact ⟨.ref a, _, inv_heap J2 rfl hos hbare, rfl, hq a na⟩
end
section
variable {X : Cx} {μ : Md} {Γ : En} {Q : QE} {x : Str} {p pos : Pos} {e : Expr}
theorem Fw.exc1 {H1 Hd : Hp} {a dx C : Addr} {f : Str} {v : V} {d : D} {μ : Md} {Γ1 : En} {σ : L2.St} {K : PySem.W.Frag} (R : Rel K μ H1 σ Γ1) (hsub : Sub H1 Hd) (hdx : H1 dx = none) (hD : Hd dx = some (.xd [(f, v)])) (ha : Hd a = none) (rv : Rp K (Vw μ Γ1 H1) v d) :
    Fw Γ1.c Γ1.c H1 (upd Hd a (exV a C (some dx))) ∧ Rel K μ (upd Hd a (exV a C (some dx))) σ Γ1 ∧ Rp K (Vw μ Γ1 (upd Hd a (exV a C (some dx)))) (.ref a) (.exc C [(f, d)]) := by
  have R2 := R.more hsub
  have hs2 : Sub Hd (upd Hd a (exV a C (some dx))) := sub_upd ha
  have R3 := R2.more hs2
  have hne : dx ≠ a := fun z => by rw [z, ha] at hD; cases hD
  refine ⟨Fw.of_sub (hsub.trans hs2), R3, .exc1 (dx := dx) (fs := [(f, v)]) (hid_upd (R2.fresh ha)) (hid_some.mpr ⟨R.fresh hdx, by rw [upd_ne hne]; exact hD⟩) (.cons ?_ .nil)⟩
  exact (rv.mono (Fw.of_sub (c := Γ1.c) hsub).sub).mono (Fw.of_sub (c := Γ1.c) hs2).sub
/-- C(), an own error without own __init__, as a value -/
theorem xe_exc0 {C : Addr} (T : Err0 (wdX X) x C) (hg : Gl X x) (h : Q (.exc C []) Γ) (hdb : (x == ("__debug__" : Str)) = false := by decide) : XE X μ (.Call (.Name x p) [] [] pos) Γ Q := by
  obtain ⟨bmB, B, newId, initId, F, q⟩ := T.ex
  refine PE.imp (pe_mk (pmk_own0 F q T.mg T.kC (raises_own T.exC T.tyC) hg hdb)) fun σ H qq ⟨R, k⟩ => ⟨C, rfl, fun a ha => ?_⟩
  have hs2 : Sub H (upd H a (exV a C none)) := sub_upd ha
  exact k _ _ _ Γ rfl (Fw.of_sub hs2) (R.more hs2) (.exc0 (hid_upd (R.fresh ha))) h
end
end Pdl
namespace Pdl
open PySem L2 PyProof.Rows
/-- an own error class: what isinstance and attributes ask of it -/
structure ExK (K : PySem.W.Frag) (C : Addr) : Prop where
  cl : (PySem.W.clsIn K C).isSome = true
  xf : XfC K C
  ha : PySem.W.findIn K (.ref C) "__class__" = some (some (.builtin "object.__class__"))
  hn : PySem.W.specialIn K (.builtin "object.__class__") "__get__" = some (some (.builtin "getset_descriptor.__get__"))
  ht : PySem.W.takesIn K (.builtin "object.__class__") = some true
  hm : PySem.W.mroIn K C (.type "object") = some true
def exkB (K : PySem.W.Frag) (C : Addr) : Bool := (PySem.W.clsIn K C).isSome && (xfB K C && (decide (PySem.W.findIn K (.ref C) "__class__" = some (some (.builtin "object.__class__"))) && (decide (PySem.W.specialIn K (.builtin "object.__class__") "__get__" = some (some (.builtin "getset_descriptor.__get__"))) &&
  (decide (PySem.W.takesIn K (.builtin "object.__class__") = some true) && decide (PySem.W.mroIn K C (.type "object") = some true)))))
theorem exkB_ok {K : PySem.W.Frag} {C : Addr} (h : exkB K C = true) : ExK K C := by
  obtain ⟨h1, h⟩ := Bool.and_eq_true_iff.mp h
  obtain ⟨h2, h⟩ := Bool.and_eq_true_iff.mp h
  obtain ⟨h3, h⟩ := Bool.and_eq_true_iff.mp h
  obtain ⟨h4, h⟩ := Bool.and_eq_true_iff.mp h
  obtain ⟨h5, h6⟩ := Bool.and_eq_true_iff.mp h
  exact ⟨h1, xfB_ok h2, of_decide_eq_true h3, of_decide_eq_true h4, of_decide_eq_true h5, of_decide_eq_true h6⟩
theorem exc_inst {P : Program} {w : World} {H : Hp} {h : Heap} {a C : Addr} {d : Option Addr} (hok : HOk P w H h) (he : H a = some (exV a C d)) (hd : ∀ dx, d = some dx → ∃ od, h.get? dx = some od) : ∃ oe od, PySem.W.InstAt h a oe C od := by
  obtain ⟨oe, hg, ⟨hc, hdd⟩, vs, hv⟩ := exV_at hok he
  cases d with
  | none =>
    refine ⟨oe, none, hg, hc, by unfold PySem.W.notCls; rw [hv] <;> rfl, ?_⟩
    rw [hdd]
    trivial
  | some dx =>
    obtain ⟨od, ho⟩ := hd dx rfl
    refine ⟨oe, some od, hg, hc, by unfold PySem.W.notCls; rw [hv] <;> rfl, ?_⟩
    rw [hdd]
    exact ho
section
variable {X : Cx}
theorem cd_isiE {C : Addr} {fs : List (Str × D)} {y : D} {u : Value} {r : Bool} (T : ExK X.K C) (hc : ClD y u) (h : PySem.W.kitOne X.K (.ref C) u = some r) : CallD X (.builtin "isinstance") [.exc C fs, y] (.bl r) := fun pins s σ H xs us q I rv ⟨m, hm, h1, k⟩ => by
  obtain ⟨v, w, rfl, r1, r2⟩ := h1.two
  obtain ⟨uu, uw, rfl, ru, rw'⟩ : ∃ uu uw, us = [uu, uw] ∧ RelV v uu ∧ RelV w uw := by
    cases rv with
    | cons ra rb =>
      cases rb with
      | cons rb rc => cases rc; exact ⟨_, _, rfl, ra, rb⟩
  have key : ∀ (a : Addr) (d : Option Addr), v = .ref a → (hid m H) a = some (exV a C d) → (∀ dx, d = some dx → ∃ fs', H dx = some (.xd fs')) → wpAny (model X.prog X.w) X.A (call (.builtin "isinstance") [uu, uw]) (EP X pins σ q) X.xe s := fun a d e1 hg hd => by
    subst e1
    obtain rfl : uu = Value.ref a := ru
    obtain ⟨oe, od, J⟩ := exc_inst I.hok (hid_sub _ _ _ _ hg) fun dx e => by
      obtain ⟨fs', hx⟩ := hd dx e
      have hx : ObjOk X.prog X.w H s.heap dx (.xd fs') := I.hok dx _ hx
      obtain ⟨mA, ⟨o, es, ep, e1, _⟩, _⟩ := hx
      exact ⟨o, e1⟩
    have eu : uw = u := by
      cases hc with
      | ty => cases r2; exact rw'
      | own => cases r2; exact rw'
    subst eu
    exact PySem.W.kia_one (PySem.W.kitx_exc T.cl T.xf.ga T.xf.gg T.xf.exC T.ha T.hn T.ht T.hm) I.kIn J h (fun z => nomatch z) fun tk => ⟨.bl r, H, I.kept (t' := tk) fun _ _ z => z, rfl, k _ H (Sub.refl H) (.bl r)⟩
  cases r1 with
  | exc0 hg => exact key _ none rfl hg fun dx e => by cases e
  | exc1 hg hx _ => exact key _ _ rfl hg fun dx e => by cases e; exact ⟨_, hid_sub _ _ _ _ hx⟩
end
section
variable {X : Cx} {o : Expr} {te : TE} {pos : Pos} {f : Str}
theorem pe_exf (he : PE X o te) (hb : attributeBase o f X.env (eval o X.env) = eval o X.env := by rfl) :
    PE X (.Attribute o f pos) (fun σ H Q => te σ H fun x H1 => ∃ (a C dd : Addr) (fs : List (Str × V)) (v : V), x = .ref a ∧ XfC X.K C ∧ PySem.W.findIn X.K (.ref C) f = some none ∧ H1 a = some (exV a C (some dd)) ∧ H1 dd = some (.xd fs) ∧ fs.lookup f = some v ∧ Q v H1) := by
  refine ⟨fun pins s σ H Q I h => ?_⟩
  refine attr_of hb (thn (he.run pins s σ H _ I h) fun u s1 hh => ?_)
  obtain ⟨x, H1, I1, rx, a, C, dd, fs, v, ex, T, hno, ea, ed, l, q⟩ := hh
  subst ex
  obtain rfl : u = Value.ref a := rx
  obtain ⟨oe, ha, ⟨hz1, hz2⟩, vs, hd⟩ := exV_at I1.hok ea
  have hx : ObjOk X.prog X.w H1 s1.heap dd (.xd fs) := I1.hok dd _ ed
  obtain ⟨mA, hns, hr⟩ := hx
  obtain ⟨od, ho, hl⟩ := lookIn_ns hns
  obtain ⟨u, hu, ru⟩ := RelO.some_of (v := v) (o := mA f) (by rw [← l]; exact hr f)
  have J : PySem.W.InstAt s1.heap a oe C (some od) := ⟨ha, hz1, by unfold PySem.W.notCls; rw [hd] <;> rfl, by rw [hz2]; exact ho⟩
  exact HandSPX.exc_get I1.kIn J T.ga T.gg T.exC (PySem.W.findObj_own T.hdC hno rfl (by rw [hl, hu])) (handed_of ru) ⟨v, H1, I1.tok _, ru, q⟩
end
section
variable {X : Cx} {μ : Md} {Γ : En} {Q : QE} {o : Expr} {pos : Pos} {f : Str}
/-- e.f, e an exception as a value -/
theorem xe_exf (h : XE X μ o Γ fun x Γ1 => ∃ C fs d, x = .exc C fs ∧ XfC X.K C ∧ PySem.W.findIn X.K (.ref C) f = some none ∧ fs.lookup f = some d ∧ Q d Γ1) (hb : attributeBase o f X.env (eval o X.env) = eval o X.env := by rfl) : XE X μ (.Attribute o f pos) Γ Q :=
  PE.imp (pe_exf h hb) fun σ H q ⟨R, k⟩ => ⟨R, fun v H1 x Γ1 s1 f1 R1 r1 ⟨C, fs, d, hx, T, hno, hl, hq⟩ => by
    subst hx
    cases r1 with
    | exc0 hg => cases hl
    | @exc1 a _ dx vs _ hg hd rf =>
      obtain ⟨v, hv, rv⟩ := rpF_lookup rf hl
      exact ⟨a, C, dx, vs, v, rfl, T, hno, hid_sub _ _ _ _ hg, hid_sub _ _ _ _ hd, hv, k v H1 d Γ1 s1 f1 R1 rv hq⟩⟩
end
end Pdl
namespace Pdl
open PySem
/-- own classes, then the base's row -/
def refsT (tl : List Value) : List Value → Bool
  | .ref _ :: r => refsT tl r
  | l => l == tl
theorem refsT_cases (tl : List Value) : ∀ l : List Value, refsT tl l = true → (∃ c r, l = .ref c :: r ∧ refsT tl r = true) ∨ l = tl := by
  intro l e
  unfold refsT at e
  split at e
  · exact .inl ⟨_, _, rfl, e⟩
  · exact .inr (beq_iff_eq.mp e)
theorem refsT_contains {tl : List Value} (X : String) : ∀ l : List Value, refsT tl l = true → l.contains (.type X) = tl.contains (.type X) := by
  intro l
  induction l with
  | nil =>
    intro e
    rcases refsT_cases tl [] e with ⟨c, r, q, _⟩ | q
    · cases q
    · rw [q]
  | cons a r ih =>
    intro e
    rcases refsT_cases tl (a :: r) e with ⟨c, r', q, h⟩ | q
    · obtain ⟨rfl, rfl⟩ := List.cons.inj q
      rw [List.contains_cons, ih h]; rfl
    · rw [q]
end Pdl
namespace PySem
namespace HandSPX
open Builtin Builtin.ObjectAttr
theorem refsT_pass {tl : List Value} {B : String} (SF : StoreFacts B tl "object.__setattr__" "object") (self : Value) : ∀ l : List Value, Pdl.refsT tl l = true → refuseLoop self "__setattr__" l = pure () := by
  intro l
  induction l with
  | nil =>
    intro e
    rcases Pdl.refsT_cases tl [] e with ⟨c, r, q, _⟩ | q
    · cases q
    · rw [q]; exact SF.passes self
  | cons a r ih =>
    intro e
    rcases Pdl.refsT_cases tl (a :: r) e with ⟨c, r', q, h⟩ | q
    · obtain ⟨rfl, rfl⟩ := List.cons.inj q
      rw [refuseLoop_ref]; exact ih h
    · rw [q]; exact SF.passes self
section
variable {prog : Program} {w : World} {A : Around} {hp : Heap} {g : Array GenState} {d : Drawn} {t : Nat} {os : OsState} {R : Result → Shared → Prop}
theorem exc_osaT {K : W.Frag} {name : Str} {tk : Tok} {v : Value} {x C : Addr} {fv : Array Value} {cd : ClassData} {tl : List Value} {B : String} (SF0 : StoreFacts B tl "object.__setattr__" "object")
    (X : K.In hp) (hx : hp.get? x = some { cls := .ref C, data := .fields fv }) (hcd : W.clsIn K C = some cd) (hm : Pdl.refsT tl cd.mro = true) (hme : cd.mro.isEmpty = false) (hh : cd.hasDict = true) (ha : W.findIn K (.ref C) name = some none)
    (hq : ∀ h' tk' dx, (∀ b o, b ≠ x → hp.get? b = some o → h'.get? b = some o) → hp.objs.size ≤ dx → dx ≠ x → h'.get? x = some { cls := .ref C, dict := some dx, data := .fields fv } →
      h'.Ns1 dx (fun y => if y = name then some v else none) → R (.ok (.ret .none)) ⟨h', g, d, tk', os⟩) :
    codeAny (model prog w) A (.call (.builtin "object.__setattr__") ⟨[.ref x, .str name tk, v], []⟩) R ⟨hp, g, d, t, os⟩ := by
  have I : W.InstAt hp x { cls := .ref C, data := .fields fv } C none := ⟨hx, rfl, rfl, trivial⟩
  have SF := F.store_object
  have hob : cd.mro.contains (.type "object") = true := (Pdl.refsT_contains "object" _ hm).trans SF0.hasOwner
  have hxs : x ≠ hp.objs.size := Nat.ne_of_lt (Heap.lt_size hx)
  have sub : W.Looks (model prog w) hp (isInstance (.ref x) (.type "object")) true := I.type.andThen (W.looks_mroIn X (by unfold W.mroIn; rw [hcd, Option.bind_some, if_neg (by rw [hme]; decide), hob]))
  refine codeAny_call_builtin SF.slot.plain SF.entry (@W.check_slot (model prog w) _ _ ⟨hp, g, d, t, os⟩ "object.__setattr__" "object" "__setattr__" (.ref x) [.str name tk, v] [] _ SF.kind SF.split sub (SF.args (.ref x) (.str name tk) v) ?_)
  have hmr : W.Looks (model prog w) hp (mroOf (.ref C)) cd.mro := (W.looks_clsIn X hcd).andThen .now
  have L3 : W.Looks (model prog w) hp (storeTaker? none) none := .now
  have hcls : W.Looks (model prog w) hp (classData C) cd := W.looks_clsIn X hcd
  rw [W.osa_eq, refuse_eq]
  refine wpAny_bind (wpAny_bind (I.type.at (wpAny_bind (hmr.at ?_))))
  rw [refsT_pass SF0 _ _ hm]
  refine wpAny_pure (wpAny_bind (I.type.at (wpAny_bind ((W.looks_findIn X ha).at (wpAny_bind (L3.at ?_))))))
  show wpAny _ _ (storeInOwnDict (.ref x) (.ref C) (.str name tk) name v false) _ _ _
  obtain ⟨nm, bs, mro, ns, qn, hd, sn, sb, ab, col, del⟩ := cd
  dsimp only at hh
  subst hh
  unfold storeInOwnDict ownDictForStores
  repeat (first | with_reducible refine store_in_new ?_ ?_ | with_reducible refine wpAny_loadPart_at hx ?_ | with_reducible refine hcls.at ?_ | wp_step)
  · exact ⟨_, #[], _, (Heap.get?_update_ne _ _ _ _ hxs.symm).trans (Heap.get?_push_at rfl rfl), rfl, fun e he => absurd he (by simp), fun _ => rfl⟩
  · intro h' tk' hn' hs
    have hx₁ : (hp.push { cls := .type "dict", data := .dict #[] }).get? x = some { cls := .ref C, data := .fields fv } := Heap.get?_push_of_some _ hx
    refine hq h' tk' hp.objs.size (fun b o hb ho => ?_) (Nat.le_refl _) hxs.symm ?_ hn'
    · exact (hs.2 b (Nat.ne_of_lt (Heap.lt_size ho))).trans ((Heap.get?_update_ne _ _ _ _ hb).trans (Heap.get?_push_of_some _ ho))
    · exact (hs.2 x hxs).trans (Heap.get?_update_self _ hx₁ rfl)
end
end HandSPX
end PySem
namespace Pdl
open PySem L2 PyProof.Rows
structure OexT (K : PySem.W.Frag) (C : Addr) : Prop where
  cls : ∃ (B newId initId : String) (tl : List Value), ExcBaseFacts B newId initId tl ∧ StoreFacts B tl "object.__setattr__" "object" ∧
    ∃ nm q N bs bm sn sub ab col dd k0 k1 k2 k3 k5, K.lookup C = some (excClassObj nm q C N bs bm true sn sub ab col dd k0 k1 k2 k3 k5 newId) ∧ refsT tl bm = true
  sa : PySem.W.findIn K (.ref C) "__setattr__" = some (some (.builtin "object.__setattr__"))
  exC : PySem.W.subIn K (.ref C) (.type "BaseException") = some true
  tyC : PySem.W.typeIn K (.ref C) = some (.type "type")
  kC : PySem.W.keepIn K (.ref C) = true
section
variable {X : Cx} {pins : List (Addr × Obj)} {σ : L2.St} {H : Hp} {s : Shared} {A : Around} {E : Value → Shared → Prop} {a C : Addr} {f : Str} {y : V} {u : Value} {Q : Unit → Shared → Prop}
/-- self.f = y, the first one -/
theorem ost_newT (T : OexT X.K C) (I : Inv X pins σ H s) (e : H a = some (exo a C none)) (hno : PySem.W.findIn X.K (.ref C) f = some none) (ry : RelV y u)
    (h : ∀ dx s', H dx = none → dx ≠ a → Inv X pins σ (upd (upd H dx (exd dx [(f, y)])) a (exo a C (some dx))) s' → Q () s') : wpAny (model X.prog X.w) A (setAttr (.ref a) f u) Q E s := by
  obtain ⟨B, newId, initId, tl, F, SF, nm, q, N, bs, bm, sn, sub, ab, col, dd, k0, k1, k2, k3, k5, hC, hbm⟩ := T.cls
  have hcl : PySem.W.clsIn X.K C = some { name := nm, bases := bs, mro := .ref C :: bm, ns := N, qualname := q, hasDict := true, slotNames := sn, subclasses := sub, abstract := ab, collection := col, hasDel := false } := by unfold PySem.W.clsIn; rw [hC] <;> rfl
  obtain ⟨t1, ho⟩ := exo_at I.hok e
  obtain ⟨hp, g, d, t, os⟩ := s
  refine PySem.W.set_plain I.kIn (ox := { cls := .ref C, dict := none, data := .fields #[.ref t1, .none, .none, .none, .bool false, .none] }) (od := none) ⟨ho, rfl, rfl, trivial⟩ T.sa ?_
  refine PySem.HandSPX.exc_osaT SF I.kIn ho hcl (show refsT tl (.ref C :: bm) = true from hbm) rfl rfl hno (fun h' tk' dx k dn dne hx hn => ?_)
  have hnd : H dx = none := I.hok.fresh dn
  have nd : ∀ {b : Addr} {o : Obj}, hp.get? b = some o → b ≠ dx := fun {b o} q => Nat.ne_of_lt (Nat.lt_of_lt_of_le (Heap.lt_size q) dn)
  have na : ∀ {b : Addr}, H b = none → b ≠ a := fun {b} n z => by
    rw [z, e] at n
    cases n
  have Un1 : Un X.fs [] H (upd (upd H dx (exd dx [(f, y)])) a (exo a C (some dx))) hp h' := {
    keep := fun b o q n _ _ => k b o (na n) q
    slot := fun b o q n _ _ => ⟨o.slots, k b o (na n) q⟩
    free := fun b o q n _ => by rw [upd_ne (na n), upd_ne (nd q)]; exact n
    there := fun b o q _ => by
      by_cases hb : b = a
      · exact ⟨_, by rw [hb]; exact hx⟩
      · exact ⟨o, k b o hb q⟩
    tups := fun b xs q => by rw [upd_ne (at_ne e q exo_tup), upd_ne (ne_of_none q hnd)]; exact q
    frzs := fun b o v q => by rw [upd_ne (at_ne e q exo_frz), upd_ne (ne_of_none q hnd)]; exact q
    tbls := fun b ps q => ⟨#[], by rw [upd_ne (at_ne e q exo_tbl), upd_ne (ne_of_none q hnd), q]; simp⟩ }
  refine h dx _ hnd dne (I.un (t' := tk') Un1 fun b o q => ?_)
  by_cases hb : b = a
  · subst hb
    rw [upd_same] at q
    cases q
    exact exo_ok hx
  · rw [upd_ne hb] at q
    by_cases hd : b = dx
    · subst hd
      rw [upd_same] at q
      cases q
      exact exd_ok hn (relO_put (fs := []) ry fun g => True.intro)
    · rw [upd_ne hd] at q
      exact (I.hok b o q).stay (fun c v hc z => k c v (by
          rcases hc with hc | hc
          · rw [hc]
            exact hb
          · exact at_ne e hc exo_own) z)
        (fun c hc => by rw [upd_ne (at_ne e hc exo_own), upd_ne (ne_of_none hc hnd)]; exact hc) (fun c xs hc => by rw [upd_ne (at_ne e hc exo_tup), upd_ne (ne_of_none hc hnd)]; exact hc)
end
/-- self.f = e, the first field -/
def tOstT (K : PySem.W.Frag) (f : Str) (to te : TE) : TS := fun D σ H => te σ H fun y H1 => to σ H1 fun x H2 => ∃ a C : Addr, x = .ref a ∧ OexT K C ∧ PySem.W.findIn K (.ref C) f = some none ∧
  H2 a = some (exo a C none) ∧ ∀ dx, H2 dx = none → dx ≠ a → D.nx σ (upd (upd H2 dx (exd dx [(f, y)])) a (exo a C (some dx)))
theorem ps_ostT {X : Cx} {o e : Expr} {to te : TE} {f : Str} {p' pos : Pos} (ho : PE X o to) (he : PE X e te) (hs : swapsWith e (some (.Attribute o f p')) pos.line X.env = pure false := by rfl) : PS X (.Assign [.Attribute o f p'] e pos) (tOstT X.K f to te) := by
  refine ⟨fun pins s σ H D I h => ?_⟩
  refine plainObj_wpAny_Assign_Attribute (thn (he.run pins s σ H _ I h) fun v s1 ⟨y, H1, I1, r1, q1⟩ => thn (ho.run pins s1 σ H1 _ I1 q1) fun u s2 ⟨x, H2, I2, r2, a, C, ex, T, hno, ea, q⟩ => ?_) hs
  subst ex
  obtain rfl : u = Value.ref a := r2
  exact ost_newT T I2 ea hno r1 fun dx s' n ne J => ⟨σ, _, J, q dx n ne⟩
def spGvT (K : PySem.W.Frag) (f : Str) : Sp := fun vs H Q _ => ∃ (a C : Addr) (y : V), vs = [.ref a, y] ∧ OexT K C ∧ PySem.W.findIn K (.ref C) f = some none ∧ H a = some (exo a C none) ∧
  ∀ dx, H dx = none → dx ≠ a → Q .non (upd (upd H dx (exd dx [(f, y)])) a (exo a C (some dx)))
theorem ini_okT {P : Program} {w : World} {K : PySem.W.Frag} {mg : Str → Option Value} {base : Heap} {qual f sf : Str} {st : Stmt} {fI : Addr} {fd : FuncData} {N ps : List Str} {p1 p2 p3 p4 : Pos} (F : Fun K "__init__" qual st fI fd) (sc : FnScope N ps (defScope st)) (hN : N = [sf, f]) (hps : ps.length = 2)
    (hb : defBody st = [.Assign [.Attribute (.Name sf p1) f p2] (.Name f p3) p4]) (hl1 : Vis (defScope st) sf) (hl2 : Vis (defScope st) f)
    (d1 : (sf == ("__debug__" : Str)) = false) (d2 : (sf == ("__classdict__" : Str)) = false) (d3 : (f == ("__debug__" : Str)) = false) (d4 : (f == ("__classdict__" : Str)) = false)
    (sw : ∀ X : Cx, swapsWith (.Name f p3) (some (.Attribute (.Name sf p1) f p2)) p4.line X.env = pure false) : FnOk P w K mg base CX0 1 fI fd ps (spGvT K f) := by
  refine F.ok sc (fun vs H Q E h => ?_) (fun cdv A outer s H vs Q E hr h => ?_)
  · obtain ⟨a, C, y, rfl, _⟩ := h
    rw [hps]
    rfl
  · obtain ⟨a, C, y, rfl, T, hno, ha, k⟩ := h
    rw [hb, hN]
    refine ⟨_, pss_one (ps_ostT (pe_var (i := 0) (x := sf) rfl hl1 d1 d2) (pe_var (i := 1) (x := f) rfl hl2 d3 d4) (sw _)), ?_⟩
    exact ⟨y, rfl, .ref a, rfl, a, C, rfl, T, hno, ha, fun dx h1 h2 => k dx h1 h2⟩
/-- an own error with one field, of any base -/
structure ErrT (T : Wd) (x : Str) (C : Addr) (f : Str) : Prop where
  oex : OexT T.K C
  mg : T.mg x = some (.ref C)
  no : PySem.W.findIn T.K (.ref C) f = some none
  ini : ∃ (fI : Addr) (fd : FuncData) (ps : List Str), PySem.W.findIn T.K (.ref C) "__init__" = some (some (.ref fI)) ∧ PySem.W.typeIn T.K (.ref fI) = some (.type "function") ∧ FnOk T.P T.w T.K T.mg T.base CX0 1 fI fd ps (spGvT T.K f) ∧ Binds T.K fd ps []
section
variable {X : Cx} {sp : Sp} {ta : TA} {x : Str} {C fI : Addr} {k : Nat} {fd : FuncData} {ps : List Str} {ds : List Value} {dvs : List V} {e : Expr} {es : List Expr} {p pos : Pos}
theorem pmk_oexT {CX : CXT} (T : OexT X.K C) (iC : PySem.W.findIn X.K (.ref C) "__init__" = some (some (.ref fI))) (tI : PySem.W.typeIn X.K (.ref fI) = some (.type "function"))
    (F1 : FnOk X.prog X.w X.K X.mg X.base CX k fI fd ps sp) (hr : Room (k + 1) X.A) (hb : Binds X.K fd ps ds) (hd : Vals dvs ds) (hx : Passes CX X (fun _ _ _ => False)) (hg : Gl X x) (hm : X.mg x = some (.ref C)) (ha : PA X (e :: es) ta)
    (hdb : (x == ("__debug__" : Str)) = false := by decide) (he : starEach (e :: es) X.env = (false, eval e X.env) :: starEach es X.env := by rfl) (hpl : (backTo pos (starEach es X.env)).any (·.1) = false := by rfl) :
    PMk X (.Call (.Name x p) (e :: es) [] pos) (tMkO C sp dvs ta) := by
  intro pins s σ H Q I h
  obtain ⟨B, newId, initId, tl, F, SF, nm, q, N, bs, bm, sn, sub, ab, col, dd, k0, k1, k2, k3, k5, hC, hbm⟩ := T.cls
  refine wpAny_Call_Name_kw (ld_glob I hg hm ?_ hdb)
  refine PySem.W.callWith_K (h₀ := X.base) I.ok.mod.kin T.kC (thn (ha.run pos pins s σ H _ I h) fun us s1 ⟨vs, H1, I1, r1, hz, q1⟩ => ⟨I1.kIn, ?_⟩) he hpl
  show wpAny _ _ (call (.ref C) us) _ _ _
  obtain ⟨hp, g, dr, tk, os⟩ := s1
  have hsz : hp.objs.size ≤ hp.objs.size + 1 := Nat.le_succ _
  have hn : H1 (hp.objs.size + 1) = none := I1.hok.fresh hsz
  have hq := q1 (hp.objs.size + 1) hn
  have kk : ∀ b o, hp.get? b = some o → ((hp.push (PySem.W.kdv_tup us)).push (PySem.HandSPX.excO C hp.objs.size)).get? b = some o := fun b o e => Heap.get?_push_of_some _ (Heap.get?_push_of_some _ e)
  have hget : ((hp.push (PySem.W.kdv_tup us)).push (PySem.HandSPX.excO C hp.objs.size)).get? (hp.objs.size + 1) = some (PySem.HandSPX.excO C hp.objs.size) := by heap_get
  have I2 : Inv X pins σ (upd H1 (hp.objs.size + 1) (exo (hp.objs.size + 1) C none)) ⟨(hp.push (PySem.W.kdv_tup us)).push (PySem.HandSPX.excO C hp.objs.size), g, dr, tk, os⟩ :=
    I1.laid (t' := tk) (a := hp.objs.size + 1) (o := exo (hp.objs.size + 1) C none) (h' := (hp.push (PySem.W.kdv_tup us)).push (PySem.HandSPX.excO C hp.objs.size)) kk hsz (exo_ok hget)
  have r2 : Vals (V.ref (hp.objs.size + 1) :: (vs ++ dvs)) (Value.ref (hp.objs.size + 1) :: (us ++ ds)) := .cons rfl (r1.append hd)
  have hl : (Value.ref (hp.objs.size + 1) :: us ++ ds).length = ps.length := by
    have e := r2.length
    rw [F1.len _ _ _ _ hq] at e
    exact e.symm
  have hus : us.length ≤ sizeLine := by
    rw [← Paired.length r1, sizeLine_eq]
    omega
  refine wpAny_call (PySem.HandSPX.call_own F (fun Y => refsT_contains Y bm hbm) (I1.kIn _ _ hC) (PySem.W.looks_findIn I1.kIn iC) (fun self => PySem.W.bind_fn I1.kIn self tI) hus
    (codeAny_mono (F1.run _ X.stack _ _ ⟨Value.ref (hp.objs.size + 1) :: us, []⟩ (Value.ref (hp.objs.size + 1) :: (us ++ ds)) _ _ (fun _ _ _ => False) (hr.make C us []) (I2.env0.make C us []) (hb _ (Value.ref (hp.objs.size + 1) :: us) I2.kIn hl) r2 hq) fun r s' hq' => ?_))
  cases r with
  | error er => exact hx pins σ _ _ er s' I2 hq'
  | ok fl =>
    cases fl with
    | ret u =>
      obtain ⟨v, H2, os2, bare2, un2, hok2, rv, ev, d, fs, ea, ed, hd1, q2⟩ := hq'
      subst ev
      obtain ⟨h2, g2, d2, t2, os'⟩ := s'
      exact ⟨rv, mk_end (raises_own T.exC T.tyC) I1 hsz kk un2 hok2 os2 bare2 ea ed hd1 q2⟩
    | next => exact False.elim hq'
    | brk => exact False.elim hq'
    | cont => exact False.elim hq'
end
section
variable {X : Cx} {μ : Md} {Γ : En} {Q : QE} {Po' : Po} {x : Str} {p pos pos2 : Pos} {e : Expr} {C : Addr} {f : Str}
theorem made_sub {H1 : Hp} {a dx : Addr} {v : V} (ha : H1 a = none) (hdx : H1 dx = none) : Sub H1 (upd (del (upd (upd (upd H1 a (exo a C none)) dx (exd dx [(f, v)])) a (exo a C (some dx))) a) dx (.xd [(f, v)])) := fun b o hb => by
  have nb : b ≠ dx := fun z => by rw [z, hdx] at hb; cases hb
  have na : b ≠ a := fun z => by rw [z, ha] at hb; cases hb
  rw [upd_ne nb, del_ne na, upd_ne na, upd_ne nb, upd_ne na]
  exact hb
/-- C(e), an own error with one field, of any base, as a value -/
theorem xe_excT (T : ErrT (wdX X) x C f) (hr : Room 2 X.A) (hg : Gl X x) (h : XA X μ [e] Γ fun ds Γ1 => ∃ d, ds = [d] ∧ Q (.exc C [(f, d)]) Γ1) (hdb : (x == ("__debug__" : Str)) = false := by decide)
    (he : starEach [e] X.env = (false, eval e X.env) :: starEach [] X.env := by rfl) (hpl : (backTo pos (starEach [] X.env)).any (·.1) = false := by rfl) :
    XE X μ (.Call (.Name x p) [e] [] pos) Γ Q := by
  obtain ⟨fI, fd, ps, i1, i2, F, b⟩ := T.ini
  refine PE.imp (pe_mk (pmk_oexT (dvs := []) T.oex i1 i2 F hr b .nil (fun _ _ _ _ _ _ _ z => z.elim) hg T.mg h hdb he hpl)) fun σ H qq ⟨R, k⟩ => ⟨R, fun vs H1 ds Γ1 s1 f1 R1 r1 ⟨d, ed, hQ⟩ => ?_⟩
  subst ed
  obtain ⟨v, rfl, rv⟩ : ∃ v, vs = [v] ∧ Rp X.K (Vw μ Γ1 H1) v d := by
    cases r1 with
    | cons rv rn => cases rn; exact ⟨_, rfl, rv⟩
  refine ⟨by simp, fun a ha => ⟨a, C, v, rfl, T.oex, T.no, upd_same, fun dx hdx hda => ⟨rfl, dx, [(f, v)], upd_same, ?_, ?_, ?_⟩⟩⟩
  · rw [upd_ne hda]
    exact upd_same
  · rw [upd_ne hda] at hdx
    exact hdx
  · rw [upd_ne hda] at hdx
    refine ⟨C, rfl, fun a2 ha2 => ?_⟩
    obtain ⟨f2, R2, r2⟩ := Fw.exc1 (C := C) (a := a2) (d := d) R1 (made_sub ha hdx) hdx upd_same ha2 rv
    exact k _ _ _ Γ1 s1 (f1.trans f2) R2 r2 hQ
end
end Pdl
namespace Pdl
open PySem L2 PyProof.Rows
def onS (f : List Nat → Bool) (d : D) : Bool := isS d && f (textOf d)
theorem textOf_S {l : List Nat} : textOf (.str (S l)) = l := by
  show (S l).cps.toList = l
  rw [S_cps]
theorem onS_S {f : List Nat → Bool} {l : List Nat} : onS f (.str (S l)) = f l := by
  unfold onS
  rw [textOf_S]
  rfl
theorem onS_get {f : List Nat → Bool} {d : D} (h : onS f d = true) : d = .str (S (textOf d)) ∧ f (textOf d) = true := by
  obtain ⟨h1, h2⟩ := Bool.and_eq_true_iff.mp h
  refine ⟨?_, h2⟩
  cases d with
  | str x =>
    show D.str x = .str (S x.cps.toList)
    rw [show S x.cps.toList = x from by cases x; simp [S]]
  | _ => cases h1
def twL : List Nat → Bool
  | [a, b] => decide ((97 ≤ a ∧ a ≤ 122) ∧ (97 ≤ b ∧ b ≤ 122) ∧ a ≠ b)
  | _ => false
def prL : List Nat → Bool
  | [a, b] => decide (97 ≤ a ∧ a < b ∧ b ≤ 122)
  | _ => false
theorem prL_get {l : List Nat} (h : prL l = true) : ∃ a b, l = [a, b] ∧ 97 ≤ a ∧ a < b ∧ b ≤ 122 := by
  unfold prL at h
  split at h
  · next a b => exact ⟨a, b, rfl, of_decide_eq_true h⟩
  · cases h
/-- values of any kind -/
inductive AnyK : D → Prop
  | non : AnyK .non
  | bl {b : Bool} : AnyK (.bl b)
  | int {i : Int} : AnyK (.int i)
  | str (l : List Nat) (h : l.length ≤ 1000) (hz : ∀ c ∈ l, c < 1000) : AnyK (.str (S l))
  | lst {xs : List D} : AnyK (.lst xs)
  | tup {xs : List D} : AnyK (.tup xs)
  | dct {xs : List (Key × D)} : AnyK (.dct xs)
end Pdl
namespace Pdl
open PySem L2 PyProof.Rows
def txAt (xs : List D) (k : Nat) : List Nat := textOf (xs.getD k .non)
def badT (xs : List D) (k : Nat) : Bool := decide (k = 10) || (!onS prL (xs.getD k .non) || ((decide (0 < k) && !decide (txAt xs (k - 1) < txAt xs k)) || decide (7 < (us ((xs.take (k + 1)).map textOf).flatten).length)))
/-- so far all is well -/
def GoodT (xs : List D) (k : Nat) : Prop := ∀ j < k, badT xs j = false
theorem badT_f {xs : List D} {k : Nat} (h : badT xs k = false) : k ≠ 10 ∧ onS prL (xs.getD k .non) = true ∧ (0 < k → txAt xs (k - 1) < txAt xs k) ∧ (us ((xs.take (k + 1)).map textOf).flatten).length ≤ 7 := by
  unfold badT at h
  rw [Bool.or_eq_false_iff, Bool.or_eq_false_iff, Bool.or_eq_false_iff] at h
  obtain ⟨h1, h2, h3, h4⟩ := h
  refine ⟨of_decide_eq_false h1, by simpa using h2, fun h0 => ?_, by have := of_decide_eq_false h4; omega⟩
  rw [decide_eq_true h0] at h3
  simpa using h3
structure TakeT (xs : List D) (k : Nat) : Prop where
  eq : xs.take k = SL ((xs.take k).map textOf)
  pr : ∀ l ∈ (xs.take k).map textOf, ∃ a b, l = [a, b] ∧ 97 ≤ a ∧ a < b ∧ b ≤ 122
  asc : ((xs.take k).map textOf).Pairwise (· < ·)
  le : k ≤ 10
  few : 0 < k → (us ((xs.take k).map textOf).flatten).length ≤ 7
theorem lt_trans3 {a b c : List Nat} (h1 : a < b) (h2 : b < c) : a < c := List.lt_trans h1 h2
theorem GoodT.take {xs : List D} : ∀ {k : Nat}, k ≤ xs.length → GoodT xs k → TakeT xs k
  | 0, _, _ => ⟨by simp [SL], by simp, by simp, Nat.zero_le _, fun h => absurd h (Nat.lt_irrefl 0)⟩
  | k + 1, hk, h => by
    have ih := GoodT.take (k := k) (by omega) fun j hj => h j (by omega)
    obtain ⟨b1, b2, b3, b4⟩ := badT_f (h k (Nat.lt_succ_self k))
    obtain ⟨x, hx⟩ : ∃ x, xs[k]? = some x := ⟨_, List.getElem?_eq_getElem (by omega)⟩
    have ex : xs.getD k .non = x := by simp [List.getD, hx]
    have et : xs.take (k + 1) = xs.take k ++ [x] := by rw [List.take_succ, hx]; rfl
    rw [ex] at b2
    obtain ⟨e1, e2⟩ := onS_get b2
    obtain ⟨a, b, e3, p1, p2, p3⟩ := prL_get e2
    have em : (xs.take (k + 1)).map textOf = (xs.take k).map textOf ++ [[a, b]] := by rw [et, List.map_append, List.map_singleton, e3]
    refine ⟨?_, fun l hl => ?_, ?_, by have := ih.le; omega, fun _ => b4⟩
    · have ea : ∀ A : List (List Nat), SL (A ++ [[a, b]]) = SL A ++ [.str (S [a, b])] := fun A => by simp [SL]
      rw [em, et, ea, ← ih.eq, e1, e3]
    · rw [em] at hl
      rcases List.mem_append.mp hl with z | z
      · exact ih.pr l z
      · exact ⟨a, b, List.mem_singleton.mp z, p1, p2, p3⟩
    · rw [em, List.pairwise_append]
      refine ⟨ih.asc, by simp, fun u hu v hv => ?_⟩
      rw [List.mem_singleton.mp hv]
      cases k with
      | zero => simp at hu
      | succ k' =>
        have h3 := b3 (Nat.succ_pos k')
        have e4 : txAt xs (k' + 1) = [a, b] := by unfold txAt; rw [ex, e3]
        rw [e4] at h3
        obtain ⟨y, hy⟩ : ∃ y, xs[k']? = some y := ⟨_, List.getElem?_eq_getElem (by omega)⟩
        have e5 : txAt xs (k' + 1 - 1) = textOf y := by unfold txAt; simp [List.getD, hy]
        rw [e5] at h3
        have e6 : (xs.take (k' + 1)).map textOf = (xs.take k').map textOf ++ [textOf y] := by rw [List.take_succ, hy, List.map_append]; rfl
        rw [e6] at hu
        rcases List.mem_append.mp hu with z | z
        · have := ih.asc
          rw [e6, List.pairwise_append] at this
          exact lt_trans3 (this.2.2 u z (textOf y) (by simp)) h3
        · rw [List.mem_singleton.mp z]
          exact h3
/-- all ties are well, but for their hanging together -/
structure NearT (ls : List (List Nat)) : Prop where
  ne : ls ≠ []
  len : ls.length ≤ 10
  pr : ∀ l ∈ ls, ∃ a b, l = [a, b] ∧ 97 ≤ a ∧ a < b ∧ b ≤ 122
  asc : ls.Pairwise (· < ·)
  few : (us ls.flatten).length ≤ 7
theorem NearT.ties {ls : List (List Nat)} (h : NearT ls) (hc : Conn ls) : Ties ls := ⟨h.ne, h.len, h.pr, h.asc, h.few, hc⟩
theorem NearT.two {ls : List (List Nat)} (h : NearT ls) : Two ls := fun l hl => let ⟨a, b, e, _⟩ := h.pr l hl; ⟨a, b, e⟩
theorem SL_text {ls : List (List Nat)} : (SL ls).map textOf = ls := by
  unfold SL
  rw [List.map_map]
  have : (textOf ∘ fun l => D.str (S l)) = id := funext fun l => textOf_S
  rw [this, List.map_id]
/-- what is wrong with a value as ties: the index (none: it is no tuple, or empty), or that they hang apart -/
inductive TErr (CT CA : Addr) : D → Xn → Prop
  | kind {d : D} (h : ∀ xs, d = .tup xs → xs = []) : TErr CT CA d ⟨.ref CT, some [("index", .non)]⟩
  | at_ {xs : List D} {k : Nat} (hne : xs ≠ []) (hk : k < xs.length) (hg : GoodT xs k) (hb : badT xs k = true) : TErr CT CA (.tup xs) ⟨.ref CT, some [("index", .int k)]⟩
  | apart {ls : List (List Nat)} (hn : NearT ls) (hc : ¬ Conn ls) : TErr CT CA (.tup (SL ls)) ⟨.ref CA, none⟩
theorem good_near {ls : List (List Nat)} (h : NearT ls) : GoodT (SL ls) (SL ls).length := fun j hj => by
  have hj : j < ls.length := by simpa [SL] using hj
  have get : ∀ i, i < ls.length → (SL ls).getD i .non = .str (S (ls.getD i [])) := fun i hi => by
    have : (SL ls)[i]? = some (.str (S (ls.getD i []))) := by rw [SL_get (l := ls.getD i []) (by simp [List.getD, List.getElem?_eq_getElem hi])]
    simp [List.getD, this]
  have tx : ∀ i, i < ls.length → txAt (SL ls) i = ls.getD i [] := fun i hi => by unfold txAt; rw [get i hi, textOf_S]
  obtain ⟨a, b, e, p1, p2, p3⟩ := h.pr (ls.getD j []) (by simp [List.getD, List.getElem?_eq_getElem hj])
  have h1 : onS prL ((SL ls).getD j .non) = true := by
    rw [get j hj, onS_S, e]
    exact decide_eq_true ⟨p1, p2, p3⟩
  have h2 : 0 < j → txAt (SL ls) (j - 1) < txAt (SL ls) j := fun h0 => by
    rw [tx _ (by omega), tx _ hj]
    have := List.pairwise_iff_getElem.mp h.asc (j - 1) j (by omega) hj (by omega)
    simpa [List.getD, List.getElem?_eq_getElem hj, List.getElem?_eq_getElem (show j - 1 < ls.length by omega)] using this
  have h3 : (us (((SL ls).take (j + 1)).map textOf).flatten).length ≤ 7 := by
    have e : ((SL ls).take (j + 1)).map textOf = ls.take (j + 1) := by rw [List.map_take, SL_text]
    rw [e]
    refine Nat.le_trans (us_len_le fun x hx => ?_) h.few
    obtain ⟨l, hl, hx⟩ := List.mem_flatten.mp hx
    exact mem_us.mpr (List.mem_flatten.mpr ⟨l, List.mem_of_mem_take hl, hx⟩)
  unfold badT
  rw [h1, decide_eq_false (show ¬ j = 10 from by have := h.len; omega), decide_eq_false (show ¬ 7 < _ from by omega)]
  by_cases h0 : 0 < j
  · rw [decide_eq_true (h2 h0)]; simp
  · simp [h0]
theorem TErr.no {CT CA : Addr} {ls : List (List Nat)} {x : Xn} (ht : Ties ls) (h : TErr CT CA (.tup (SL ls)) x) : False := by
  have hn : NearT ls := ⟨ht.ne, ht.len, ht.pr, ht.asc, ht.few⟩
  generalize hd : (D.tup _) = d at h
  cases h with
  | kind h => exact absurd (List.map_eq_nil_iff.mp (h _ hd.symm)) ht.ne
  | at_ hne hk hg hb =>
    cases hd
    rw [good_near hn _ hk] at hb
    cases hb
  | apart hn2 hc =>
    injection hd with hd
    have := congrArg (List.map textOf) hd
    rw [SL_text, SL_text] at this
    exact hc (this ▸ ht.conn)
/-- elements of any kind -/
def AnyL (d : D) : Prop := AnyK d ∧ ∀ xs, d = .tup xs → (∀ x ∈ xs, AnyK x) ∧ xs.length ≤ 100000
end Pdl
namespace Pdl
open PySem L2 PyProof.Rows
/-- isinstance of the class C among the three base classes and those of the language -/
structure BasK (K : PySem.W.Frag) (W1 W2 W3 C : Addr) (b1 b2 b3 : Bool) : Prop where
  k : ExK K C
  w1 : PySem.W.kitOne K (.ref C) (.ref W1) = some b1
  w2 : PySem.W.kitOne K (.ref C) (.ref W2) = some b2
  w3 : PySem.W.kitOne K (.ref C) (.ref W3) = some b3
  l1 : b1 = true → PySem.W.kitOne K (.ref C) (.type "ValueError") = some true
  l2 : b2 = true → PySem.W.kitOne K (.ref C) (.type "LookupError") = some true
  l3 : b3 = true → PySem.W.kitOne K (.ref C) (.type "ArithmeticError") = some true
def sBases (W1 W2 W3 : Addr) (K : PySem.W.Frag) : PSp := fun ds Q => ∃ C fs b1 b2 b3, ds = [.exc C fs] ∧ BasK K W1 W2 W3 C b1 b2 b3 ∧ Q (.lst [.bl b1, .bl b2, .bl b3])
section
variable {X : Cx}
theorem cd_reprI {i : Int} (h : i.natAbs.log2 < 1920) : CallD X (.builtin "repr") [.int i] (.str (shownD (.int i))) := .of SkE.call_repr_int fun vs H q m hm h1 k => by
  obtain ⟨v, rfl, r⟩ := h1.one
  cases r
  exact ⟨i, rfl, h, k _ H (Sub.refl H) (.str _)⟩
theorem call_repr_non : CallR X (.builtin "repr") (fun xs H Q => xs = [.non] ∧ Q (.str "None") H) := by
  intro pins s σ H xs us Q I r h
  obtain ⟨rfl, q⟩ := h
  cases r with
  | cons r1 rs =>
    cases rs
    cases (show _ = Value.none from r1)
    exact PySem.P.repr_of_none ⟨.str _, H, I.tok _, ⟨_, rfl⟩, q⟩
theorem cd_reprN : CallD X (.builtin "repr") [.non] (.str (shownD .non)) := .of call_repr_non fun vs H q m hm h1 k => by
  obtain ⟨v, rfl, r⟩ := h1.one
  cases r
  exact ⟨rfl, k _ H (Sub.refl H) (.str _)⟩
end
theorem od_neBs {X : Cx} (hu : X.A.units + 64 < cLine) {a b : List Bool} : OpD X (compareOp .NotEq) (.lst (a.map D.bl)) (.lst (b.map D.bl)) (.bl (!decide (a = b))) := by
  have h := od_neD (X := X) hu (ok_py _ (ok_bls a)) (ok_py _ (ok_bls b)) (shaped_ok (ok_bls a) (dp_bls a)) (shaped_ok (ok_bls b) (dp_bls b))
  have e : PyData.eqv (toPy (.lst (a.map D.bl))) (toPy (.lst (b.map D.bl))) = decide (a = b) := eqv_bl a b
  rw [e] at h
  exact h
def sShownT (CT CA : Addr) : PSp := fun ds Q => (∃ y, ds = [.exc CT [("index", y)]] ∧ (y = .non ∨ ∃ k : Nat, y = .int k ∧ k ≤ 1000000) ∧ Q (.lst [.str "ties", .str (shownD y)])) ∨ (ds = [.exc CA []] ∧ Q (.lst [.str "apart", .str ""]))
end Pdl
namespace Pdl
open PySem L2 PyProof.Rows
section
variable {X : Cx} {μ : Md} {Γ : En} {Q : QE} {pos p1 p2 : Pos}
theorem sub_upd2 {H : Hp} {p : Addr} {a b : HO} (hp : H p = none) : Sub H (upd (upd H p a) p b) := fun c o e => by
  have h : c ≠ p := ne_of_none e hp
  rw [upd_ne h, upd_ne h]
  exact e
/-- {"k": i} -/
theorem xe_dct1 {k : Str} {i : Int} {j1 j2 : Nat} (h : Q (.dct [(.inr k, .int i)]) Γ) : XE X μ (.Dict [some (.Constant (.str k) j1 p1)] [.Constant (.int i) j2 p2] pos) Γ Q :=
  PE.imp (pe_disp (pps_cons pe_str pe_int pps_nil) rfl rfl (by simp) (by simp)) fun σ H q ⟨R, kq⟩ => fun p hp => by
    refine ⟨upd_same, [(.inr k, .int i)], rfl, by simp, ?_⟩
    have hf := R.fresh hp
    have e := sub_upd2 (a := .dK []) (b := .dK (mergeK [] [((.inr k : Key), V.int i)])) hp
    exact kq _ _ _ Γ rfl (Fw.of_sub e) (R.more e) (.dct (hid_some.mpr ⟨hf, upd_same⟩) (.cons (.int i) .nil)) h
end
def oA : D := .str (S [97])
def oAB : D := .str (S [97, 98])
def oBA : D := .str (S [98, 97])
def oABC : D := .str (S [97, 98, 99])
def oBC : D := .str (S [98, 99])
def odd1 : List D := [.non, .bl true, .bl false, .int 0, .int 1, .int (-1), .int 2, .int (10 ^ 30), .str (S [])]
def odd2 : List D := [oA, oAB, oBA, oABC, .tup [], .tup [oAB], .tup [oAB, oBC], .tup [oBA, oBC]]
def odd3 : List D := [.lst [], .dct [], .dct [(.inr (S [97]), .int 1)], .tup [.non, .int 0], .lst [oAB], .lst [.lst []], .tup [.tup []], .str (S [65]), .str (S [97, 98, 32, 98, 99]), .str (S [97, 98, 32, 97, 98]), .tup [.tup [oAB]]]
def oddK : List D := odd1 ++ odd2 ++ odd3
def sOdd : PSp := fun ds Q => ds = [] ∧ ∀ d ∈ oddK, Q d
end Pdl
namespace Pdl
open PySem L2 PyProof.Rows
theorem AnyL.of {xs : List D} (h : ∀ x ∈ xs, AnyK x) (hl : xs.length ≤ 100000) : AnyL (.tup xs) := ⟨.tup, fun ys e => by cases e; exact ⟨h, hl⟩⟩
theorem AnyL.lst {xs : List D} : AnyL (.lst xs) := ⟨.lst, fun ys e => by cases e⟩
theorem AnyL.str {l : List Nat} (h : l.length ≤ 1000) (hz : ∀ c ∈ l, c < 1000) : AnyL (.str (S l)) := ⟨.str l h hz, fun ys e => by cases e⟩
end Pdl
namespace Pdl
open PySem L2 PyProof.Rows
/-- what is told of an error of ties is plain -/
theorem shown_small : ∀ k : Nat, k ≤ 10 → okD (.str (shownD (.int (k : Int)))) = true := by
  intro k hk
  match k, hk with
  | 0, _ => decide +kernel
  | 1, _ => decide +kernel
  | 2, _ => decide +kernel
  | 3, _ => decide +kernel
  | 4, _ => decide +kernel
  | 5, _ => decide +kernel
  | 6, _ => decide +kernel
  | 7, _ => decide +kernel
  | 8, _ => decide +kernel
  | 9, _ => decide +kernel
  | 10, _ => decide +kernel
  | n + 11, h => exact absurd h (by omega)
inductive Told (CT CA : Addr) : Xn → D → Prop
  | non : Told CT CA ⟨.ref CT, some [("index", .non)]⟩ (.lst [.str "ties", .str (shownD .non)])
  | int {k : Nat} (h : k ≤ 10) : Told CT CA ⟨.ref CT, some [("index", .int k)]⟩ (.lst [.str "ties", .str (shownD (.int k))])
  | apart : Told CT CA ⟨.ref CA, none⟩ (.lst [.str "apart", .str ""])
theorem Told.ok {CT CA : Addr} {x : Xn} {r : D} (h : Told CT CA x r) : okD r = true ∧ dpD r ≤ 3 := by
  cases h with
  | non => exact ⟨by decide +kernel, by decide +kernel⟩
  | @int k hk =>
    refine ⟨?_, by simp [dpD, dpL]⟩
    have := shown_small k hk
    rw [okD, okL, okL, okL, this]
    decide +kernel
  | apart => exact ⟨by decide +kernel, by decide +kernel⟩
theorem Told.shown {CT CA : Addr} {x : Xn} {r : D} (h : Told CT CA x r) : ∃ C, x.cls = .ref C ∧ (C = CT ∨ C = CA) ∧ ∀ Qc : D → Prop, Qc r → sShownT CT CA [.exc C (x.fs.getD [])] Qc := by
  cases h with
  | non => exact ⟨CT, rfl, .inl rfl, fun Qc hq => .inl ⟨_, rfl, .inl rfl, hq⟩⟩
  | @int k hk => exact ⟨CT, rfl, .inl rfl, fun Qc hq => .inl ⟨_, rfl, .inr ⟨k, rfl, by omega⟩, hq⟩⟩
  | apart => exact ⟨CA, rfl, .inr rfl, fun Qc hq => .inr ⟨rfl, hq⟩⟩
end Pdl
namespace Pdl
open PySem L2 PyProof.Rows PySem.Spec
def oexP (K : PySem.W.Frag) (C : Addr) (newId : String) (ok : List Value → Bool) : Bool := match K.lookup C with
  | some ⟨.type "type", _, .cls cd, sl⟩ => (match cd.mro, sl.toList with
    | .ref C' :: bm, [_, _, _, _, some (.builtin n), _] => C' == C && n == newId && !cd.hasDel && cd.hasDict && ok bm
    | _, _ => false)
  | _ => false
theorem oexP_ok {K : PySem.W.Frag} {C : Addr} {newId : String} {ok : List Value → Bool} (q : oexP K C newId ok = true) :
    ∃ nm qn N bs bm sn sub ab col dd k0 k1 k2 k3 k5, K.lookup C = some (excClassObj nm qn C N bs bm true sn sub ab col dd k0 k1 k2 k3 k5 newId) ∧ ok bm = true := by
  unfold oexP at q
  split at q
  · rename_i dd cd sl ho
    split at q
    · rename_i C' bm k0 k1 k2 k3 n k5 hm hs
      simp only [Bool.and_eq_true, beq_iff_eq, Bool.not_eq_true'] at q
      obtain ⟨⟨⟨⟨rfl, rfl⟩, hdel⟩, hdct⟩, ht⟩ := q
      obtain ⟨nm, bs, mro, ns, qn, hd, sn, sub, ab, col, del⟩ := cd
      dsimp only at hm hdel hdct
      subst hm hdel hdct
      have hsl : sl = #[k0, k1, k2, k3, some (.builtin n), k5] := by
        obtain ⟨l⟩ := sl
        simp only at hs
        rw [hs]
      subst hsl
      exact ⟨nm, qn, ns, bs, bm, sn, sub, ab, col, dd, k0, k1, k2, k3, k5, ho, ht⟩
    · cases q
  · cases q
/-- what all own errors show -/
def ownB (K : PySem.W.Frag) (C : Addr) : Bool := decide (PySem.W.subIn K (.ref C) (.type "BaseException") = some true) && (decide (PySem.W.typeIn K (.ref C) = some (.type "type")) && PySem.W.keepIn K (.ref C))
theorem ownB_ok {K : PySem.W.Frag} {C : Addr} (h : ownB K C = true) : PySem.W.subIn K (.ref C) (.type "BaseException") = some true ∧ PySem.W.typeIn K (.ref C) = some (.type "type") ∧ PySem.W.keepIn K (.ref C) = true := by
  obtain ⟨h1, h⟩ := Bool.and_eq_true_iff.mp h
  obtain ⟨h2, h3⟩ := Bool.and_eq_true_iff.mp h
  exact ⟨of_decide_eq_true h1, of_decide_eq_true h2, h3⟩
def saB (K : PySem.W.Frag) (C : Addr) : Bool := vO (PySem.W.findIn K (.ref C) "__setattr__") (some (some (.builtin "object.__setattr__")))
def leTail : List Value := [.type "LookupError", .type "Exception", .type "BaseException", .type "object"]
def aeTail : List Value := [.type "ArithmeticError", .type "Exception", .type "BaseException", .type "object"]
def fOexL (x : Str) : FB := fun K => oexP K (gA x K) "LookupError.__new__" (refsT leTail) && (saB K (gA x K) && ownB K (gA x K))
def fOexA (x : Str) : FB := fun K => oexP K (gA x K) "ArithmeticError.__new__" (refsT aeTail) && (saB K (gA x K) && ownB K (gA x K))
def fNoF (x f : Str) : FB := fun K => vO (PySem.W.findIn K (.ref (gA x K)) f) (some none)
def fIni (x : Str) : FB := fun K => vO (PySem.W.findIn K (.ref (gA x K)) "__init__") (some (some (.ref (mA x "__init__" K)))) && decide (PySem.W.typeIn K (.ref (mA x "__init__" K)) = some (.type "function"))
def fErr0 (x : Str) : FB := fun K => ownB K (gA x K) && PySem.W.excIn K (gA x K) aeTail "ArithmeticError.__new__"
def fKit (x y : Str) (b : Bool) : FB := fun K => decide (PySem.W.kitOne K (.ref (gA x K)) (.ref (gA y K)) = some b)
def fKitL (x : Str) (n : String) : FB := fun K => decide (PySem.W.kitOne K (.ref (gA x K)) (.type n) = some true)
section
variable {T : Wd} {h : Heap} {x f qual : Str} {st : Stmt} {ps : List Str}
theorem errt_at {B newId initId : String} {tl : List Value} (EF : ExcBaseFacts B newId initId tl) (SF : StoreFacts B tl "object.__setattr__" "object") (KX : T.K.In h) (G : h.Ns mainGlobals T.mg) (a : fGlo x T.K = true) (o : (oexP T.K (gA x T.K) newId (refsT tl) && (saB T.K (gA x T.K) && ownB T.K (gA x T.K))) = true) (n : fNoF x f T.K = true) (i : fIni x T.K = true)
    (fo : ∃ fd, Fun T.K "__init__" qual st (mA x "__init__" T.K) fd)
    (hin : ∀ fd, Fun T.K "__init__" qual st (mA x "__init__" T.K) fd → FnOk T.P T.w T.K T.mg T.base CX0 1 (mA x "__init__" T.K) fd ps (spGvT T.K f))
    (b : ∀ (kV doc pm : Value) (an : Option Addr) (cdv ct : Value) (us : List Value), us.length = ps.length → bindArgs (PySem.W.fnOf "__init__" qual (defArgs st) (defBody st) (defScope st) .none kV doc pm an cdv ct) ⟨us, []⟩ = pure (ps.zip us)) : ErrT T x (gA x T.K) f := by
  obtain ⟨o1, o⟩ := Bool.and_eq_true_iff.mp o
  obtain ⟨o2, o3⟩ := Bool.and_eq_true_iff.mp o
  obtain ⟨z1, z2, z3⟩ := ownB_ok o3
  obtain ⟨i1, i2⟩ := Bool.and_eq_true_iff.mp i
  obtain ⟨nm, qn, N, bs, bm, sn, sub, ab, col, dd, k0, k1, k2, k3, k5, hC, hb⟩ := oexP_ok o1
  obtain ⟨fd, F⟩ := fo
  exact ⟨⟨⟨B, newId, initId, tl, EF, SF, nm, qn, N, bs, bm, sn, sub, ab, col, dd, k0, k1, k2, k3, k5, hC, hb⟩, He.eqO_ok o2, z1, z2, z3⟩, glo_mg KX G a, He.eqO_ok n, ⟨_, fd, ps, He.eqO_ok i1, of_decide_eq_true i2, hin fd F, F.binds b⟩⟩
theorem err0_at (KX : T.K.In h) (G : h.Ns mainGlobals T.mg) (a : fGlo x T.K = true) (o : fErr0 x T.K = true) : Err0 T x (gA x T.K) := by
  obtain ⟨o1, o2⟩ := Bool.and_eq_true_iff.mp o
  obtain ⟨z1, z2, z3⟩ := ownB_ok o1
  exact ⟨glo_mg KX G a, z3, z1, z2, ⟨_, _, _, _, PySem.F.excBase_ArithmeticError, o2⟩⟩
theorem kit_of {y : Str} {b : Bool} (o : fKit x y b T.K = true) : PySem.W.kitOne T.K (.ref (gA x T.K)) (.ref (gA y T.K)) = some b := of_decide_eq_true o
end
end Pdl
namespace Pdl
open PySem L2 PyProof.Rows
def toPyA : D → PyData
  | .dct kvs => .dict (kvs.map fun kv => ((match kv.1 with | .inl i => .int i | .inr x => .str x), toPy kv.2))
  | d => toPy d
def shownA (d : D) : Str := (toPyA d).shown
section
variable {X : Cx} {pins : List (Addr × Obj)} {σ : L2.St} {H : Hp} {s : Shared} {a : Addr}
theorem reads_dct0 (I : Inv X pins σ H s) (h : H a = some (.dK [])) : ∃ as, Reads s.heap (.ref a) (.dict []) as ∧ sysModules ∉ as := by
  obtain ⟨_, hs, vs, r, o, es, ep, ho, hx, hd, _, hp, _⟩ := I.hok a _ h
  cases r
  have e : es.toList = [] := by cases hq : es.toList with
    | nil => rfl
    | cons x r => rw [hq] at hp; cases hp
  refine ⟨_, .dict (kvs := []) (as := []) (bs := []) ho hx.1 hd (by rw [e]; exact .nil) (by rw [e]; exact .nil), ?_⟩
  intro hm
  simp at hm
  rw [hm] at hs
  simp at hs
theorem reads_dct1 {k : Str} {i : Int} (I : Inv X pins σ H s) (h : H a = some (.dK [(.inr k, .int i)])) : ∃ as, Reads s.heap (.ref a) (.dict [(.str k, .int i)]) as ∧ sysModules ∉ as := by
  obtain ⟨_, hs, vs, r, o, es, ep, ho, hx, hd, _, hp, _⟩ := I.hok a _ h
  cases r with
  | @cons p q _ qs h1 t =>
    cases t
    obtain ⟨q1, q2⟩ := q
    obtain ⟨e1, e2⟩ := h1
    have e1 : (Sum.inr k : Key) = q1 := e1
    subst e1
    obtain ⟨tk, e2⟩ := (show ∃ t, q2 = Value.int i t from e2)
    subst e2
    obtain ⟨e, he⟩ : ∃ e, es.toList = [e] ∧ keyIs (Sum.inr k) e.key = true ∧ e.val = Value.int i tk := by
      cases hq : es.toList with
      | nil => rw [hq] at hp; cases hp
      | cons x r =>
        rw [hq] at hp
        cases hp with
        | cons k1 k2 k3 => cases k3; exact ⟨x, rfl, k1, k2⟩
    obtain ⟨he, hk, hv⟩ := he
    obtain ⟨t2, hk2⟩ : ∃ t, e.key = .str k t := by
      rcases keyIs_shape hk with ⟨j, t, z, _⟩ | ⟨x, t, z, w⟩
      · cases z
      · cases z; exact ⟨t, w⟩
    refine ⟨_, .dict (kvs := [(.str k, .int i)]) (as := [] ++ []) (bs := [] ++ []) ho hx.1 hd ?_ ?_, ?_⟩
    · rw [he]
      simp only [List.map_cons, List.map_nil, hk2]
      exact .cons (.str k t2) .nil
    · rw [he]
      simp only [List.map_cons, List.map_nil, hv]
      exact .cons (.int i tk) .nil
    · intro hm
      simp at hm
      rw [hm] at hs
      simp at hs
theorem call_repr_str : CallR X (.builtin "repr") (fun xs H Q => ∃ z : Str, xs = [.str z] ∧ (reprText z).length ≤ sizeLine ∧ Q (.str (reprText z)) H) := by
  intro pins s σ H xs us Q I r h
  obtain ⟨z, rfl, hz, q⟩ := h
  obtain ⟨u, rfl, t, rfl⟩ := vals1 r
  exact PySem.P.repr_of_str ⟨.str _, H, I.tok _, ⟨_, rfl⟩, q⟩ hz
theorem cd_reprS {l : List Nat} (h : l.length ≤ 1000) (hz : ∀ c ∈ l, c < 1000) : CallD X (.builtin "repr") [.str (S l)] (.str (shownA (.str (S l)))) := .of call_repr_str fun vs H q m hm h1 k => by
  obtain ⟨v, rfl, r⟩ := h1.one
  cases r
  refine ⟨_, rfl, ?_, k _ H (Sub.refl H) (.str _)⟩
  have := StrLaws.reprText_len (S l) fun c hc => by
    rw [S_cps] at hc
    have := hz c hc
    exact Nat.lt_trans this (by decide)
  rw [S_len] at this
  exact Nat.le_trans this (Nat.le_trans (show 10 * l.length + 2 ≤ 10002 by omega) (by decide))
theorem cd_reprD0 (hg : X.A.guards = some []) (hu : X.A.units + 64 < cLine) : CallD X (.builtin "repr") [.dct []] (.str (shownA (.dct []))) := fun pins s σ H vs us q I rv ⟨m, hm, h1, k⟩ => by
  obtain ⟨v, rfl, r⟩ := h1.one
  obtain ⟨u, rfl, ru⟩ := rv.one
  cases r with
  | dct hq hk =>
    cases hk
    cases ru
    obtain ⟨as, hr, hs⟩ := reads_dct0 I (hid_sub m H _ _ hq)
    refine repr_of_reads' hr rfl (fun _ => hs) hg (by show _ + (PyData.depth (.dict []) + 1) < _; have : PyData.depth (.dict []) = 1 := by decide +kernel
                                                      omega) (fun b o e => e) (fun h' t tk hk => ?_) (by decide +kernel)
    exact ⟨.str _, H, I.kept hk, ⟨t, rfl⟩, k _ H (Sub.refl H) (.str _)⟩
theorem cd_reprD1 (hg : X.A.guards = some []) (hu : X.A.units + 64 < cLine) : CallD X (.builtin "repr") [.dct [(.inr (S [97]), .int 1)]] (.str (shownA (.dct [(.inr (S [97]), .int 1)]))) := fun pins s σ H vs us q I rv ⟨m, hm, h1, k⟩ => by
  obtain ⟨v, rfl, r⟩ := h1.one
  obtain ⟨u, rfl, ru⟩ := rv.one
  cases r with
  | dct hq hk =>
    cases hk with
    | cons h2 h3 =>
      cases h3
      cases h2
      cases ru
      obtain ⟨as, hr, hs⟩ := reads_dct1 I (hid_sub m H _ _ hq)
      refine repr_of_reads' hr (by decide +kernel) (fun _ => hs) hg (by
        have : PyData.depth (.dict [(.str (S [97]), .int 1)]) = 1 := by decide +kernel
        rw [this]; omega) (fun b o e => e) (fun h' t tk hk => ?_) (by decide +kernel)
      exact ⟨.str _, H, I.kept hk, ⟨t, rfl⟩, k _ H (Sub.refl H) (.str _)⟩
end
theorem rc39 : ∀ c, c < 1000 → ((Builtin.Str.reprChar 39 c).all fun d => decide (d < 1000)) = true := by decide +kernel
theorem rc34 : ∀ c, c < 1000 → ((Builtin.Str.reprChar 34 c).all fun d => decide (d < 1000)) = true := by decide +kernel
def Lt1 (x : Str) : Prop := ∀ c ∈ x.cps.toList, c < 1000
theorem Lt1.app {a b : Str} (h1 : Lt1 a) (h2 : Lt1 b) : Lt1 (a ++ b) := fun c hc => by
  have hc : c ∈ (a.cps ++ b.cps).toList := hc
  rw [Array.toList_append] at hc
  exact (List.mem_append.mp hc).elim (h1 c) (h2 c)
theorem lt1_dec {x : Str} (h : (x.cps.toList.all fun c => decide (c < 1000)) = true) : Lt1 x := fun c hc => of_decide_eq_true (List.all_eq_true.mp h c hc)
theorem Lt1.ok {x : Str} (h : Lt1 x) : okD (.str x) = true := by
  rw [okD]
  exact List.all_eq_true.mpr fun c hc => decide_eq_true (h c hc)
theorem foldl_lt {q : Nat} (hq : q = 39 ∨ q = 34) : ∀ (l : List Nat) (acc : Array Nat), (∀ c ∈ l, c < 1000) → (∀ c ∈ acc.toList, c < 1000) → ∀ c ∈ (l.foldl (fun out c => out ++ (Builtin.Str.reprChar q c).toArray) acc).toList, c < 1000
  | [], acc, _, h => h
  | x :: r, acc, h1, h2 => by
    refine foldl_lt hq r _ (fun c hc => h1 c (List.mem_cons_of_mem _ hc)) fun c hc => ?_
    rw [Array.toList_append] at hc
    rcases List.mem_append.mp hc with z | z
    · exact h2 c z
    · have hx := h1 x (by simp)
      have ha : ((Builtin.Str.reprChar q x).all fun d => decide (d < 1000)) = true := by
        rcases hq with rfl | rfl
        · exact rc39 x hx
        · exact rc34 x hx
      exact of_decide_eq_true (List.all_eq_true.mp ha c (by simpa using z))
theorem quote_or (x : Str) : reprQuote x = 39 ∨ reprQuote x = 34 := by
  unfold reprQuote
  split
  · exact .inr rfl
  · exact .inl rfl
theorem lt1_repr {x : Str} (h : Lt1 x) : Lt1 (reprText x) := fun c hc => by
  unfold reprText at hc
  have hc : c ∈ ((x.cps.foldl (fun out c => out ++ (Builtin.Str.reprChar (reprQuote x) c).toArray) #[reprQuote x]).push (reprQuote x)).toList := hc
  have hq := quote_or x
  have hq2 : reprQuote x < 1000 := by omega
  rw [Array.toList_push, ← Array.foldl_toList] at hc
  rcases List.mem_append.mp hc with z | z
  · exact foldl_lt hq x.cps.toList #[reprQuote x] h (fun d hd => by
      have : d = reprQuote x := by simpa using hd
      omega) c z
  · have : c = reprQuote x := by simpa using z
    omega
end Pdl
namespace Pdl
open PySem L2 PyProof.Rows
structure ValOk (d : D) : Prop where
  any : AnyK d
  rep : ∀ X : Cx, X.A.guards = some [] → X.A.units + 64 < cLine → CallD X (.builtin "repr") [d] (.str (shownA d))
  lt : Lt1 (shownA d)
theorem ValOk.ok {d : D} (h : ValOk d) {w : Str} (hw : okD (.str w) = true) : okD (.lst [.str w, .str (shownA d)]) = true := by
  rw [okD, okL, okL, okL, hw, h.lt.ok]
  rfl
theorem val_str {l : List Nat} (h : l.length ≤ 1000) (hz : ∀ c ∈ l, c < 1000) : ValOk (.str (S l)) :=
  ⟨.str l h hz, fun X _ _ => cd_reprS h hz, lt1_repr fun c hc => by rw [S_cps] at hc; exact hz c hc⟩
theorem val_non : ValOk .non := ⟨.non, fun X _ _ => cd_reprN, lt1_dec (by decide +kernel)⟩
theorem val_bl {b : Bool} : ValOk (.bl b) := ⟨.bl, fun X _ _ => by cases b <;> exact cd_reprB, by cases b <;> exact lt1_dec (by decide +kernel)⟩
theorem val_int {i : Int} (h : i.natAbs.log2 < 1920) (hz : ((shownA (.int i)).cps.toList.all fun c => decide (c < 1000)) = true) : ValOk (.int i) := ⟨.int, fun X _ _ => cd_reprI h, lt1_dec hz⟩
theorem val_lst {xs : List D} (h : okD (.lst xs) = true) (hd : dpD (.lst xs) ≤ 50) (hw : wtD (.lst xs) ≤ 1000000) (hz : Lt1 (shownA (.lst xs))) : ValOk (.lst xs) := ⟨.lst, fun X g u => cd_repr g u h hd hw (.inl ⟨_, rfl⟩), hz⟩
theorem val_tup {xs : List D} (h : okD (.tup xs) = true) (hd : dpD (.tup xs) ≤ 50) (hw : wtD (.tup xs) ≤ 1000000) (hz : Lt1 (shownA (.tup xs))) : ValOk (.tup xs) := ⟨.tup, fun X g u => cd_repr g u h hd hw (.inr ⟨_, rfl⟩), hz⟩
theorem val_s {l : List Nat} (h : l.length ≤ 1000 := by decide) (hz : ∀ c ∈ l, c < 1000 := by decide) : ValOk (.str (S l)) := val_str h hz
theorem odd_val : ∀ d ∈ oddK, ValOk d := by
  intro d hd
  simp only [oddK, odd1, odd2, odd3, List.mem_append, List.mem_cons, List.not_mem_nil, or_false] at hd
  rcases hd with ((rfl | rfl | rfl | rfl | rfl | rfl | rfl | rfl | rfl) | (rfl | rfl | rfl | rfl | rfl | rfl | rfl | rfl)) | (rfl | rfl | rfl | rfl | rfl | rfl | rfl | rfl | rfl | rfl | rfl)
  · exact val_non
  · exact val_bl
  · exact val_bl
  · exact val_int (by decide +kernel) (by decide +kernel)
  · exact val_int (by decide +kernel) (by decide +kernel)
  · exact val_int (by decide +kernel) (by decide +kernel)
  · exact val_int (by decide +kernel) (by decide +kernel)
  · exact val_int (by decide +kernel) (by decide +kernel)
  · exact val_s
  · exact val_s
  · exact val_s
  · exact val_s
  · exact val_s
  · exact val_tup (by decide +kernel) (by decide +kernel) (by decide +kernel) (lt1_dec (by decide +kernel))
  · exact val_tup (by decide +kernel) (by decide +kernel) (by decide +kernel) (lt1_dec (by decide +kernel))
  · exact val_tup (by decide +kernel) (by decide +kernel) (by decide +kernel) (lt1_dec (by decide +kernel))
  · exact val_tup (by decide +kernel) (by decide +kernel) (by decide +kernel) (lt1_dec (by decide +kernel))
  · exact val_lst (by decide +kernel) (by decide +kernel) (by decide +kernel) (lt1_dec (by decide +kernel))
  · exact ⟨.dct, fun X g u => cd_reprD0 g u, lt1_dec (by decide +kernel)⟩
  · exact ⟨.dct, fun X g u => cd_reprD1 g u, lt1_dec (by decide +kernel)⟩
  · exact val_tup (by decide +kernel) (by decide +kernel) (by decide +kernel) (lt1_dec (by decide +kernel))
  · exact val_lst (by decide +kernel) (by decide +kernel) (by decide +kernel) (lt1_dec (by decide +kernel))
  · exact val_lst (by decide +kernel) (by decide +kernel) (by decide +kernel) (lt1_dec (by decide +kernel))
  · exact val_tup (by decide +kernel) (by decide +kernel) (by decide +kernel) (lt1_dec (by decide +kernel))
  · exact val_s
  · exact val_s
  · exact val_s
  · exact val_tup (by decide +kernel) (by decide +kernel) (by decide +kernel) (lt1_dec (by decide +kernel))
end Pdl
namespace Pdl
open PySem L2 PyProof.Rows
theorem PET.imp {X : Cx} {e : Expr} {t u : TE} (h : PET X e t) (i : ∀ σ H Q, u σ H Q → t σ H Q) : PET X e u := fun pins s σ H Q h0 I q => h pins s σ H Q h0 I (i _ _ _ q)
theorem PAT.imp {X : Cx} {e : List Expr} {t u : TA} (h : PAT X e t) (i : ∀ σ H Q, u σ H Q → t σ H Q) : PAT X e u := fun pos pins s σ H Q h0 I q => h pos pins s σ H Q h0 I (i _ _ _ q)
def XET (X : Cx) (μ : Md) (e : Expr) (Γ : En) (Q : QE) : Prop := PET X e (tD X.K μ Γ Q)
section
variable {X : Cx} {μ : Md} {Γ : En} {Q : QE} {a b e o : Expr} {es : List Expr} {pos : Pos} {P : Po} {st : Stmt} {sts : List Stmt}
theorem XET.of (h : XE X μ e Γ Q) : XET X μ e Γ Q := CwR.PET.of h
def PA1 (X : Cx) (es : List Expr) (t : TA) : Prop :=
  ∀ (pos : Pos) (pins : List (Addr × Obj)) (s : Shared) (σ : L2.St) (H : Hp) (Q : List V → Hp → Prop), Inv X pins σ H s → t σ H Q → wpAny (model X.prog X.w) X.A (spliced (backTo pos (starEach es X.env))) (fun us s' => 1 ≤ s'.toks ∧ AP X pins σ Q us s') X.xe s
def u1 (X : Cx) (e : Expr) : TE := fun σ H Q => ∃ t, PE1 X e t ∧ t σ H Q
theorem PA1.imp {X : Cx} {e : List Expr} {t u : TA} (h : PA1 X e t) (i : ∀ σ H Q, u σ H Q → t σ H Q) : PA1 X e u := fun pos pins s σ H Q I q => h pos pins s σ H Q I (i _ _ _ q)
end
/-- no text of a web -/
def NoW (CT CA : Addr) (d : D) : Prop := NoStr d ∨ ∃ l x, d = .str (S l) ∧ TErr CT CA (.tup (SL (TL.spl [32] 0 [] l))) x
theorem NoW.no {CT CA : Addr} {ls : List (List Nat)} (ht : Ties ls) (h : NoW CT CA (.str (S (txt ls)))) : False := by
  rcases h with h | ⟨l, x, e, hx⟩
  · cases h
  · have : l = txt ls := by
      injection e with e
      have := congrArg (fun z : Str => z.cps.toList) e
      simp only [S_cps] at this
      exact this.symm
    subst this
    rw [spl_ties ht] at hx
    exact hx.no ht
end Pdl
namespace Pdl
open PySem L2 PyProof.Rows
/-- an arrow's tie; what is no arrow has none -/
def pairD (d : D) : D := if onS twL d = true then .str (S (pr2 (textOf d))) else .non
def pairT : D → D
  | .tup xs => .tup (xs.map pairD)
  | d => d
def AErr (CI CA CR : Addr) (d : D) (x : Xn) : Prop := TErr CI CA (pairT d) x ∨ ∃ as, d = .tup (SL as) ∧ (∀ l ∈ as, twL l = true) ∧ Ties (as.map pr2) ∧ rkB as = false ∧ x = ⟨.ref CR, none⟩
theorem pairD_tw {l : List Nat} (h : twL l = true) : pairD (.str (S l)) = .str (S (pr2 l)) := by unfold pairD; rw [onS_S, if_pos h, textOf_S]
theorem pairD_SL : ∀ {as : List (List Nat)}, (∀ l ∈ as, twL l = true) → (SL as).map pairD = SL (as.map pr2)
  | [], _ => rfl
  | l :: as, h => by
    show pairD (.str (S l)) :: (SL as).map pairD = _
    rw [pairD_tw (h l (by simp)), pairD_SL fun k hk => h k (List.mem_cons_of_mem _ hk)]
    rfl
theorem dS_inj {a b : List Nat} (h : D.str (S a) = .str (S b)) : a = b := by
  injection h with h
  have := congrArg (fun z : Str => z.cps.toList) h
  simp only [S_cps] at this
  exact this
theorem Arrs.tw {as : List (List Nat)} (h : Arrs as) : ∀ l ∈ as, twL l = true := fun l hl => by
  obtain ⟨a, b, rfl, h1, h2, h3⟩ := h.pr l hl
  exact decide_eq_true ⟨h1, h2, h3⟩
theorem SL_inj {a b : List (List Nat)} (e : D.tup (SL a) = .tup (SL b)) : a = b := by
  injection e with e
  have := congrArg (List.map textOf) e
  rw [SL_text, SL_text] at this
  exact this
theorem AErr.no {CI CA CR : Addr} {as : List (List Nat)} {x : Xn} (ha : Arrs as) (h : AErr CI CA CR (.tup (SL as)) x) : False := by
  rcases h with h | ⟨bs, e, u1, u2, u3, rfl⟩
  · have hx : TErr CI CA (.tup ((SL as).map pairD)) x := h
    rw [pairD_SL ha.tw] at hx
    exact hx.no ha.ties
  · cases SL_inj e
    rw [rkB_t ha.two ha.rk] at u3
    cases u3
def sShownA (CI CA CR : Addr) : PSp := fun ds Q => (∃ y, ds = [.exc CI [("index", y)]] ∧ (y = .non ∨ ∃ k : Nat, y = .int k ∧ k ≤ 1000000) ∧ Q (.lst [.str "arrows", .str (shownD y)])) ∨ (ds = [.exc CA []] ∧ Q (.lst [.str "apart", .str ""])) ∨ (ds = [.exc CR []] ∧ Q (.lst [.str "ringed", .str ""]))
inductive ToldA (CI CA CR : Addr) : Xn → D → Prop
  | non : ToldA CI CA CR ⟨.ref CI, some [("index", .non)]⟩ (.lst [.str "arrows", .str (shownD .non)])
  | int {k : Nat} (h : k ≤ 10) : ToldA CI CA CR ⟨.ref CI, some [("index", .int k)]⟩ (.lst [.str "arrows", .str (shownD (.int k))])
  | apart : ToldA CI CA CR ⟨.ref CA, none⟩ (.lst [.str "apart", .str ""])
  | ringed : ToldA CI CA CR ⟨.ref CR, none⟩ (.lst [.str "ringed", .str ""])
theorem ToldA.ok {CI CA CR : Addr} {x : Xn} {r : D} (h : ToldA CI CA CR x r) : okD r = true ∧ dpD r ≤ 3 := by
  cases h with
  | non => exact ⟨by decide +kernel, by decide +kernel⟩
  | @int k hk =>
    refine ⟨?_, by simp [dpD, dpL]⟩
    have := shown_small k hk
    rw [okD, okL, okL, okL, this]
    decide +kernel
  | apart => exact ⟨by decide +kernel, by decide +kernel⟩
  | ringed => exact ⟨by decide +kernel, by decide +kernel⟩
theorem ToldA.shown {CI CA CR : Addr} {x : Xn} {r : D} (h : ToldA CI CA CR x r) : ∃ C, x.cls = .ref C ∧ (C = CI ∨ C = CA ∨ C = CR) ∧ ∀ Qc : D → Prop, Qc r → sShownA CI CA CR [.exc C (x.fs.getD [])] Qc := by
  cases h with
  | non => exact ⟨CI, rfl, .inl rfl, fun Qc hq => .inl ⟨_, rfl, .inl rfl, hq⟩⟩
  | @int k hk => exact ⟨CI, rfl, .inl rfl, fun Qc hq => .inl ⟨_, rfl, .inr ⟨k, rfl, by omega⟩, hq⟩⟩
  | apart => exact ⟨CA, rfl, .inr (.inl rfl), fun Qc hq => .inr (.inl ⟨rfl, hq⟩)⟩
  | ringed => exact ⟨CR, rfl, .inr (.inr rfl), fun Qc hq => .inr (.inr ⟨rfl, hq⟩)⟩
end Pdl
namespace Pdl
open PySem L2 PyProof.Rows
def NoY (CI CA CR : Addr) (d : D) : Prop := NoStr d ∨ ∃ l x, d = .str (S l) ∧ AErr CI CA CR (.tup (SL (TL.spl [32] 0 [] l))) x
theorem NoY.no {CI CA CR : Addr} {as : List (List Nat)} (ha : Arrs as) (h : NoY CI CA CR (.str (S (txt as)))) : False := by
  rcases h with h | ⟨l, x, e, hx⟩
  · cases h
  · rw [← dS_inj e, spl_txt ha] at hx
    exact hx.no ha
end Pdl
namespace Pdl
open PySem L2 PyProof.Rows
theorem lessL_mem {ls : List (List Nat)} {a b : Nat} {t : List Nat} : t ∈ lessL ls a b ↔ t ∈ ls ∧ t ≠ [a, b] := by unfold lessL; rw [List.mem_filter, decide_eq_true_iff]
theorem lessL_near {ls : List (List Nat)} {a b : Nat} (h : Ties ls) (hne : lessL ls a b ≠ []) : NearT (lessL ls a b) := by
  refine ⟨hne, Nat.le_trans (List.length_filter_le _ _) h.len, fun l hl => h.pr l (lessL_mem.mp hl).1, h.asc.filter _, ?_⟩
  refine Nat.le_trans (nodup_len (us_nodup _) (m := us ls.flatten) fun x hx => ?_) h.few
  obtain ⟨l, hl, hx⟩ := List.mem_flatten.mp (mem_us.mp hx)
  exact mem_us.mpr (List.mem_flatten.mpr ⟨l, (lessL_mem.mp hl).1, hx⟩)
def Joi (ls : List (List Nat)) (a b : Nat) : Prop := lessL ls a b ≠ [] ∧ us (lessL ls a b).flatten = us ls.flatten ∧ Conn (lessL ls a b)
theorem Joi.ties {ls : List (List Nat)} {a b : Nat} (h : Ties ls) (hj : Joi ls a b) : Ties (lessL ls a b) := (lessL_near h hj.1).ties hj.2.2
end Pdl
namespace PySem
namespace HandSPX
section
variable {M : Model} {A : Around} {E : Value → Shared → Prop} {h : Heap} {g : Array GenState} {d : Drawn} {t : Nat} {os : OsState}
variable {nm q : Str} {C N : Addr} {bs bm bmB : List Value} {hdct : Bool} {sn : List Str} {sub : List Value} {ab : Bool} {col : Option Bool} {dd : Option Addr} {k0 k1 k2 k3 k5 : Option Value} {B newId initId : String}
theorem check_new_ownK (F : ExcBaseFacts B newId initId bmB) (hT : ∀ X : String, bm.contains (.type X) = bmB.contains (.type X)) {rest : List Value} {kw : List (Str × Value)} {Q : Unit → Shared → Prop}
    (hC : h.get? C = some (excClassObj nm q C N bs bm hdct sn sub ab col dd k0 k1 k2 k3 k5 newId)) (hq : Q () ⟨h, g, d, t, os⟩) : wpAny M A (checkBuiltinCall newId ⟨.ref C :: rest, kw⟩) Q E ⟨h, g, d, t, os⟩ := by
  have hcont : (Value.ref C :: bm).contains (.type B) = true := by rw [List.contains_cons, hT, F.hasB, Bool.or_true]
  have hstar := F.noStar
  simp only [checkBuiltinCall, F.newKind, F.newSplit, F.newRow]
  repeat (first | refine wpAny_loadPart_at hC ?_ | (refine wpAny_isSubtype_exc hC ?_; rw [hcont]) | refine wpAny_staticBase_exc hC ?_ | refine wpAny_madeBy_exc hC ?_ | simp only [bne_self_eq_false, Bool.false_eq_true, if_false] | wp_step)
  exact hq
theorem check_type_call_subK {rest : List Value} {kw : List (Str × Value)} {Q : Unit → Shared → Prop} (hC : h.get? C = some (excClassObj nm q C N bs bm hdct sn sub ab col dd k0 k1 k2 k3 k5 newId))
    (hq : Q () ⟨h, g, d, t, os⟩) : wpAny M A (checkBuiltinCall "type.__call__" ⟨.ref C :: rest, kw⟩) Q E ⟨h, g, d, t, os⟩ := by
  have f3 := tc_sub
  have hT : (⟨h, g, d, t, os⟩ : Shared).TypeIs (.ref C) "type" := ⟨_, hC, rfl⟩
  simp only [checkBuiltinCall, tc_kind, tc_split]
  repeat (any_goals (first | assumption | with_reducible refine wpAny_loadPart_at hC ?_ | with_reducible refine wpAny_onRaise ?_ | with_reducible refine wpAny_map ?_ | wp_step))
end
section
variable {prog : Program} {w : World} {A : Around} {E : Value → Shared → Prop} {R : Result → Shared → Prop} {h : Heap} {g : Array GenState} {d : Drawn} {t : Nat} {os : OsState}
variable {nm q : Str} {C N : Addr} {bs bm bmB : List Value} {hdct : Bool} {sn : List Str} {sub : List Value} {ab : Bool} {col : Option Bool} {dd : Option Addr} {k0 k1 k2 k3 k5 : Option Value} {B newId initId : String}
theorem new_ownK (F : ExcBaseFacts B newId initId bmB) (hT : ∀ X : String, bm.contains (.type X) = bmB.contains (.type X)) {rest : List Value} {kw : List (Str × Value)}
    (hC : h.get? C = some (excClassObj nm q C N bs bm hdct sn sub ab col dd k0 k1 k2 k3 k5 newId))
    (hq : R (.ok (.ret (.ref (h.objs.size + 1)))) ⟨(h.push { cls := .type "tuple", data := .seq rest.toArray }).push
      { cls := .ref C, data := .fields #[.ref h.objs.size, .none, .none, .none, .bool false, .none] }, g, d, t, os⟩) (hrest : rest.length ≤ sizeLine) :
    codeAny (model prog w) A (.builtin newId ⟨.ref C :: rest, kw⟩) R ⟨h, g, d, t, os⟩ := by
  have hends := F.ends
  have hcB : (Value.ref C :: bm).contains (.type B) = true := by rw [List.contains_cons, hT, F.hasB, Bool.or_true]
  have hcA : (Value.ref C :: bm).contains (.type "AttributeError") = false := by rw [List.contains_cons, hT, F.noAttr]; rfl
  have hcN : (Value.ref C :: bm).contains (.type "NameError") = false := by rw [List.contains_cons, hT, F.noName]; rfl
  refine codeAny_builtinAt F.entry ?_
  unfold Builtin.«BaseException.__new__»
  refine wpAt_bind ?_
  show wpAt _ _ _ (stack >>= _) _ _ _
  refine wpAt_bind (wpAt_stack fun p below => wpAt_of_wpAny ?_)
  wp_walk
  refine wpAt_of_wpAny ?_
  rw [F.owner]
  repeat (first | with_reducible refine wpAny_madeHere_exc F.canon hC ?_ | with_reducible refine wpAny_loadPart_at hC ?_ | (with_reducible refine wpAny_isSubtype_exc hC ?_; first | rw [hcB] | rw [hcA] | rw [hcN]) | wp_step)
  show R _ _
  rw [Heap.size_push]
  exact hq
theorem type_call_ownK (F : ExcBaseFacts B newId initId bmB) (hT : ∀ X : String, bm.contains (.type X) = bmB.contains (.type X)) {rest : List Value} {kw : List (Str × Value)} {fI : Addr} {Q : Fin → Shared → Prop}
    (hC : h.get? C = some (excClassObj nm q C N bs bm hdct sn sub ab col dd k0 k1 k2 k3 k5 newId))
    (hi : W.Looks (model prog w) h (typeLookup (.ref C) "__init__") (some (.ref fI))) (hb : ∀ self, W.Looks (model prog w) h (bindSpecial (.ref fI) self) (.ref fI, [self])) (hrest : rest.length ≤ sizeLine)
    (hq : codeAny (model prog w) A (.call (.ref fI) ⟨.ref (h.objs.size + 1) :: rest, kw⟩)
      (fun r s' => match r with | .ok (.ret v) => v = .none ∧ Q (.done (.ret (.ref (h.objs.size + 1)))) s' | .ok _ => False | .error e => E e s')
      ⟨(h.push (W.kdv_tup rest)).push (excO C h.objs.size), g, d, t, os⟩) :
    wpAny (model prog w) A (Builtin.«type.__call__» ⟨.ref C :: rest, kw⟩) Q E ⟨h, g, d, t, os⟩ := by
  repeat (first | with_reducible refine wpAny_loadPart_at hC ?_ | with_reducible refine wpAny_madeBy_exc hC ?_ | wp_step)
  refine codeAny_call_builtin_code (Code.quiet_builtin _ F.quiet) (check_new_ownK F hT hC ?_)
  refine new_ownK F hT hC ?_ hrest
  show wpAny _ _ _ _ _ _
  have k : ∀ b o, h.get? b = some o → ((h.push (W.kdv_tup rest)).push (excO C h.objs.size)).get? b = some o := fun b o e => Heap.get?_push_of_some _ (Heap.get?_push_of_some _ e)
  have hC₁ := k _ _ hC
  have hget : ((h.push (W.kdv_tup rest)).push (excO C h.objs.size)).get? (h.objs.size + 1) = some (excO C h.objs.size) := by heap_get
  have hcC : (Value.ref C :: bm).contains (.ref C) = true := by simp
  have i1 := hi.keeps k
  have b1 := (hb (.ref (h.objs.size + 1))).keeps k
  unfold isInstance
  repeat (first | with_reducible refine wpAny_loadPart_at hget ?_ | (with_reducible refine wpAny_isSubtype_exc hC₁ ?_; rw [hcC]) | wp_step)
  show wpAny _ _ (typeLookup (.ref C) _) _ _ _
  refine i1.at ?_
  refine wpAny_holding (wpAny_bind (b1.at ?_))
  refine wpAny_bind (wpAny_call (codeAny_mono hq fun r s' z => ?_))
  rcases r with e | (v | _ | _ | _) <;> first | exact z | exact z.elim | skip
  obtain ⟨rfl, z⟩ := z
  first
    | exact wpAny_pure (wpAny_pure z)
    | (wp_walk; exact z)
theorem call_ownK (F : ExcBaseFacts B newId initId bmB) (hT : ∀ X : String, bm.contains (.type X) = bmB.contains (.type X)) {rest : List Value} {kw : List (Str × Value)} {fI : Addr}
    (hC : h.get? C = some (excClassObj nm q C N bs bm hdct sn sub ab col dd k0 k1 k2 k3 k5 newId))
    (hi : W.Looks (model prog w) h (typeLookup (.ref C) "__init__") (some (.ref fI))) (hb : ∀ self, W.Looks (model prog w) h (bindSpecial (.ref fI) self) (.ref fI, [self])) (hrest : rest.length ≤ sizeLine)
    (hq : codeAny (model prog w) (A.under (.builtin "type.__call__" ⟨.ref C :: rest, kw⟩)) (.call (.ref fI) ⟨.ref (h.objs.size + 1) :: rest, kw⟩) (W.InitBack (h.objs.size + 1) R)
      ⟨(h.push (W.kdv_tup rest)).push (excO C h.objs.size), g, d, t, os⟩) :
    codeAny (model prog w) A (.call (.ref C) ⟨rest, kw⟩) R ⟨h, g, d, t, os⟩ := by
  have f1 := tc_lookup
  have f2 := tc_bind (.ref C)
  have hTy : (⟨h, g, d, t, os⟩ : Shared).TypeIs (.ref C) "type" := ⟨_, hC, rfl⟩
  refine codeAny_of_tree ?_
  show wpAny _ _ (callAny (.ref C) _) _ _ _
  repeat (any_goals (first | assumption | with_reducible refine wpAny_loadPart_at hC ?_ | wp_step))
  refine ⟨rfl, ?_⟩
  refine codeAny_call_builtin_at (Code.quiet_builtin _ (by decide +kernel)) entry_typeCall (check_type_call_subK hC (type_call_ownK F hT hC hi hb hrest ?_))
  refine codeAny_mono hq fun r s' z => ?_
  rcases r with e | (v | _ | _ | _) <;> exact z
end
end HandSPX
end PySem
namespace Pdl
open PySem L2 PyProof.Rows PySem.Spec
def tMkK (C : Addr) (sp : Sp) (ix : List Nat) (n : Nat) (ta : TA) : L2.St → Hp → XK → Prop := fun σ H Q => ta σ H fun vs H1 => vs.length = n ∧ ∀ a, H1 a = none → sp (.ref a :: ix.filterMap (vs[·]?)) (upd H1 a (exo a C none))
  (fun v H2 => v = .non ∧ ∃ (d : Addr) (fs : List (Str × V)), H2 a = some (exo a C (some d)) ∧ H2 d = some (exd d fs) ∧ H1 d = none ∧ Q (.ref C) (some d) (upd (del H2 a) d (.xd fs))) (fun _ _ _ => False)
structure ErrK (T : Wd) (x : Str) (C : Addr) (f : Str) : Prop where
  t : ErrT T x C f
  kw : ∃ (fI : Addr) (fd : FuncData) (ps : List Str), PySem.W.findIn T.K (.ref C) "__init__" = some (some (.ref fI)) ∧ PySem.W.typeIn T.K (.ref fI) = some (.type "function") ∧ FnOk T.P T.w T.K T.mg T.base CX0 1 fI fd ps (spGvT T.K f) ∧ KBn T.K fd ps 1 [f] (gU [0]) (gU [0])
section
variable {X : Cx} {sp : Sp} {ta : TA} {x : Str} {C fI : Addr} {k : Nat} {fd : FuncData} {ps ks : List Str} {ix : List Nat} {kws : List Keyword} {p pos : Pos}
theorem pmk_oexTK {CX : CXT} (T : OexT X.K C) (iC : PySem.W.findIn X.K (.ref C) "__init__" = some (some (.ref fI))) (tI : PySem.W.typeIn X.K (.ref fI) = some (.type "function"))
    (F1 : FnOk X.prog X.w X.K X.mg X.base CX k fI fd ps sp) (hr : Room (k + 1) X.A) (kb : KBn X.K fd ps 1 ks (gU ix) (gU ix)) (hx : Passes CX X (fun _ _ _ => False)) (hg : Gl X x) (hm : X.mg x = some (.ref C)) (ha : PK X kws ta)
    (hks : (backToKw pos (keywordEach kws X.env)).filterMap (·.1) = ks) (hall : (backToKw pos (keywordEach kws X.env)).all (·.1.isSome) = true) (hdb : (x == ("__debug__" : Str)) = false)
    (hpl : ((backTo pos (starEach [] X.env)).any (·.1) || (backToKw pos (keywordEach kws X.env)).any (·.1.isNone)) = false) :
    PMk X (.Call (.Name x p) [] kws pos) (tMkK C sp ix ks.length ta) := by
  intro pins s σ H Q I h
  obtain ⟨B, newId, initId, tl, F, SF, nm, q, N, bs, bm, sn, sub, ab, col, dd, k0, k1, k2, k3, k5, hC, hbm⟩ := T.cls
  refine wpAny_Call_Name_kw (ld_glob I hg hm ?_ hdb)
  refine PySem.W.callWith_KW0 (h₀ := X.base) I.ok.mod.kin T.kC hall (thn (ha.run pos pins s σ H _ I h) fun us s1 ⟨vs, H1, I1, r1, hz, q1⟩ => ⟨I1.kIn, ?_⟩) hpl
  rw [hks]
  obtain ⟨hp, g, dr, tk, os⟩ := s1
  have hsz : hp.objs.size ≤ hp.objs.size + 1 := Nat.le_succ _
  have hn : H1 (hp.objs.size + 1) = none := I1.hok.fresh hsz
  have hq := q1 (hp.objs.size + 1) hn
  have kk : ∀ b o, hp.get? b = some o → ((hp.push (PySem.W.kdv_tup [])).push (PySem.HandSPX.excO C hp.objs.size)).get? b = some o := fun b o e => Heap.get?_push_of_some _ (Heap.get?_push_of_some _ e)
  have hget : ((hp.push (PySem.W.kdv_tup [])).push (PySem.HandSPX.excO C hp.objs.size)).get? (hp.objs.size + 1) = some (PySem.HandSPX.excO C hp.objs.size) := by heap_get
  have I2 : Inv X pins σ (upd H1 (hp.objs.size + 1) (exo (hp.objs.size + 1) C none)) ⟨(hp.push (PySem.W.kdv_tup [])).push (PySem.HandSPX.excO C hp.objs.size), g, dr, tk, os⟩ :=
    I1.laid (t' := tk) (a := hp.objs.size + 1) (o := exo (hp.objs.size + 1) C none) (h' := (hp.push (PySem.W.kdv_tup [])).push (PySem.HandSPX.excO C hp.objs.size)) kk hsz (exo_ok hget)
  have r2 : Vals (gU ix [V.ref (hp.objs.size + 1)] vs) (gU ix [Value.ref (hp.objs.size + 1)] us) := kb.rel (.cons rfl .nil) r1
  have l2 : us.length = ks.length := r1.length.symm.trans hz
  refine wpAny_call (PySem.HandSPX.call_ownK F (fun Y => refsT_contains Y bm hbm) (I1.kIn _ _ hC) (PySem.W.looks_findIn I1.kIn iC) (fun self => PySem.W.bind_fn I1.kIn self tI) (by show (0 : Nat) ≤ sizeLine; exact Nat.zero_le _)
    (codeAny_mono (F1.run _ X.stack _ _ ⟨[Value.ref (hp.objs.size + 1)], ks.zip us⟩ (gU ix [Value.ref (hp.objs.size + 1)] us) _ _ (fun _ _ _ => False) (hr.make C [] (ks.zip us)) (I2.env0.make C [] (ks.zip us)) (kb.to _ [Value.ref (hp.objs.size + 1)] us I2.kIn rfl l2) r2 hq) fun r s' hq' => ?_))
  cases r with
  | error er => exact hx pins σ _ _ er s' I2 hq'
  | ok fl =>
    cases fl with
    | ret u =>
      obtain ⟨v, H2, os2, bare2, un2, hok2, rv, ev, d, fs, ea, ed, hd1, q2⟩ := hq'
      subst ev
      obtain ⟨h2, g2, d2, t2, os'⟩ := s'
      exact ⟨rv, mk_end (raises_own T.exC T.tyC) I1 hsz kk un2 hok2 os2 bare2 ea ed hd1 q2⟩
    | next => exact False.elim hq'
    | brk => exact False.elim hq'
    | cont => exact False.elim hq'
end
section
variable {X : Cx} {μ : Md} {Γ : En} {Q : QE} {x : Str} {p pos : Pos} {e : Expr} {C : Addr} {f : Str} {kws : List Keyword}
/-- C(f = e), an own error with one field, as a value -/
theorem xe_excK (T : ErrK (wdX X) x C f) (hr : Room 2 X.A) (hg : Gl X x) (h : XKw X μ kws Γ fun ds Γ1 => ∃ d, ds = [d] ∧ Q (.exc C [(f, d)]) Γ1)
    (hks : (backToKw pos (keywordEach kws X.env)).filterMap (·.1) = [f] := by rfl) (hall : (backToKw pos (keywordEach kws X.env)).all (·.1.isSome) = true := by rfl)
    (hdb : (x == ("__debug__" : Str)) = false := by decide) (hpl : ((backTo pos (starEach [] X.env)).any (·.1) || (backToKw pos (keywordEach kws X.env)).any (·.1.isNone)) = false := by rfl) :
    XE X μ (.Call (.Name x p) [] kws pos) Γ Q := by
  obtain ⟨fI, fd, ps, i1, i2, F, b⟩ := T.kw
  refine PE.imp (pe_mk (pmk_oexTK T.t.oex i1 i2 F hr b (fun _ _ _ _ _ _ _ z => z.elim) hg T.t.mg h hks hall hdb hpl)) fun σ H qq ⟨R, k⟩ => ⟨R, fun vs H1 ds Γ1 s1 f1 R1 r1 ⟨d, ed, hQ⟩ => ?_⟩
  subst ed
  obtain ⟨v, rfl, rv⟩ : ∃ v, vs = [v] ∧ Rp X.K (Vw μ Γ1 H1) v d := by
    cases r1 with
    | cons rv rn => cases rn; exact ⟨_, rfl, rv⟩
  refine ⟨by simp, fun a ha => ⟨a, C, v, rfl, T.t.oex, T.t.no, upd_same, fun dx hdx hda => ⟨rfl, dx, [(f, v)], upd_same, ?_, ?_, ?_⟩⟩⟩
  · rw [upd_ne hda]
    exact upd_same
  · rw [upd_ne hda] at hdx
    exact hdx
  · rw [upd_ne hda] at hdx
    refine ⟨C, rfl, fun a2 ha2 => ?_⟩
    obtain ⟨f2, R2, r2⟩ := Fw.exc1 (C := C) (a := a2) (d := d) R1 (made_sub ha hdx) hdx upd_same ha2 rv
    exact k _ _ _ Γ1 s1 (f1.trans f2) R2 r2 hQ
end
def veTail' : List Value := [.type "ValueError", .type "Exception", .type "BaseException", .type "object"]
def fOexV (x : Str) : FB := fun K => oexP K (gA x K) "ValueError.__new__" (refsT veTail') && (saB K (gA x K) && ownB K (gA x K))
def fErrV (x : Str) : FB := fun K => ownB K (gA x K) && PySem.W.excIn K (gA x K) veTail' "ValueError.__new__"
def fErrL (x : Str) : FB := fun K => ownB K (gA x K) && PySem.W.excIn K (gA x K) leTail "LookupError.__new__"
section
variable {T : Wd} {h : Heap} {x f qual : Str} {st : Stmt} {ps : List Str}
theorem errk_at {B newId initId : String} {tl : List Value} (EF : ExcBaseFacts B newId initId tl) (SF : StoreFacts B tl "object.__setattr__" "object") (KX : T.K.In h) (G : h.Ns mainGlobals T.mg) (a : fGlo x T.K = true) (o : (oexP T.K (gA x T.K) newId (refsT tl) && (saB T.K (gA x T.K) && ownB T.K (gA x T.K))) = true) (n : fNoF x f T.K = true) (i : fIni x T.K = true)
    (fo : ∃ fd, Fun T.K "__init__" qual st (mA x "__init__" T.K) fd)
    (hin : ∀ fd, Fun T.K "__init__" qual st (mA x "__init__" T.K) fd → FnOk T.P T.w T.K T.mg T.base CX0 1 (mA x "__init__" T.K) fd ps (spGvT T.K f))
    (b : ∀ (kV doc pm : Value) (an : Option Addr) (cdv ct : Value) (us : List Value), us.length = ps.length → bindArgs (PySem.W.fnOf "__init__" qual (defArgs st) (defBody st) (defScope st) .none kV doc pm an cdv ct) ⟨us, []⟩ = pure (ps.zip us)) (kb : KbX st ps [f] [0]) : ErrK T x (gA x T.K) f := by
  refine ⟨errt_at EF SF KX G a o n i fo hin b, ?_⟩
  obtain ⟨i1, i2⟩ := Bool.and_eq_true_iff.mp i
  obtain ⟨fd, F⟩ := fo
  exact ⟨_, fd, ps, He.eqO_ok i1, of_decide_eq_true i2, hin fd F, kbn_of F kb⟩
theorem errV_at (KX : T.K.In h) (G : h.Ns mainGlobals T.mg) (a : fGlo x T.K = true) (o : fErrV x T.K = true) : Err0 T x (gA x T.K) := by
  obtain ⟨o1, o2⟩ := Bool.and_eq_true_iff.mp o
  obtain ⟨z1, z2, z3⟩ := ownB_ok o1
  exact ⟨glo_mg KX G a, z3, z1, z2, ⟨_, _, _, _, PySem.F.excBase_ValueError, o2⟩⟩
theorem errL_at (KX : T.K.In h) (G : h.Ns mainGlobals T.mg) (a : fGlo x T.K = true) (o : fErrL x T.K = true) : Err0 T x (gA x T.K) := by
  obtain ⟨o1, o2⟩ := Bool.and_eq_true_iff.mp o
  obtain ⟨z1, z2, z3⟩ := ownB_ok o1
  exact ⟨glo_mg KX G a, z3, z1, z2, ⟨_, _, _, _, PySem.F.excBase_LookupError, o2⟩⟩
end
/-- which of some classes each of them is below: itself alone -/
def fSorts (L : List Str) : FB := fun K => L.zipIdx.all fun p => L.zipIdx.all fun q => decide (PySem.W.kitOne K (.ref (gA p.1 K)) (.ref (gA q.1 K)) = some (decide (p.2 = q.2)))
theorem sorts_of {L : List Str} {K : PySem.W.Frag} (h : fSorts L K = true) {i j : Nat} {x y : Str} (hi : L[i]? = some x) (hj : L[j]? = some y) : PySem.W.kitOne K (.ref (gA x K)) (.ref (gA y K)) = some (decide (i = j)) := by
  have hm : ∀ {k : Nat} {z : Str}, L[k]? = some z → (z, k) ∈ L.zipIdx := fun {k z} e => by
    rw [List.mem_iff_getElem?]
    exact ⟨k, by rw [List.getElem?_zipIdx, e]; simp⟩
  have h1 := List.all_eq_true.mp h (x, i) (hm hi)
  exact of_decide_eq_true (List.all_eq_true.mp h1 (y, j) (hm hj))
def lgOf : Nat → String
  | 0 => "ValueError"
  | 1 => "LookupError"
  | _ => "ArithmeticError"
/-- under which base class each of some classes is -/
def fBasL (L : List (Str × Nat)) : FB := fun K => L.all fun p => exkB K (gA p.1 K) && (fKit p.1 "WrongValue" (p.2 == 0) K && (fKit p.1 "WrongName" (p.2 == 1) K && (fKit p.1 "NotPossible" (p.2 == 2) K && fKitL p.1 (lgOf p.2) K)))
theorem basL_of {T : Wd} {L : List (Str × Nat)} (h : fBasL L T.K = true) {x : Str} {k : Nat} (hm : (x, k) ∈ L) : BasK T.K (gA "WrongValue" T.K) (gA "WrongName" T.K) (gA "NotPossible" T.K) (gA x T.K) (k == 0) (k == 1) (k == 2) := by
  have h := List.all_eq_true.mp h _ hm
  obtain ⟨h1, h⟩ := Bool.and_eq_true_iff.mp h
  obtain ⟨h2, h⟩ := Bool.and_eq_true_iff.mp h
  obtain ⟨h3, h⟩ := Bool.and_eq_true_iff.mp h
  obtain ⟨h4, h5⟩ := Bool.and_eq_true_iff.mp h
  have h5 : PySem.W.kitOne T.K (.ref (gA x T.K)) (.type (lgOf k)) = some true := of_decide_eq_true h5
  refine ⟨exkB_ok h1, kit_of h2, kit_of h3, kit_of h4, fun e => ?_, fun e => ?_, fun e => ?_⟩
  · rw [show k = 0 from by simpa using e] at h5; exact h5
  · rw [show k = 1 from by simpa using e] at h5; exact h5
  · rw [show k = 2 from by simpa using e] at h5; exact h5
end Pdl
namespace Pdl
open PySem L2 PyProof.Rows
/-- the errors with a field, in the law's order; those without -/
def errA : List (Str × Str) := [("InvalidText", "given"), ("InvalidRing", "given"), ("InvalidOrder", "given"), ("InvalidStand", "given"), ("InvalidPair", "given"), ("InvalidNumber", "given"), ("InvalidWish", "given"), ("InvalidCommand", "given"), ("NotAWeb", "given"), ("NotAWay", "given"),
  ("InvalidTies", "index"), ("InvalidArrows", "index"), ("InvalidRow", "index"), ("InvalidRules", "index"), ("InvalidHints", "index"), ("UnknownPlace", "given"), ("NotGiving", "given"), ("NotTaking", "given"), ("Broken", "index")]
def errN : List Str := ["InvalidText", "InvalidRing", "InvalidOrder", "InvalidStand", "InvalidPair", "InvalidNumber", "InvalidWish", "InvalidCommand", "NotAWeb", "NotAWay", "InvalidTies", "InvalidArrows", "InvalidRow", "InvalidRules", "InvalidHints", "UnknownPlace", "NotGiving", "NotTaking", "Broken", "Apart", "Ringed", "NothingToUndo"]
def n22 : List Nat := [0, 1, 2, 3, 4, 5, 6, 7, 8, 9, 10, 11, 12, 13, 14, 15, 16, 17, 18, 19, 20, 21]
/-- under which of the three base classes -/
def undE (i : Nat) : Nat := if i < 15 then 0 else if i = 15 then 1 else 2
def errU : List (Str × Nat) := [("InvalidText", 0), ("InvalidRing", 0), ("InvalidOrder", 0), ("InvalidStand", 0), ("InvalidPair", 0), ("InvalidNumber", 0), ("InvalidWish", 0), ("InvalidCommand", 0), ("NotAWeb", 0), ("NotAWay", 0), ("InvalidTies", 0), ("InvalidArrows", 0), ("InvalidRow", 0), ("InvalidRules", 0), ("InvalidHints", 0), ("UnknownPlace", 1), ("NotGiving", 2), ("NotTaking", 2), ("Broken", 2), ("Apart", 2), ("Ringed", 2), ("NothingToUndo", 2), ("WrongValue", 0), ("WrongName", 1), ("NotPossible", 2)]
/-- the errors that are made, as values -/
def madeE (K : PySem.W.Frag) (v w : D) : List D := [.exc (gA "InvalidText" K) [("given", v)], .exc (gA "InvalidRing" K) [("given", w)], .exc (gA "InvalidOrder" K) [("given", v)], .exc (gA "InvalidStand" K) [("given", w)], .exc (gA "InvalidPair" K) [("given", v)], .exc (gA "InvalidNumber" K) [("given", w)],
  .exc (gA "InvalidWish" K) [("given", v)], .exc (gA "InvalidCommand" K) [("given", w)], .exc (gA "NotAWeb" K) [("given", v)], .exc (gA "NotAWay" K) [("given", w)], .exc (gA "InvalidTies" K) [("index", v)], .exc (gA "InvalidArrows" K) [("index", w)], .exc (gA "InvalidRow" K) [("index", v)],
  .exc (gA "InvalidRules" K) [("index", w)], .exc (gA "InvalidHints" K) [("index", v)], .exc (gA "UnknownPlace" K) [("given", w)], .exc (gA "NotGiving" K) [("given", v)], .exc (gA "NotTaking" K) [("given", w)], .exc (gA "Broken" K) [("index", v)]]
def allE (K : PySem.W.Frag) (v w : D) : List D := madeE K v w ++ [.exc (gA "Apart" K) [], .exc (gA "Ringed" K) [], .exc (gA "NothingToUndo" K) []]
theorem allE_get (K : PySem.W.Frag) (v w : D) : ∀ i, i < 22 → ∃ x fs, errN[i]? = some x ∧ (x, undE i) ∈ errU ∧ (allE K v w)[i]? = some (.exc (gA x K) fs) ∧ (i < 19 → ∃ f, (x, f) ∈ errA ∧ f = (if i ∈ [10, 11, 12, 13, 14, 18] then "index" else "given") ∧ fs = [(f, if i % 2 = 0 then v else w)]) := by
  intro i hi
  match i, hi with
  | 0, _ => exact ⟨_, _, rfl, by decide, rfl, fun _ => ⟨_, by decide, rfl, rfl⟩⟩
  | 1, _ => exact ⟨_, _, rfl, by decide, rfl, fun _ => ⟨_, by decide, rfl, rfl⟩⟩
  | 2, _ => exact ⟨_, _, rfl, by decide, rfl, fun _ => ⟨_, by decide, rfl, rfl⟩⟩
  | 3, _ => exact ⟨_, _, rfl, by decide, rfl, fun _ => ⟨_, by decide, rfl, rfl⟩⟩
  | 4, _ => exact ⟨_, _, rfl, by decide, rfl, fun _ => ⟨_, by decide, rfl, rfl⟩⟩
  | 5, _ => exact ⟨_, _, rfl, by decide, rfl, fun _ => ⟨_, by decide, rfl, rfl⟩⟩
  | 6, _ => exact ⟨_, _, rfl, by decide, rfl, fun _ => ⟨_, by decide, rfl, rfl⟩⟩
  | 7, _ => exact ⟨_, _, rfl, by decide, rfl, fun _ => ⟨_, by decide, rfl, rfl⟩⟩
  | 8, _ => exact ⟨_, _, rfl, by decide, rfl, fun _ => ⟨_, by decide, rfl, rfl⟩⟩
  | 9, _ => exact ⟨_, _, rfl, by decide, rfl, fun _ => ⟨_, by decide, rfl, rfl⟩⟩
  | 10, _ => exact ⟨_, _, rfl, by decide, rfl, fun _ => ⟨_, by decide, rfl, rfl⟩⟩
  | 11, _ => exact ⟨_, _, rfl, by decide, rfl, fun _ => ⟨_, by decide, rfl, rfl⟩⟩
  | 12, _ => exact ⟨_, _, rfl, by decide, rfl, fun _ => ⟨_, by decide, rfl, rfl⟩⟩
  | 13, _ => exact ⟨_, _, rfl, by decide, rfl, fun _ => ⟨_, by decide, rfl, rfl⟩⟩
  | 14, _ => exact ⟨_, _, rfl, by decide, rfl, fun _ => ⟨_, by decide, rfl, rfl⟩⟩
  | 15, _ => exact ⟨_, _, rfl, by decide, rfl, fun _ => ⟨_, by decide, rfl, rfl⟩⟩
  | 16, _ => exact ⟨_, _, rfl, by decide, rfl, fun _ => ⟨_, by decide, rfl, rfl⟩⟩
  | 17, _ => exact ⟨_, _, rfl, by decide, rfl, fun _ => ⟨_, by decide, rfl, rfl⟩⟩
  | 18, _ => exact ⟨_, _, rfl, by decide, rfl, fun _ => ⟨_, by decide, rfl, rfl⟩⟩
  | 19, _ => exact ⟨_, _, rfl, by decide, rfl, fun h => absurd h (by omega)⟩
  | 20, _ => exact ⟨_, _, rfl, by decide, rfl, fun h => absurd h (by omega)⟩
  | 21, _ => exact ⟨_, _, rfl, by decide, rfl, fun h => absurd h (by omega)⟩
  | n + 22, h => exact absurd h (by omega)
theorem rpA_ints {K : PySem.W.Frag} {G : Hp} : ∀ {ns : List Int} {vs : List V}, RpA K G vs (ns.map D.int) → vs = ns.map V.int
  | [], _, h => by cases h; rfl
  | n :: ns, _, h => by
    cases h with
    | cons h1 h2 =>
      cases h1
      rw [rpA_ints h2]
      rfl
theorem inV_ints (i : Int) (ns : List Int) : inV (.int i) (ns.map V.int) = decide (i ∈ ns) := by
  unfold inV
  induction ns with
  | nil => rfl
  | cons n ns ih =>
    rw [List.map_cons, List.any_cons, ih]
    by_cases h : n = i
    · subst h; simp [eqV]
    · have h' : ¬ i = n := fun z => h z.symm
      simp [eqV, h, h']
theorem od_inI {X : Cx} {i : Int} {ns : List Int} : OpD X (compareOp .In) (.int i) (.lst (ns.map D.int)) (.bl (decide (i ∈ ns))) := .of op_in_seq fun a b H q m hm h1 h2 k => by
  cases h1
  cases h2 with
  | lst s1 r1 =>
    rw [rpA_ints r1] at s1
    refine ⟨_, _, rfl, .inl ((hid_sub m H).sqL s1), rfl, ?_, ?_⟩
    · rw [List.all_eq_true]
      intro v hv
      obtain ⟨z, _, rfl⟩ := List.mem_map.mp hv
      rfl
    rw [inV_ints]
    exact k _ H (Sub.refl H) (.bl _)
def sSorts (K : PySem.W.Frag) : PSp := fun ds Q => ∃ x i fs, ds = [.exc (gA x K) fs] ∧ errN[i]? = some x ∧ Q (.lst ((n22.map fun j => decide (i = j)).map D.bl))
def sMadeE (K : PySem.W.Frag) : PSp := fun ds Q => ∃ v w, ds = [v, w] ∧ Q (.lst (madeE K v w))
def sKept (K : PySem.W.Frag) : PSp := fun ds Q => ∃ (C : Addr) (f : Str) (y : D) (i : Nat), ds = [.exc C [(f, y)], .int (i : Int)] ∧ XfC K C ∧ PySem.W.findIn K (.ref C) f = some none ∧ f = (if i ∈ [10, 11, 12, 13, 14, 18] then "index" else "given") ∧ i < 19 ∧ Q y
end Pdl
namespace Pdl
open PySem L2 PyProof.Rows
def top (i : Nat) : Stmt := PySem.Challenge.pw_pushdowns_k01_limits_and_errors.main.body.getD i (.Pass ⟨0, 0, 0, 0⟩)
abbrev s_InvalidText___init__ : Stmt := inClass (top 2) 0
theorem sc_InvalidText___init__ : FnScope ["self", "given"] ["self", "given"] (defScope s_InvalidText___init__) := ⟨rfl, rfl, rfl, by decide +kernel, rfl, by decide +kernel, by decide +kernel⟩
abbrev s_InvalidRing___init__ : Stmt := inClass (top 3) 0
theorem sc_InvalidRing___init__ : FnScope ["self", "given"] ["self", "given"] (defScope s_InvalidRing___init__) := ⟨rfl, rfl, rfl, by decide +kernel, rfl, by decide +kernel, by decide +kernel⟩
abbrev s_InvalidOrder___init__ : Stmt := inClass (top 4) 0
theorem sc_InvalidOrder___init__ : FnScope ["self", "given"] ["self", "given"] (defScope s_InvalidOrder___init__) := ⟨rfl, rfl, rfl, by decide +kernel, rfl, by decide +kernel, by decide +kernel⟩
abbrev s_InvalidStand___init__ : Stmt := inClass (top 5) 0
theorem sc_InvalidStand___init__ : FnScope ["self", "given"] ["self", "given"] (defScope s_InvalidStand___init__) := ⟨rfl, rfl, rfl, by decide +kernel, rfl, by decide +kernel, by decide +kernel⟩
abbrev s_InvalidPair___init__ : Stmt := inClass (top 6) 0
theorem sc_InvalidPair___init__ : FnScope ["self", "given"] ["self", "given"] (defScope s_InvalidPair___init__) := ⟨rfl, rfl, rfl, by decide +kernel, rfl, by decide +kernel, by decide +kernel⟩
abbrev s_InvalidNumber___init__ : Stmt := inClass (top 7) 0
theorem sc_InvalidNumber___init__ : FnScope ["self", "given"] ["self", "given"] (defScope s_InvalidNumber___init__) := ⟨rfl, rfl, rfl, by decide +kernel, rfl, by decide +kernel, by decide +kernel⟩
abbrev s_InvalidWish___init__ : Stmt := inClass (top 8) 0
theorem sc_InvalidWish___init__ : FnScope ["self", "given"] ["self", "given"] (defScope s_InvalidWish___init__) := ⟨rfl, rfl, rfl, by decide +kernel, rfl, by decide +kernel, by decide +kernel⟩
abbrev s_InvalidCommand___init__ : Stmt := inClass (top 9) 0
theorem sc_InvalidCommand___init__ : FnScope ["self", "given"] ["self", "given"] (defScope s_InvalidCommand___init__) := ⟨rfl, rfl, rfl, by decide +kernel, rfl, by decide +kernel, by decide +kernel⟩
abbrev s_NotAWeb___init__ : Stmt := inClass (top 10) 0
theorem sc_NotAWeb___init__ : FnScope ["self", "given"] ["self", "given"] (defScope s_NotAWeb___init__) := ⟨rfl, rfl, rfl, by decide +kernel, rfl, by decide +kernel, by decide +kernel⟩
abbrev s_NotAWay___init__ : Stmt := inClass (top 11) 0
theorem sc_NotAWay___init__ : FnScope ["self", "given"] ["self", "given"] (defScope s_NotAWay___init__) := ⟨rfl, rfl, rfl, by decide +kernel, rfl, by decide +kernel, by decide +kernel⟩
abbrev s_InvalidTies___init__ : Stmt := inClass (top 12) 0
theorem sc_InvalidTies___init__ : FnScope ["self", "index"] ["self", "index"] (defScope s_InvalidTies___init__) := ⟨rfl, rfl, rfl, by decide +kernel, rfl, by decide +kernel, by decide +kernel⟩
abbrev s_InvalidArrows___init__ : Stmt := inClass (top 13) 0
theorem sc_InvalidArrows___init__ : FnScope ["self", "index"] ["self", "index"] (defScope s_InvalidArrows___init__) := ⟨rfl, rfl, rfl, by decide +kernel, rfl, by decide +kernel, by decide +kernel⟩
abbrev s_InvalidRow___init__ : Stmt := inClass (top 14) 0
theorem sc_InvalidRow___init__ : FnScope ["self", "index"] ["self", "index"] (defScope s_InvalidRow___init__) := ⟨rfl, rfl, rfl, by decide +kernel, rfl, by decide +kernel, by decide +kernel⟩
abbrev s_InvalidRules___init__ : Stmt := inClass (top 15) 0
theorem sc_InvalidRules___init__ : FnScope ["self", "index"] ["self", "index"] (defScope s_InvalidRules___init__) := ⟨rfl, rfl, rfl, by decide +kernel, rfl, by decide +kernel, by decide +kernel⟩
abbrev s_InvalidHints___init__ : Stmt := inClass (top 16) 0
theorem sc_InvalidHints___init__ : FnScope ["self", "index"] ["self", "index"] (defScope s_InvalidHints___init__) := ⟨rfl, rfl, rfl, by decide +kernel, rfl, by decide +kernel, by decide +kernel⟩
abbrev s_UnknownPlace___init__ : Stmt := inClass (top 18) 0
theorem sc_UnknownPlace___init__ : FnScope ["self", "given"] ["self", "given"] (defScope s_UnknownPlace___init__) := ⟨rfl, rfl, rfl, by decide +kernel, rfl, by decide +kernel, by decide +kernel⟩
abbrev s_NotGiving___init__ : Stmt := inClass (top 22) 0
theorem sc_NotGiving___init__ : FnScope ["self", "given"] ["self", "given"] (defScope s_NotGiving___init__) := ⟨rfl, rfl, rfl, by decide +kernel, rfl, by decide +kernel, by decide +kernel⟩
abbrev s_NotTaking___init__ : Stmt := inClass (top 23) 0
theorem sc_NotTaking___init__ : FnScope ["self", "given"] ["self", "given"] (defScope s_NotTaking___init__) := ⟨rfl, rfl, rfl, by decide +kernel, rfl, by decide +kernel, by decide +kernel⟩
abbrev s_Broken___init__ : Stmt := inClass (top 25) 0
theorem sc_Broken___init__ : FnScope ["self", "index"] ["self", "index"] (defScope s_Broken___init__) := ⟨rfl, rfl, rfl, by decide +kernel, rfl, by decide +kernel, by decide +kernel⟩
abbrev s_Ljar : Stmt := top 29
theorem sc_Ljar : FnScope ["_law_script", "_law_k", "_law_churned", "_law_cell", "_law_base", "_law_digits"] ["_law_script", "_law_k"] (defScope s_Ljar) := ⟨rfl, rfl, rfl, by decide +kernel, rfl, by decide +kernel, by decide +kernel⟩
abbrev s_Ldip : Stmt := top 30
theorem sc_Ldip : FnScope ["_law_jar_here", "_law_wide", "_law_digit", "_law_seed"] ["_law_jar_here", "_law_wide"] (defScope s_Ldip) := ⟨rfl, rfl, rfl, by decide +kernel, rfl, by decide +kernel, by decide +kernel⟩
abbrev s_Lpick : Stmt := top 31
theorem sc_Lpick : FnScope ["_law_jar_here", "_law_menu", "_law_at"] ["_law_jar_here", "_law_menu"] (defScope s_Lpick) := ⟨rfl, rfl, rfl, by decide +kernel, rfl, by decide +kernel, by decide +kernel⟩
abbrev s_Lbases : Stmt := top 32
abbrev n_Lbases : List Str := ["_law_e", "_law_found"]
theorem sc_Lbases : FnScope ["_law_e", "_law_found"] ["_law_e"] (defScope s_Lbases) := ⟨rfl, rfl, rfl, by decide +kernel, rfl, by decide +kernel, by decide +kernel⟩
abbrev s_Lodd : Stmt := top 33
theorem sc_Lodd : FnScope ["_law_jar_here", "_law_menu"] ["_law_jar_here"] (defScope s_Lodd) := ⟨rfl, rfl, rfl, by decide +kernel, rfl, by decide +kernel, by decide +kernel⟩
abbrev s_Lsorts : Stmt := top 34
theorem sc_Lsorts : FnScope ["_law_e", "_law_found"] ["_law_e"] (defScope s_Lsorts) := ⟨rfl, rfl, rfl, by decide +kernel, rfl, by decide +kernel, by decide +kernel⟩
abbrev s_Lby_place : Stmt := top 35
theorem sc_Lby_place : FnScope ["_law_first", "_law_second", "_law_found"] ["_law_first", "_law_second"] (defScope s_Lby_place) := ⟨rfl, rfl, rfl, by decide +kernel, rfl, by decide +kernel, by decide +kernel⟩
abbrev s_Lby_word : Stmt := top 36
theorem sc_Lby_word : FnScope ["_law_first", "_law_second", "_law_found"] ["_law_first", "_law_second"] (defScope s_Lby_word) := ⟨rfl, rfl, rfl, by decide +kernel, rfl, by decide +kernel, by decide +kernel⟩
abbrev s_Lkept : Stmt := top 37
theorem sc_Lkept : FnScope ["_law_e", "_law_at"] ["_law_e", "_law_at"] (defScope s_Lkept) := ⟨rfl, rfl, rfl, by decide +kernel, rfl, by decide +kernel, by decide +kernel⟩
abbrev s_Lright : Stmt := top 38
abbrev n_Lright : List Str := ["_law_jar_here", "_law_first", "_law_second", "_law_made", "_law_at", "_law_under", "_law_due", "_law_k"]
theorem sc_Lright : FnScope ["_law_jar_here", "_law_first", "_law_second", "_law_made", "_law_at", "_law_under", "_law_due", "_law_k"] ["_law_jar_here"] (defScope s_Lright) := ⟨rfl, rfl, rfl, by decide +kernel, rfl, by decide +kernel, by decide +kernel⟩
abbrev s_law : Stmt := top 39
abbrev n_law : List Str := ["_law_script", "_law_plain_ones", "_law_e", "_law_k"]
theorem sc_law : FnScope ["_law_script", "_law_plain_ones", "_law_e", "_law_k"] ["_law_script"] (defScope s_law) := ⟨rfl, rfl, rfl, by decide +kernel, rfl, by decide +kernel, by decide +kernel⟩
theorem lit_0 : (Str.ofString "") = S [] := rfl
theorem lit_1 : (Str.ofString "a") = S [97] := rfl
theorem lit_2 : (Str.ofString "ab") = S [97, 98] := rfl
theorem lit_3 : (Str.ofString "ba") = S [98, 97] := rfl
theorem lit_4 : (Str.ofString "abc") = S [97, 98, 99] := rfl
theorem lit_5 : (Str.ofString "bc") = S [98, 99] := rfl
theorem lit_6 : (Str.ofString "A") = S [65] := rfl
theorem lit_7 : (Str.ofString "ab bc") = S [97, 98, 32, 98, 99] := rfl
theorem lit_8 : (Str.ofString "ab ab") = S [97, 98, 32, 97, 98] := rfl
def fc_0 : List FB := [fFree "len", fFree "min", fFree "max", fFree "sorted", fFree "set", fFree "list", fFree "tuple", fFree "str", fFree "int", fFree "range", fFree "abs", fFree "divmod", fFree "any", fFree "all", fFree "isinstance", fFree "ArithmeticError", fFree "LookupError", fFree "ValueError", fFree "repr", fInt "MOST_PLACES" 7, fInt "MOST_TIES" 10, fGlo "_law_bases", fGlo "_law_by_place", fGlo "_law_by_word", fGlo "_law_dip", fGlo "_law_jar", fGlo "_law_kept", fGlo "_law_odd", fGlo "_law_pick", fGlo "_law_right"]
def fc_1 : List FB := [fGlo "_law_sorts", fGlo "law", fGlo "Apart", fErr0 "Apart", fGlo "NotPossible", fErr0 "NotPossible", fGlo "NothingToUndo", fErr0 "NothingToUndo", fGlo "Ringed", fErr0 "Ringed", fGlo "WrongName", fErrL "WrongName", fGlo "WrongValue", fErrV "WrongValue", fGlo "Broken", fOexA "Broken", fNoF "Broken" "index", fIni "Broken", fGlo "InvalidArrows", fOexV "InvalidArrows", fNoF "InvalidArrows" "index", fIni "InvalidArrows", fGlo "InvalidCommand", fOexV "InvalidCommand", fNoF "InvalidCommand" "given", fIni "InvalidCommand", fGlo "InvalidHints", fOexV "InvalidHints", fNoF "InvalidHints" "index", fIni "InvalidHints"]
def fc_2 : List FB := [fGlo "InvalidNumber", fOexV "InvalidNumber", fNoF "InvalidNumber" "given", fIni "InvalidNumber", fGlo "InvalidOrder", fOexV "InvalidOrder", fNoF "InvalidOrder" "given", fIni "InvalidOrder", fGlo "InvalidPair", fOexV "InvalidPair", fNoF "InvalidPair" "given", fIni "InvalidPair", fGlo "InvalidRing", fOexV "InvalidRing", fNoF "InvalidRing" "given", fIni "InvalidRing", fGlo "InvalidRow", fOexV "InvalidRow", fNoF "InvalidRow" "index", fIni "InvalidRow", fGlo "InvalidRules", fOexV "InvalidRules", fNoF "InvalidRules" "index", fIni "InvalidRules", fGlo "InvalidStand", fOexV "InvalidStand", fNoF "InvalidStand" "given", fIni "InvalidStand", fGlo "InvalidText", fOexV "InvalidText"]
def fc_3 : List FB := [fNoF "InvalidText" "given", fIni "InvalidText", fGlo "InvalidTies", fOexV "InvalidTies", fNoF "InvalidTies" "index", fIni "InvalidTies", fGlo "InvalidWish", fOexV "InvalidWish", fNoF "InvalidWish" "given", fIni "InvalidWish", fGlo "NotAWay", fOexV "NotAWay", fNoF "NotAWay" "given", fIni "NotAWay", fGlo "NotAWeb", fOexV "NotAWeb", fNoF "NotAWeb" "given", fIni "NotAWeb", fGlo "NotGiving", fOexA "NotGiving", fNoF "NotGiving" "given", fIni "NotGiving", fGlo "NotTaking", fOexA "NotTaking", fNoF "NotTaking" "given", fIni "NotTaking", fGlo "UnknownPlace", fOexL "UnknownPlace", fNoF "UnknownPlace" "given", fIni "UnknownPlace"]
def fc_4 : List FB := [fBasL errU, fSorts errN]
def fcs : List FB := fc_0 ++ fc_1 ++ fc_2 ++ fc_3 ++ fc_4
def df_0 : List DefX := [⟨gA "_law_bases", "_law_bases", "_law_bases", s_Lbases⟩, ⟨gA "_law_by_place", "_law_by_place", "_law_by_place", s_Lby_place⟩, ⟨gA "_law_by_word", "_law_by_word", "_law_by_word", s_Lby_word⟩, ⟨gA "_law_dip", "_law_dip", "_law_dip", s_Ldip⟩, ⟨gA "_law_jar", "_law_jar", "_law_jar", s_Ljar⟩, ⟨gA "_law_kept", "_law_kept", "_law_kept", s_Lkept⟩, ⟨gA "_law_odd", "_law_odd", "_law_odd", s_Lodd⟩, ⟨gA "_law_pick", "_law_pick", "_law_pick", s_Lpick⟩, ⟨gA "_law_right", "_law_right", "_law_right", s_Lright⟩, ⟨gA "_law_sorts", "_law_sorts", "_law_sorts", s_Lsorts⟩, ⟨gA "law", "law", "law", s_law⟩, ⟨mA "Broken" "__init__", "__init__", "Broken.__init__", s_Broken___init__⟩]
def df_1 : List DefX := [⟨mA "InvalidArrows" "__init__", "__init__", "InvalidArrows.__init__", s_InvalidArrows___init__⟩, ⟨mA "InvalidCommand" "__init__", "__init__", "InvalidCommand.__init__", s_InvalidCommand___init__⟩, ⟨mA "InvalidHints" "__init__", "__init__", "InvalidHints.__init__", s_InvalidHints___init__⟩, ⟨mA "InvalidNumber" "__init__", "__init__", "InvalidNumber.__init__", s_InvalidNumber___init__⟩, ⟨mA "InvalidOrder" "__init__", "__init__", "InvalidOrder.__init__", s_InvalidOrder___init__⟩, ⟨mA "InvalidPair" "__init__", "__init__", "InvalidPair.__init__", s_InvalidPair___init__⟩, ⟨mA "InvalidRing" "__init__", "__init__", "InvalidRing.__init__", s_InvalidRing___init__⟩, ⟨mA "InvalidRow" "__init__", "__init__", "InvalidRow.__init__", s_InvalidRow___init__⟩, ⟨mA "InvalidRules" "__init__", "__init__", "InvalidRules.__init__", s_InvalidRules___init__⟩, ⟨mA "InvalidStand" "__init__", "__init__", "InvalidStand.__init__", s_InvalidStand___init__⟩, ⟨mA "InvalidText" "__init__", "__init__", "InvalidText.__init__", s_InvalidText___init__⟩, ⟨mA "InvalidTies" "__init__", "__init__", "InvalidTies.__init__", s_InvalidTies___init__⟩]
def df_2 : List DefX := [⟨mA "InvalidWish" "__init__", "__init__", "InvalidWish.__init__", s_InvalidWish___init__⟩, ⟨mA "NotAWay" "__init__", "__init__", "NotAWay.__init__", s_NotAWay___init__⟩, ⟨mA "NotAWeb" "__init__", "__init__", "NotAWeb.__init__", s_NotAWeb___init__⟩, ⟨mA "NotGiving" "__init__", "__init__", "NotGiving.__init__", s_NotGiving___init__⟩, ⟨mA "NotTaking" "__init__", "__init__", "NotTaking.__init__", s_NotTaking___init__⟩, ⟨mA "UnknownPlace" "__init__", "__init__", "UnknownPlace.__init__", s_UnknownPlace___init__⟩]
def dfs : List DefX := df_0 ++ df_1 ++ df_2
def lo_0 : List Str := ["WrongValue", "ValueError", "InvalidText", "InvalidRing", "InvalidOrder", "InvalidStand", "InvalidPair", "InvalidNumber", "InvalidWish", "InvalidCommand", "NotAWeb", "NotAWay", "InvalidTies", "InvalidArrows", "InvalidRow", "InvalidRules", "InvalidHints", "WrongName", "LookupError", "UnknownPlace", "NotPossible", "ArithmeticError", "Apart", "Ringed", "NotGiving", "NotTaking", "NothingToUndo", "Broken", "MOST_TIES", "MOST_PLACES"]
def lo_1 : List Str := ["_law_jar", "_law_dip", "_law_pick", "_law_bases", "_law_odd", "_law_sorts", "_law_by_place", "_law_by_word", "_law_kept", "_law_right"]
def loose : List Str := lo_0 ++ lo_1
abbrev Rw : PySem.W.OpenRow := PySem.W.OpenLaw.row PySem.Challenge.rw_pushdowns_k01_limits_and_errors
def na_0 : List Str := ["_law_bases", "_law_by_place", "_law_by_word", "_law_dip", "_law_jar", "_law_kept", "_law_odd", "_law_pick", "_law_right", "_law_sorts", "law", "Apart", "NotPossible", "NothingToUndo", "Ringed", "WrongName", "WrongValue", "Broken", "InvalidArrows", "InvalidCommand", "InvalidHints", "InvalidNumber", "InvalidOrder", "InvalidPair", "InvalidRing", "InvalidRow", "InvalidRules", "InvalidStand", "InvalidText", "InvalidTies"]
def na_1 : List Str := ["InvalidWish", "NotAWay", "NotAWeb", "NotGiving", "NotTaking", "UnknownPlace"]
def nms : List Str := na_0 ++ na_1
abbrev hk : PySem.W.Hook := hookX 4 nms fcs dfs
def ob (s : PySem.W.SharedT) : AlX := lookX 4 nms fcs dfs (HandSHeadRun.getT s)
theorem ob_eq (s : PySem.W.SharedT) : ob s = hk.obs s.abs := lookX_eq (HandSHeadRun.getT_eq s)
theorem run (w : World) : HandSHeadRun.RunEq Rw (PySem.W.view Rw.prog [39]) hk ob 20000 loose w := by
  intro os
  kernel_rfl
end Pdl
namespace Pdl
open PySem L2 PyProof.Rows
local macro_rules | `(tactic| walk_at "xv") => `(tactic| first | ((with_reducible show XE _ _ (Expr.Name (Str.ofString "self") _) _ _); (first | refine xe_var (i := 0) rfl (.inl rfl) rfl ?_ | refine xe_var (i := 0) rfl (.inr (.inl rfl)) rfl ?_ | refine xe_var (i := 0) rfl (.inr (.inr rfl)) rfl ?_)) | ((with_reducible show XE _ _ (Expr.Name (Str.ofString "given") _) _ _); (first | refine xe_var (i := 1) rfl (.inl rfl) rfl ?_ | refine xe_var (i := 1) rfl (.inr (.inl rfl)) rfl ?_ | refine xe_var (i := 1) rfl (.inr (.inr rfl)) rfl ?_)) | ((with_reducible show XE _ _ (Expr.Name (Str.ofString "index") _) _ _); (first | refine xe_var (i := 1) rfl (.inl rfl) rfl ?_ | refine xe_var (i := 1) rfl (.inr (.inl rfl)) rfl ?_ | refine xe_var (i := 1) rfl (.inr (.inr rfl)) rfl ?_)) | ((with_reducible show XE _ _ (Expr.Name (Str.ofString "_law_script") _) _ _); (first | refine xe_var (i := 0) rfl (.inl rfl) rfl ?_ | refine xe_var (i := 0) rfl (.inr (.inl rfl)) rfl ?_ | refine xe_var (i := 0) rfl (.inr (.inr rfl)) rfl ?_)) | ((with_reducible show XE _ _ (Expr.Name (Str.ofString "_law_k") _) _ _); (first | refine xe_var (i := 1) rfl (.inl rfl) rfl ?_ | refine xe_var (i := 1) rfl (.inr (.inl rfl)) rfl ?_ | refine xe_var (i := 1) rfl (.inr (.inr rfl)) rfl ?_ | refine xe_var (i := 3) rfl (.inl rfl) rfl ?_ | refine xe_var (i := 3) rfl (.inr (.inl rfl)) rfl ?_ | refine xe_var (i := 3) rfl (.inr (.inr rfl)) rfl ?_ | refine xe_var (i := 7) rfl (.inl rfl) rfl ?_ | refine xe_var (i := 7) rfl (.inr (.inl rfl)) rfl ?_ | refine xe_var (i := 7) rfl (.inr (.inr rfl)) rfl ?_)) | ((with_reducible show XE _ _ (Expr.Name (Str.ofString "_law_churned") _) _ _); (first | refine xe_var (i := 2) rfl (.inl rfl) rfl ?_ | refine xe_var (i := 2) rfl (.inr (.inl rfl)) rfl ?_ | refine xe_var (i := 2) rfl (.inr (.inr rfl)) rfl ?_)) | ((with_reducible show XE _ _ (Expr.Name (Str.ofString "_law_cell") _) _ _); (first | refine xe_var (i := 3) rfl (.inl rfl) rfl ?_ | refine xe_var (i := 3) rfl (.inr (.inl rfl)) rfl ?_ | refine xe_var (i := 3) rfl (.inr (.inr rfl)) rfl ?_)) | ((with_reducible show XE _ _ (Expr.Name (Str.ofString "_law_base") _) _ _); (first | refine xe_var (i := 4) rfl (.inl rfl) rfl ?_ | refine xe_var (i := 4) rfl (.inr (.inl rfl)) rfl ?_ | refine xe_var (i := 4) rfl (.inr (.inr rfl)) rfl ?_)) | ((with_reducible show XE _ _ (Expr.Name (Str.ofString "_law_digits") _) _ _); (first | refine xe_var (i := 5) rfl (.inl rfl) rfl ?_ | refine xe_var (i := 5) rfl (.inr (.inl rfl)) rfl ?_ | refine xe_var (i := 5) rfl (.inr (.inr rfl)) rfl ?_)) | ((with_reducible show XE _ _ (Expr.Name (Str.ofString "_law_jar_here") _) _ _); (first | refine xe_var (i := 0) rfl (.inl rfl) rfl ?_ | refine xe_var (i := 0) rfl (.inr (.inl rfl)) rfl ?_ | refine xe_var (i := 0) rfl (.inr (.inr rfl)) rfl ?_)) | ((with_reducible show XE _ _ (Expr.Name (Str.ofString "_law_wide") _) _ _); (first | refine xe_var (i := 1) rfl (.inl rfl) rfl ?_ | refine xe_var (i := 1) rfl (.inr (.inl rfl)) rfl ?_ | refine xe_var (i := 1) rfl (.inr (.inr rfl)) rfl ?_)) | ((with_reducible show XE _ _ (Expr.Name (Str.ofString "_law_digit") _) _ _); (first | refine xe_var (i := 2) rfl (.inl rfl) rfl ?_ | refine xe_var (i := 2) rfl (.inr (.inl rfl)) rfl ?_ | refine xe_var (i := 2) rfl (.inr (.inr rfl)) rfl ?_)) | ((with_reducible show XE _ _ (Expr.Name (Str.ofString "_law_seed") _) _ _); (first | refine xe_var (i := 3) rfl (.inl rfl) rfl ?_ | refine xe_var (i := 3) rfl (.inr (.inl rfl)) rfl ?_ | refine xe_var (i := 3) rfl (.inr (.inr rfl)) rfl ?_)) | ((with_reducible show XE _ _ (Expr.Name (Str.ofString "_law_menu") _) _ _); (first | refine xe_var (i := 1) rfl (.inl rfl) rfl ?_ | refine xe_var (i := 1) rfl (.inr (.inl rfl)) rfl ?_ | refine xe_var (i := 1) rfl (.inr (.inr rfl)) rfl ?_)) | ((with_reducible show XE _ _ (Expr.Name (Str.ofString "_law_at") _) _ _); (first | refine xe_var (i := 1) rfl (.inl rfl) rfl ?_ | refine xe_var (i := 1) rfl (.inr (.inl rfl)) rfl ?_ | refine xe_var (i := 1) rfl (.inr (.inr rfl)) rfl ?_ | refine xe_var (i := 2) rfl (.inl rfl) rfl ?_ | refine xe_var (i := 2) rfl (.inr (.inl rfl)) rfl ?_ | refine xe_var (i := 2) rfl (.inr (.inr rfl)) rfl ?_ | refine xe_var (i := 4) rfl (.inl rfl) rfl ?_ | refine xe_var (i := 4) rfl (.inr (.inl rfl)) rfl ?_ | refine xe_var (i := 4) rfl (.inr (.inr rfl)) rfl ?_)) | ((with_reducible show XE _ _ (Expr.Name (Str.ofString "_law_e") _) _ _); (first | refine xe_var (i := 0) rfl (.inl rfl) rfl ?_ | refine xe_var (i := 0) rfl (.inr (.inl rfl)) rfl ?_ | refine xe_var (i := 0) rfl (.inr (.inr rfl)) rfl ?_ | refine xe_var (i := 2) rfl (.inl rfl) rfl ?_ | refine xe_var (i := 2) rfl (.inr (.inl rfl)) rfl ?_ | refine xe_var (i := 2) rfl (.inr (.inr rfl)) rfl ?_)) | ((with_reducible show XE _ _ (Expr.Name (Str.ofString "_law_found") _) _ _); (first | refine xe_var (i := 1) rfl (.inl rfl) rfl ?_ | refine xe_var (i := 1) rfl (.inr (.inl rfl)) rfl ?_ | refine xe_var (i := 1) rfl (.inr (.inr rfl)) rfl ?_ | refine xe_var (i := 2) rfl (.inl rfl) rfl ?_ | refine xe_var (i := 2) rfl (.inr (.inl rfl)) rfl ?_ | refine xe_var (i := 2) rfl (.inr (.inr rfl)) rfl ?_)) | ((with_reducible show XE _ _ (Expr.Name (Str.ofString "_law_first") _) _ _); (first | refine xe_var (i := 0) rfl (.inl rfl) rfl ?_ | refine xe_var (i := 0) rfl (.inr (.inl rfl)) rfl ?_ | refine xe_var (i := 0) rfl (.inr (.inr rfl)) rfl ?_ | refine xe_var (i := 1) rfl (.inl rfl) rfl ?_ | refine xe_var (i := 1) rfl (.inr (.inl rfl)) rfl ?_ | refine xe_var (i := 1) rfl (.inr (.inr rfl)) rfl ?_)) | ((with_reducible show XE _ _ (Expr.Name (Str.ofString "_law_second") _) _ _); (first | refine xe_var (i := 1) rfl (.inl rfl) rfl ?_ | refine xe_var (i := 1) rfl (.inr (.inl rfl)) rfl ?_ | refine xe_var (i := 1) rfl (.inr (.inr rfl)) rfl ?_ | refine xe_var (i := 2) rfl (.inl rfl) rfl ?_ | refine xe_var (i := 2) rfl (.inr (.inl rfl)) rfl ?_ | refine xe_var (i := 2) rfl (.inr (.inr rfl)) rfl ?_)) | ((with_reducible show XE _ _ (Expr.Name (Str.ofString "_law_made") _) _ _); (first | refine xe_var (i := 3) rfl (.inl rfl) rfl ?_ | refine xe_var (i := 3) rfl (.inr (.inl rfl)) rfl ?_ | refine xe_var (i := 3) rfl (.inr (.inr rfl)) rfl ?_)) | ((with_reducible show XE _ _ (Expr.Name (Str.ofString "_law_under") _) _ _); (first | refine xe_var (i := 5) rfl (.inl rfl) rfl ?_ | refine xe_var (i := 5) rfl (.inr (.inl rfl)) rfl ?_ | refine xe_var (i := 5) rfl (.inr (.inr rfl)) rfl ?_)) | ((with_reducible show XE _ _ (Expr.Name (Str.ofString "_law_due") _) _ _); (first | refine xe_var (i := 6) rfl (.inl rfl) rfl ?_ | refine xe_var (i := 6) rfl (.inr (.inl rfl)) rfl ?_ | refine xe_var (i := 6) rfl (.inr (.inr rfl)) rfl ?_)) | ((with_reducible show XE _ _ (Expr.Name (Str.ofString "_law_plain_ones") _) _ _); (first | refine xe_var (i := 1) rfl (.inl rfl) rfl ?_ | refine xe_var (i := 1) rfl (.inr (.inl rfl)) rfl ?_ | refine xe_var (i := 1) rfl (.inr (.inr rfl)) rfl ?_)))
local macro_rules | `(tactic| walk_at "xset") => `(tactic| first | ((with_reducible show XS _ _ (Stmt.Assign [Expr.Name (Str.ofString "self") _] _ _) _ _); (first | refine xs_set (i := 0) (by assumption) rfl (.inl rfl) ?_ | refine xs_set (i := 0) (by assumption) rfl (.inr rfl) ?_)) | ((with_reducible show XS _ _ (Stmt.Assign [Expr.Name (Str.ofString "given") _] _ _) _ _); (first | refine xs_set (i := 1) (by assumption) rfl (.inl rfl) ?_ | refine xs_set (i := 1) (by assumption) rfl (.inr rfl) ?_)) | ((with_reducible show XS _ _ (Stmt.Assign [Expr.Name (Str.ofString "index") _] _ _) _ _); (first | refine xs_set (i := 1) (by assumption) rfl (.inl rfl) ?_ | refine xs_set (i := 1) (by assumption) rfl (.inr rfl) ?_)) | ((with_reducible show XS _ _ (Stmt.Assign [Expr.Name (Str.ofString "_law_script") _] _ _) _ _); (first | refine xs_set (i := 0) (by assumption) rfl (.inl rfl) ?_ | refine xs_set (i := 0) (by assumption) rfl (.inr rfl) ?_)) | ((with_reducible show XS _ _ (Stmt.Assign [Expr.Name (Str.ofString "_law_k") _] _ _) _ _); (first | refine xs_set (i := 1) (by assumption) rfl (.inl rfl) ?_ | refine xs_set (i := 1) (by assumption) rfl (.inr rfl) ?_ | refine xs_set (i := 3) (by assumption) rfl (.inl rfl) ?_ | refine xs_set (i := 3) (by assumption) rfl (.inr rfl) ?_ | refine xs_set (i := 7) (by assumption) rfl (.inl rfl) ?_ | refine xs_set (i := 7) (by assumption) rfl (.inr rfl) ?_)) | ((with_reducible show XS _ _ (Stmt.Assign [Expr.Name (Str.ofString "_law_churned") _] _ _) _ _); (first | refine xs_set (i := 2) (by assumption) rfl (.inl rfl) ?_ | refine xs_set (i := 2) (by assumption) rfl (.inr rfl) ?_)) | ((with_reducible show XS _ _ (Stmt.Assign [Expr.Name (Str.ofString "_law_cell") _] _ _) _ _); (first | refine xs_set (i := 3) (by assumption) rfl (.inl rfl) ?_ | refine xs_set (i := 3) (by assumption) rfl (.inr rfl) ?_)) | ((with_reducible show XS _ _ (Stmt.Assign [Expr.Name (Str.ofString "_law_base") _] _ _) _ _); (first | refine xs_set (i := 4) (by assumption) rfl (.inl rfl) ?_ | refine xs_set (i := 4) (by assumption) rfl (.inr rfl) ?_)) | ((with_reducible show XS _ _ (Stmt.Assign [Expr.Name (Str.ofString "_law_digits") _] _ _) _ _); (first | refine xs_set (i := 5) (by assumption) rfl (.inl rfl) ?_ | refine xs_set (i := 5) (by assumption) rfl (.inr rfl) ?_)) | ((with_reducible show XS _ _ (Stmt.Assign [Expr.Name (Str.ofString "_law_jar_here") _] _ _) _ _); (first | refine xs_set (i := 0) (by assumption) rfl (.inl rfl) ?_ | refine xs_set (i := 0) (by assumption) rfl (.inr rfl) ?_)) | ((with_reducible show XS _ _ (Stmt.Assign [Expr.Name (Str.ofString "_law_wide") _] _ _) _ _); (first | refine xs_set (i := 1) (by assumption) rfl (.inl rfl) ?_ | refine xs_set (i := 1) (by assumption) rfl (.inr rfl) ?_)) | ((with_reducible show XS _ _ (Stmt.Assign [Expr.Name (Str.ofString "_law_digit") _] _ _) _ _); (first | refine xs_set (i := 2) (by assumption) rfl (.inl rfl) ?_ | refine xs_set (i := 2) (by assumption) rfl (.inr rfl) ?_)) | ((with_reducible show XS _ _ (Stmt.Assign [Expr.Name (Str.ofString "_law_seed") _] _ _) _ _); (first | refine xs_set (i := 3) (by assumption) rfl (.inl rfl) ?_ | refine xs_set (i := 3) (by assumption) rfl (.inr rfl) ?_)) | ((with_reducible show XS _ _ (Stmt.Assign [Expr.Name (Str.ofString "_law_menu") _] _ _) _ _); (first | refine xs_set (i := 1) (by assumption) rfl (.inl rfl) ?_ | refine xs_set (i := 1) (by assumption) rfl (.inr rfl) ?_)) | ((with_reducible show XS _ _ (Stmt.Assign [Expr.Name (Str.ofString "_law_at") _] _ _) _ _); (first | refine xs_set (i := 1) (by assumption) rfl (.inl rfl) ?_ | refine xs_set (i := 1) (by assumption) rfl (.inr rfl) ?_ | refine xs_set (i := 2) (by assumption) rfl (.inl rfl) ?_ | refine xs_set (i := 2) (by assumption) rfl (.inr rfl) ?_ | refine xs_set (i := 4) (by assumption) rfl (.inl rfl) ?_ | refine xs_set (i := 4) (by assumption) rfl (.inr rfl) ?_)) | ((with_reducible show XS _ _ (Stmt.Assign [Expr.Name (Str.ofString "_law_e") _] _ _) _ _); (first | refine xs_set (i := 0) (by assumption) rfl (.inl rfl) ?_ | refine xs_set (i := 0) (by assumption) rfl (.inr rfl) ?_ | refine xs_set (i := 2) (by assumption) rfl (.inl rfl) ?_ | refine xs_set (i := 2) (by assumption) rfl (.inr rfl) ?_)) | ((with_reducible show XS _ _ (Stmt.Assign [Expr.Name (Str.ofString "_law_found") _] _ _) _ _); (first | refine xs_set (i := 1) (by assumption) rfl (.inl rfl) ?_ | refine xs_set (i := 1) (by assumption) rfl (.inr rfl) ?_ | refine xs_set (i := 2) (by assumption) rfl (.inl rfl) ?_ | refine xs_set (i := 2) (by assumption) rfl (.inr rfl) ?_)) | ((with_reducible show XS _ _ (Stmt.Assign [Expr.Name (Str.ofString "_law_first") _] _ _) _ _); (first | refine xs_set (i := 0) (by assumption) rfl (.inl rfl) ?_ | refine xs_set (i := 0) (by assumption) rfl (.inr rfl) ?_ | refine xs_set (i := 1) (by assumption) rfl (.inl rfl) ?_ | refine xs_set (i := 1) (by assumption) rfl (.inr rfl) ?_)) | ((with_reducible show XS _ _ (Stmt.Assign [Expr.Name (Str.ofString "_law_second") _] _ _) _ _); (first | refine xs_set (i := 1) (by assumption) rfl (.inl rfl) ?_ | refine xs_set (i := 1) (by assumption) rfl (.inr rfl) ?_ | refine xs_set (i := 2) (by assumption) rfl (.inl rfl) ?_ | refine xs_set (i := 2) (by assumption) rfl (.inr rfl) ?_)) | ((with_reducible show XS _ _ (Stmt.Assign [Expr.Name (Str.ofString "_law_made") _] _ _) _ _); (first | refine xs_set (i := 3) (by assumption) rfl (.inl rfl) ?_ | refine xs_set (i := 3) (by assumption) rfl (.inr rfl) ?_)) | ((with_reducible show XS _ _ (Stmt.Assign [Expr.Name (Str.ofString "_law_under") _] _ _) _ _); (first | refine xs_set (i := 5) (by assumption) rfl (.inl rfl) ?_ | refine xs_set (i := 5) (by assumption) rfl (.inr rfl) ?_)) | ((with_reducible show XS _ _ (Stmt.Assign [Expr.Name (Str.ofString "_law_due") _] _ _) _ _); (first | refine xs_set (i := 6) (by assumption) rfl (.inl rfl) ?_ | refine xs_set (i := 6) (by assumption) rfl (.inr rfl) ?_)) | ((with_reducible show XS _ _ (Stmt.Assign [Expr.Name (Str.ofString "_law_plain_ones") _] _ _) _ _); (first | refine xs_set (i := 1) (by assumption) rfl (.inl rfl) ?_ | refine xs_set (i := 1) (by assumption) rfl (.inr rfl) ?_)))
local macro_rules | `(tactic| walk_at "xgn") => `(tactic| first | ((with_reducible show XG _ _ (Expr.Name (Str.ofString "self") _) _ _ _); (first | refine xg_name (i := 0) (by assumption) rfl (.inl rfl) ?_ | refine xg_name (i := 0) (by assumption) rfl (.inr rfl) ?_)) | ((with_reducible show XG _ _ (Expr.Name (Str.ofString "given") _) _ _ _); (first | refine xg_name (i := 1) (by assumption) rfl (.inl rfl) ?_ | refine xg_name (i := 1) (by assumption) rfl (.inr rfl) ?_)) | ((with_reducible show XG _ _ (Expr.Name (Str.ofString "index") _) _ _ _); (first | refine xg_name (i := 1) (by assumption) rfl (.inl rfl) ?_ | refine xg_name (i := 1) (by assumption) rfl (.inr rfl) ?_)) | ((with_reducible show XG _ _ (Expr.Name (Str.ofString "_law_script") _) _ _ _); (first | refine xg_name (i := 0) (by assumption) rfl (.inl rfl) ?_ | refine xg_name (i := 0) (by assumption) rfl (.inr rfl) ?_)) | ((with_reducible show XG _ _ (Expr.Name (Str.ofString "_law_k") _) _ _ _); (first | refine xg_name (i := 1) (by assumption) rfl (.inl rfl) ?_ | refine xg_name (i := 1) (by assumption) rfl (.inr rfl) ?_ | refine xg_name (i := 3) (by assumption) rfl (.inl rfl) ?_ | refine xg_name (i := 3) (by assumption) rfl (.inr rfl) ?_ | refine xg_name (i := 7) (by assumption) rfl (.inl rfl) ?_ | refine xg_name (i := 7) (by assumption) rfl (.inr rfl) ?_)) | ((with_reducible show XG _ _ (Expr.Name (Str.ofString "_law_churned") _) _ _ _); (first | refine xg_name (i := 2) (by assumption) rfl (.inl rfl) ?_ | refine xg_name (i := 2) (by assumption) rfl (.inr rfl) ?_)) | ((with_reducible show XG _ _ (Expr.Name (Str.ofString "_law_cell") _) _ _ _); (first | refine xg_name (i := 3) (by assumption) rfl (.inl rfl) ?_ | refine xg_name (i := 3) (by assumption) rfl (.inr rfl) ?_)) | ((with_reducible show XG _ _ (Expr.Name (Str.ofString "_law_base") _) _ _ _); (first | refine xg_name (i := 4) (by assumption) rfl (.inl rfl) ?_ | refine xg_name (i := 4) (by assumption) rfl (.inr rfl) ?_)) | ((with_reducible show XG _ _ (Expr.Name (Str.ofString "_law_digits") _) _ _ _); (first | refine xg_name (i := 5) (by assumption) rfl (.inl rfl) ?_ | refine xg_name (i := 5) (by assumption) rfl (.inr rfl) ?_)) | ((with_reducible show XG _ _ (Expr.Name (Str.ofString "_law_jar_here") _) _ _ _); (first | refine xg_name (i := 0) (by assumption) rfl (.inl rfl) ?_ | refine xg_name (i := 0) (by assumption) rfl (.inr rfl) ?_)) | ((with_reducible show XG _ _ (Expr.Name (Str.ofString "_law_wide") _) _ _ _); (first | refine xg_name (i := 1) (by assumption) rfl (.inl rfl) ?_ | refine xg_name (i := 1) (by assumption) rfl (.inr rfl) ?_)) | ((with_reducible show XG _ _ (Expr.Name (Str.ofString "_law_digit") _) _ _ _); (first | refine xg_name (i := 2) (by assumption) rfl (.inl rfl) ?_ | refine xg_name (i := 2) (by assumption) rfl (.inr rfl) ?_)) | ((with_reducible show XG _ _ (Expr.Name (Str.ofString "_law_seed") _) _ _ _); (first | refine xg_name (i := 3) (by assumption) rfl (.inl rfl) ?_ | refine xg_name (i := 3) (by assumption) rfl (.inr rfl) ?_)) | ((with_reducible show XG _ _ (Expr.Name (Str.ofString "_law_menu") _) _ _ _); (first | refine xg_name (i := 1) (by assumption) rfl (.inl rfl) ?_ | refine xg_name (i := 1) (by assumption) rfl (.inr rfl) ?_)) | ((with_reducible show XG _ _ (Expr.Name (Str.ofString "_law_at") _) _ _ _); (first | refine xg_name (i := 1) (by assumption) rfl (.inl rfl) ?_ | refine xg_name (i := 1) (by assumption) rfl (.inr rfl) ?_ | refine xg_name (i := 2) (by assumption) rfl (.inl rfl) ?_ | refine xg_name (i := 2) (by assumption) rfl (.inr rfl) ?_ | refine xg_name (i := 4) (by assumption) rfl (.inl rfl) ?_ | refine xg_name (i := 4) (by assumption) rfl (.inr rfl) ?_)) | ((with_reducible show XG _ _ (Expr.Name (Str.ofString "_law_e") _) _ _ _); (first | refine xg_name (i := 0) (by assumption) rfl (.inl rfl) ?_ | refine xg_name (i := 0) (by assumption) rfl (.inr rfl) ?_ | refine xg_name (i := 2) (by assumption) rfl (.inl rfl) ?_ | refine xg_name (i := 2) (by assumption) rfl (.inr rfl) ?_)) | ((with_reducible show XG _ _ (Expr.Name (Str.ofString "_law_found") _) _ _ _); (first | refine xg_name (i := 1) (by assumption) rfl (.inl rfl) ?_ | refine xg_name (i := 1) (by assumption) rfl (.inr rfl) ?_ | refine xg_name (i := 2) (by assumption) rfl (.inl rfl) ?_ | refine xg_name (i := 2) (by assumption) rfl (.inr rfl) ?_)) | ((with_reducible show XG _ _ (Expr.Name (Str.ofString "_law_first") _) _ _ _); (first | refine xg_name (i := 0) (by assumption) rfl (.inl rfl) ?_ | refine xg_name (i := 0) (by assumption) rfl (.inr rfl) ?_ | refine xg_name (i := 1) (by assumption) rfl (.inl rfl) ?_ | refine xg_name (i := 1) (by assumption) rfl (.inr rfl) ?_)) | ((with_reducible show XG _ _ (Expr.Name (Str.ofString "_law_second") _) _ _ _); (first | refine xg_name (i := 1) (by assumption) rfl (.inl rfl) ?_ | refine xg_name (i := 1) (by assumption) rfl (.inr rfl) ?_ | refine xg_name (i := 2) (by assumption) rfl (.inl rfl) ?_ | refine xg_name (i := 2) (by assumption) rfl (.inr rfl) ?_)) | ((with_reducible show XG _ _ (Expr.Name (Str.ofString "_law_made") _) _ _ _); (first | refine xg_name (i := 3) (by assumption) rfl (.inl rfl) ?_ | refine xg_name (i := 3) (by assumption) rfl (.inr rfl) ?_)) | ((with_reducible show XG _ _ (Expr.Name (Str.ofString "_law_under") _) _ _ _); (first | refine xg_name (i := 5) (by assumption) rfl (.inl rfl) ?_ | refine xg_name (i := 5) (by assumption) rfl (.inr rfl) ?_)) | ((with_reducible show XG _ _ (Expr.Name (Str.ofString "_law_due") _) _ _ _); (first | refine xg_name (i := 6) (by assumption) rfl (.inl rfl) ?_ | refine xg_name (i := 6) (by assumption) rfl (.inr rfl) ?_)) | ((with_reducible show XG _ _ (Expr.Name (Str.ofString "_law_plain_ones") _) _ _ _); (first | refine xg_name (i := 1) (by assumption) rfl (.inl rfl) ?_ | refine xg_name (i := 1) (by assumption) rfl (.inr rfl) ?_)))
local macro_rules | `(tactic| walk_at "xlit") => `(tactic| first | refine xe_lit lit_0 ?_ | refine xe_lit lit_1 ?_ | refine xe_lit lit_2 ?_ | refine xe_lit lit_3 ?_ | refine xe_lit lit_4 ?_ | refine xe_lit lit_5 ?_ | refine xe_lit lit_6 ?_ | refine xe_lit lit_7 ?_ | refine xe_lit lit_8 ?_)
local macro_rules | `(tactic| walk_at "xcb") => `(tactic| first | ((with_reducible show XE _ _ (Expr.Call (Expr.Name (Str.ofString "len") _) _ _ _) _ _); refine xe_callB rfl (by assumption : Bl _).len PySem.boot_len ?_) | ((with_reducible show XE _ _ (Expr.Call (Expr.Name (Str.ofString "min") _) _ _ _) _ _); refine xe_callB rfl (by assumption : Bl _).min PyProof.Rows.boot_min ?_) | ((with_reducible show XE _ _ (Expr.Call (Expr.Name (Str.ofString "max") _) _ _ _) _ _); refine xe_callB rfl (by assumption : Bl _).max PyProof.Rows.boot_max ?_) | ((with_reducible show XE _ _ (Expr.Call (Expr.Name (Str.ofString "sorted") _) _ _ _) _ _); refine xe_callB rfl (by assumption : Bl _).sorted PyProof.Rows.boot_sorted ?_) | ((with_reducible show XE _ _ (Expr.Call (Expr.Name (Str.ofString "abs") _) _ _ _) _ _); refine xe_callB rfl (by assumption : Bl _).abs PyProof.Rows.boot_abs ?_) | ((with_reducible show XE _ _ (Expr.Call (Expr.Name (Str.ofString "divmod") _) _ _ _) _ _); refine xe_callB rfl (by assumption : Bl _).divmod PyProof.Rows.boot_divmod ?_) | ((with_reducible show XE _ _ (Expr.Call (Expr.Name (Str.ofString "any") _) _ _ _) _ _); refine xe_callB rfl (by assumption : Bl _).any PyProof.Rows.boot_any ?_) | ((with_reducible show XE _ _ (Expr.Call (Expr.Name (Str.ofString "all") _) _ _ _) _ _); refine xe_callB rfl (by assumption : Bl _).all PyProof.Rows.boot_all ?_) | ((with_reducible show XE _ _ (Expr.Call (Expr.Name (Str.ofString "isinstance") _) _ _ _) _ _); refine xe_callB rfl (by assumption : Bl _).isinstance PyProof.Rows.boot_isinstance ?_) | ((with_reducible show XE _ _ (Expr.Call (Expr.Name (Str.ofString "set") _) _ _ _) _ _); refine xe_callTy rfl (by assumption : Bl _).set PyProof.Rows.boot_set ?_) | ((with_reducible show XE _ _ (Expr.Call (Expr.Name (Str.ofString "list") _) _ _ _) _ _); refine xe_callTy rfl (by assumption : Bl _).list PyProof.Rows.boot_list ?_) | ((with_reducible show XE _ _ (Expr.Call (Expr.Name (Str.ofString "tuple") _) _ _ _) _ _); refine xe_callTy rfl (by assumption : Bl _).tuple PyProof.Rows.boot_tuple ?_) | ((with_reducible show XE _ _ (Expr.Call (Expr.Name (Str.ofString "str") _) _ _ _) _ _); refine xe_callTy rfl (by assumption : Bl _).str PyProof.Rows.boot_str ?_) | ((with_reducible show XE _ _ (Expr.Call (Expr.Name (Str.ofString "int") _) _ _ _) _ _); refine xe_callTy rfl (by assumption : Bl _).int PyProof.Rows.boot_int ?_))
local macro_rules | `(tactic| walk_at "xty") => `(tactic| first | ((with_reducible show XE _ _ (Expr.Name (Str.ofString "str") _) _ _); refine xe_ty rfl (by assumption : Bl _).str PyProof.Rows.boot_str ?_) | ((with_reducible show XE _ _ (Expr.Name (Str.ofString "tuple") _) _ _); refine xe_ty rfl (by assumption : Bl _).tuple PyProof.Rows.boot_tuple ?_) | ((with_reducible show XE _ _ (Expr.Name (Str.ofString "int") _) _ _); refine xe_ty rfl (by assumption : Bl _).int PyProof.Rows.boot_int ?_) | ((with_reducible show XE _ _ (Expr.Name (Str.ofString "list") _) _ _); refine xe_ty rfl (by assumption : Bl _).list PyProof.Rows.boot_list ?_))
local macro_rules | `(tactic| walk_at "x1") => `(tactic| first | ((with_reducible show XA _ _ _ _ _); (first | refine xa_cons ?_ | refine xa_nil ?_)) | ((with_reducible show XKw _ _ _ _ _); (first | refine xk_cons ?_ | refine xk_nil ?_)) | ((with_reducible show XE _ _ (Expr.Constant _ _ _) _ _); (first | refine xe_int ?_ | walk_at "xlit" | refine xe_bl ?_ | refine xe_non ?_)) | ((with_reducible show XE _ _ (Expr.Name _ _) _ _); (first | walk_at "xty" | walk_at "xv" | refine xe_gs (by assumption) rfl ?_ | refine xe_gi (by assumption) rfl ?_ | refine xe_gc (by assumption) rfl ?_)) | ((with_reducible show XE _ _ (Expr.BinOp _ _ _ _) _ _); (first | refine xe_op ?_)) | ((with_reducible show XE _ _ (Expr.Compare _ _ _ _) _ _); (first | refine xe_cmp rfl ?_)) | ((with_reducible show XE _ _ (Expr.UnaryOp UnaryOp.Not _ _) _ _); (first | refine xe_not ?_)) | ((with_reducible show XE _ _ (Expr.UnaryOp UnaryOp.USub _ _) _ _); (first | refine xe_un ?_)) | ((with_reducible show XE _ _ (Expr.BoolOp _ _ _) _ _); (first | refine xe_one ?_ | refine xe_and ?_ | refine xe_or ?_)) | ((with_reducible show XE _ _ (Expr.IfExp _ _ _ _) _ _); (first | refine xe_if ?_)) | ((with_reducible show XE _ _ (Expr.Subscript _ _ _) _ _); (first | refine xe_revS ?_ | refine xe_slice ?_ | refine xe_ix ?_)) | ((with_reducible show XE _ _ (Expr.Tuple _ _ _) _ _); (first | refine xe_tup ?_)) | ((with_reducible show XE _ _ (Expr.List _ _) _ _); (first | refine xe_lst ?_)) | ((with_reducible show XE _ _ (Expr.Call (Expr.Name _ _) _ _ _) _ _); (first | walk_at "xcb" | refine xe_cp (by assumption) (by assumption) (by decide) rfl ?_ | refine xe_cj (by assumption) (by assumption) (by decide) rfl ?_ | refine xe_cu (by assumption) (by assumption) (by decide) rfl ?_ | refine xe_mkw (by assumption) (by assumption) (by decide) rfl ?_ | refine xe_mk (by assumption) (by assumption) (by decide) rfl ?_)) | ((with_reducible show XE _ _ (Expr.Dict [] [] _) _ _); (first | refine xe_dct0 ?_)) | ((with_reducible show XE _ _ (Expr.Call (Expr.Attribute (Expr.Name _ _) (Str.ofString "get") _) _ _ _) _ _); (first | refine xe_getI (by assumption) rfl ?_)) | ((with_reducible show XE _ _ (Expr.Call (Expr.Attribute _ (Str.ofString "join") _) _ _ _) _ _); (first | refine xe_ms PySem.F.slot_str_join PySem.F.type_str_join ?_)) | ((with_reducible show XE _ _ (Expr.Call (Expr.Attribute _ (Str.ofString "index") _) _ _ _) _ _); (first | refine xe_ms PySem.F.slot_str_index PySem.F.type_str_index ?_)) | ((with_reducible show XE _ _ (Expr.Call (Expr.Attribute _ (Str.ofString "split") _) _ _ _) _ _); (first | refine xe_ms PySem.F.slot_str_split PySem.F.type_str_split ?_)) | ((with_reducible show XE _ _ (Expr.Call (Expr.Attribute _ _ _) _ _ _) _ _); (first | refine xe_me (by assumption) (by assumption) (by decide) ?_ | refine xe_cm (by assumption) (by assumption) (by decide) ?_ | refine xe_mew (by assumption) (by assumption) (by decide) ?_ | refine xe_cmw (by assumption) (by assumption) (by decide) ?_)) | ((with_reducible show XE _ _ (Expr.Attribute _ _ _) _ _); (first | refine xe_pr (by assumption) (by assumption) (by decide) ?_ | refine xe_fld ?_)) | ((with_reducible show XO _ _ _ _ _); (first | refine xo_none ?_ | refine xo_some ?_)) | ((with_reducible show XT _ _ (Expr.UnaryOp UnaryOp.Not _ _) _ _); (first | refine xt_not ?_)) | ((with_reducible show XT _ _ (Expr.Compare _ _ _ _) _ _); (first | refine xt_cmp rfl ?_)) | ((with_reducible show XT _ _ (Expr.BoolOp _ _ _) _ _); (first | refine xt_w ?_)) | ((with_reducible show XT _ _ (_) _ _); (first | refine xt_val ?_)) | ((with_reducible show XW _ _ _ _ _); (first | refine xw_and1 ?_ | refine xw_and ?_ | refine xw_or1 ?_ | refine xw_or ?_)) | ((with_reducible show XTl _ _ _ _ _); (first | refine xtl_nil ?_ | refine xtl_one ?_)) | ((with_reducible show XB _ _ _ _ _); (first | refine xb_one ?_ | refine xb_cons ?_ | refine xb_nil ?_)) | ((with_reducible show XS _ _ (Stmt.Return _ _) _ _); (first | refine xs_ret ?_)) | ((with_reducible show XS _ _ (Stmt.If _ _ _ _) _ _); (first | refine xs_if ?_)) | ((with_reducible show XS _ _ (Stmt.Assign _ _ _) _ _); (first | walk_at "xset")) | ((with_reducible show XS _ _ (Stmt.Expr _ _) _ _); (first | refine xs_expr ?_)) | ((with_reducible show XS _ _ (Stmt.Pass _) _ _); (first | refine xs_pass ?_)))
local macro_rules | `(tactic| walk_at "xside") => `(tactic| first | assumption | exact (by decide) | (simp only [List.length_cons, List.length_nil, List.length_append, ch_len]; omega) | omega)
local macro_rules | `(tactic| walk_at "xo") => `(tactic| first | ((with_reducible show ite (_ = true) _ _); (first | with_reducible refine ite_tt ?_ | with_reducible refine ite_ff ?_ | refine ite_nt ?_ | refine ite_nf ?_)) | ((with_reducible show ∃ _, _ = _ ∧ _); refine ⟨_, rfl, ?_⟩) | ((with_reducible show ∃ _, OpD _ (binaryOp Operator.Add) _ _ _ ∧ _); (first | refine ⟨_, od_add, ?_⟩)) | ((with_reducible show ∃ _, OpD _ (binaryOp Operator.Sub) _ _ _ ∧ _); (first | refine ⟨_, od_sub, ?_⟩)) | ((with_reducible show ∃ _, OpD _ (compareOp CmpOp.Lt) _ _ _ ∧ _); (first | refine ⟨_, od_lt, ?_⟩ | refine ⟨_, od_ltS, ?_⟩)) | ((with_reducible show ∃ _, OpD _ (compareOp CmpOp.LtE) _ _ _ ∧ _); (first | refine ⟨_, od_le, ?_⟩ | refine ⟨_, od_leS, ?_⟩)) | ((with_reducible show ∃ _, OpD _ (compareOp CmpOp.Gt) _ _ _ ∧ _); (first | refine ⟨_, od_gt, ?_⟩ | refine ⟨_, od_gtS, ?_⟩)) | ((with_reducible show ∃ _, OpD _ (compareOp CmpOp.GtE) _ _ _ ∧ _); (first | refine ⟨_, od_ge, ?_⟩)) | ((with_reducible show ∃ _, OpD _ (compareOp CmpOp.Eq) _ _ _ ∧ _); (first | refine ⟨_, od_eqI, ?_⟩ | refine ⟨_, od_eqS, ?_⟩ | refine ⟨_, od_eqB, ?_⟩)) | ((with_reducible show ∃ _, OpD _ (compareOp CmpOp.NotEq) _ _ _ ∧ _); (first | refine ⟨_, od_neI, ?_⟩ | refine ⟨_, od_neS, ?_⟩ | refine ⟨_, od_neB, ?_⟩)) | ((with_reducible show ∃ _, OpD _ (compareOp CmpOp.In) _ _ _ ∧ _); (first | refine ⟨_, od_inS, ?_⟩ | refine ⟨_, od_inL, ?_⟩ | refine ⟨_, od_inT, ?_⟩)) | ((with_reducible show ∃ _, OpD _ (compareOp CmpOp.NotIn) _ _ _ ∧ _); (first | refine ⟨_, od_notinS, ?_⟩ | refine ⟨_, od_notinL, ?_⟩ | refine ⟨_, od_notinT, ?_⟩)) | ((with_reducible show ∃ _, OpD _ (compareOp CmpOp.Is) _ _ _ ∧ _); (first | refine ⟨_, od_isN, ?_⟩ | refine ⟨_, od_isB, ?_⟩)) | ((with_reducible show ∃ _, OpD _ (compareOp CmpOp.IsNot) _ _ _ ∧ _); (first | refine ⟨_, od_notN, ?_⟩ | refine ⟨_, od_notB, ?_⟩)) | ((with_reducible show ∃ _, OpD _ (compareOp CmpOp.Lt) _ _ (D.bl _) ∧ _); (first | refine ⟨_, od_lt, ?_⟩ | refine ⟨_, od_ltS, ?_⟩)) | ((with_reducible show ∃ _, OpD _ (compareOp CmpOp.LtE) _ _ (D.bl _) ∧ _); (first | refine ⟨_, od_le, ?_⟩ | refine ⟨_, od_leS, ?_⟩)) | ((with_reducible show ∃ _, OpD _ (compareOp CmpOp.Gt) _ _ (D.bl _) ∧ _); (first | refine ⟨_, od_gt, ?_⟩ | refine ⟨_, od_gtS, ?_⟩)) | ((with_reducible show ∃ _, OpD _ (compareOp CmpOp.GtE) _ _ (D.bl _) ∧ _); (first | refine ⟨_, od_ge, ?_⟩)) | ((with_reducible show ∃ _, OpD _ (compareOp CmpOp.Eq) _ _ (D.bl _) ∧ _); (first | refine ⟨_, od_eqI, ?_⟩ | refine ⟨_, od_eqS, ?_⟩ | refine ⟨_, od_eqB, ?_⟩)) | ((with_reducible show ∃ _, OpD _ (compareOp CmpOp.NotEq) _ _ (D.bl _) ∧ _); (first | refine ⟨_, od_neI, ?_⟩ | refine ⟨_, od_neS, ?_⟩ | refine ⟨_, od_neB, ?_⟩)) | ((with_reducible show ∃ _, OpD _ (compareOp CmpOp.In) _ _ (D.bl _) ∧ _); (first | refine ⟨_, od_inS, ?_⟩ | refine ⟨_, od_inL, ?_⟩ | refine ⟨_, od_inT, ?_⟩)) | ((with_reducible show ∃ _, OpD _ (compareOp CmpOp.NotIn) _ _ (D.bl _) ∧ _); (first | refine ⟨_, od_notinS, ?_⟩ | refine ⟨_, od_notinL, ?_⟩ | refine ⟨_, od_notinT, ?_⟩)) | ((with_reducible show ∃ _, OpD _ (compareOp CmpOp.Is) _ _ (D.bl _) ∧ _); (first | refine ⟨_, od_isN, ?_⟩ | refine ⟨_, od_isB, ?_⟩)) | ((with_reducible show ∃ _, OpD _ (compareOp CmpOp.IsNot) _ _ (D.bl _) ∧ _); (first | refine ⟨_, od_notN, ?_⟩ | refine ⟨_, od_notB, ?_⟩)) | ((with_reducible show ∃ _, CallD _ (Value.builtin "min") _ _ ∧ _); (first | refine ⟨_, cd_min2S rfl, ?_⟩ | refine ⟨_, cd_min2 rfl, ?_⟩)) | ((with_reducible show ∃ _, CallD _ (Value.builtin "max") _ _ ∧ _); (first | refine ⟨_, cd_max2S rfl, ?_⟩ | refine ⟨_, cd_max2 rfl, ?_⟩)) | ((with_reducible show ∃ _, CallD _ (Value.builtin "len") _ _ ∧ _); (first | refine ⟨_, cd_len_lst, ?_⟩ | refine ⟨_, cd_len_tup, ?_⟩ | refine ⟨_, cd_len_dct, ?_⟩ | refine ⟨_, cd_len_str (by walk_at "xside"), ?_⟩)) | ((with_reducible show ∃ _, CallD _ (Value.builtin "abs") _ _ ∧ _); (first | refine ⟨_, cd_abs, ?_⟩)) | ((with_reducible show ∃ _, CallD _ (Value.type "int") _ _ ∧ _); (first | refine ⟨_, cd_int, ?_⟩ | refine ⟨_, cd_intB, ?_⟩)) | ((with_reducible show ∃ _, CallD _ (Value.type "list") _ _ ∧ _); (first | refine ⟨_, cd_list_lst, ?_⟩ | refine ⟨_, cd_list_tup, ?_⟩ | refine ⟨_, cd_list_str (by walk_at "xside"), ?_⟩)) | ((with_reducible show ∃ _, CallD _ (Value.type "tuple") _ _ ∧ _); (first | refine ⟨_, cd_tuple_lst, ?_⟩ | refine ⟨_, cd_tuple_tup, ?_⟩ | refine ⟨_, cd_tuple_str (by walk_at "xside"), ?_⟩)) | ((with_reducible show ∃ _, CallD _ (Value.builtin "any") _ _ ∧ _); (first | refine ⟨_, cd_any rfl, ?_⟩)) | ((with_reducible show ∃ _, CallD _ (Value.builtin "all") _ _ ∧ _); (first | refine ⟨_, cd_all rfl, ?_⟩)) | ((with_reducible show ∃ _, CallD _ (Value.builtin "isinstance") _ _ ∧ _); (first | refine ⟨_, isi_str, ?_⟩ | refine ⟨_, isi_tup, ?_⟩ | refine ⟨_, isi_own (by assumption) (by assumption), ?_⟩ | refine ⟨_, isi_nostr (by assumption), ?_⟩)) | ((with_reducible show List.lookup _ _ = none ∧ _); refine ⟨rfl, ?_⟩) | ((with_reducible show D.ref _ = D.ref _ ∧ _); refine ⟨rfl, ?_⟩) | ((with_reducible show ∃ _, UnD _ (unaryOp UnaryOp.USub) _ _ ∧ _); refine ⟨_, ud_neg, ?_⟩) | ((with_reducible show ∃ _, IxD _ (D.str _) _ _ ∧ _); refine ⟨_, ixd_str (by walk_at "xside") rfl, ?_⟩) | ((with_reducible show ∃ _, SlD _ _ _ _ _ ∧ _); (first | refine ⟨_, sd_lst, ?_⟩ | refine ⟨_, sd_tup, ?_⟩)))
local macro_rules | `(tactic| walk_at "x") => `(tactic| repeat (first | walk_at "x1" | walk_at "xo"))
section
variable {T : Wd} (B : Bl T.mg) {Cw Cy : Addr}
include B
theorem j_dip (df : De T "_law_dip" ["_law_jar_here", "_law_wide"] s_Ldip) : Cj T "_law_dip" 1 sTap := by
  refine cj_of df sc_Ldip (fun ds Q ⟨a, h, _⟩ => by rw [h]; rfl) ?_
  rintro hN f cdv A outer s H E0 hr m J ds Q E ⟨n, rfl, hn1, hn2, h⟩
  refine xb_close (J := J) (xb_open (c1 := []) (c2 := []) fun x y z hx hy hz => ?_)
  refine xb_cons (xs_asg (xe_lend (i := 0) (c1 := []) (c2 := []) rfl rfl ?_))
  walk_at "x"
  refine ⟨_, ixd_lst rfl, ?_⟩
  walk_at "x"
  refine ⟨rfl, rfl, ?_⟩
  refine xg_ix (i := 0) rfl (.inl rfl) rfl ?_
  walk_at "x"
  refine ⟨[], _, [], 2, 2, rfl, rfl, rfl, ?_⟩
  refine xb_cons (xs_if (xt_lend (i := 0) (c1 := []) (c2 := []) rfl rfl ?_))
  walk_at "x"
  refine ⟨_, ixd_lst rfl, ?_⟩
  walk_at "x"
  refine ⟨rfl, ?_⟩
  refine ite_c (fun hz0 => ?_) (fun hz0 => ?_)
  · have hz0 : 0 < x := hz0
    refine xb_cons ?_
    walk_at "xset"
    refine xe_lend (i := 0) (c1 := []) (c2 := []) rfl rfl ?_
    walk_at "x"
    refine ⟨_, ixd_lst rfl, ?_⟩
    walk_at "x"
    refine ⟨_, od_mod (by omega), ?_⟩
    refine ⟨rfl, rfl, ?_⟩
    refine xb_cons (xs_asg (xe_lend (i := 0) (c1 := []) (c2 := []) rfl rfl ?_))
    walk_at "x"
    refine ⟨_, ixd_lst rfl, ?_⟩
    walk_at "x"
    refine ⟨_, od_fdiv ⟨by omega, by omega⟩, ?_⟩
    refine ⟨rfl, rfl, ?_⟩
    refine xg_ix (i := 0) rfl (.inl rfl) rfl ?_
    walk_at "x"
    refine ⟨[], _, [], 0, 0, rfl, rfl, rfl, ?_⟩
    walk_at "x"
    have h0 : 0 ≤ x % (n : Int) := Int.emod_nonneg _ (by omega)
    have h1 : x % (n : Int) < n := Int.emod_lt_of_pos _ (by omega)
    refine ⟨x / (n : Int), y, z + 1, Int.ediv_nonneg (by omega) (by omega), hy, by omega, rfl, ?_⟩
    have := h (x % (n : Int)).toNat (by omega)
    rw [Int.toNat_of_nonneg h0] at this
    exact this
  · refine xb_nil (xb_cons ?_)
    walk_at "xset"
    refine xe_lend (i := 0) (c1 := []) (c2 := []) rfl rfl ?_
    walk_at "x"
    refine ⟨_, ixd_lst rfl, ?_⟩
    walk_at "x"
    refine ⟨rfl, rfl, ?_⟩
    refine xb_cons (xs_asg (xe_lend (i := 0) (c1 := []) (c2 := []) rfl rfl ?_))
    walk_at "x"
    refine ⟨_, od_mul (.inr ⟨by omega, by omega⟩), ?_⟩
    walk_at "x"
    refine ⟨_, ixd_lst rfl, ?_⟩
    walk_at "x"
    refine ⟨_, od_mul (.inr ⟨by omega, by omega⟩), ?_⟩
    walk_at "x"
    refine ⟨_, od_mod (by omega), ?_⟩
    refine ⟨rfl, rfl, ?_⟩
    generalize hv : (y * 40692 + (z + 1) * 52021 + 31) % 2147483399 = v
    have hv0 : 0 ≤ v := by rw [← hv]; exact Int.emod_nonneg _ (by omega)
    refine xg_ix (i := 0) rfl (.inl rfl) rfl ?_
    walk_at "x"
    refine ⟨[], _, [], 1, 1, rfl, rfl, rfl, ?_⟩
    refine xb_one (xs_ret (xe_lend (i := 0) (c1 := []) (c2 := []) rfl rfl ?_))
    walk_at "x"
    refine ⟨_, ixd_lst rfl, ?_⟩
    walk_at "x"
    refine ⟨_, od_fdiv ⟨by omega, by omega⟩, ?_⟩
    walk_at "x"
    refine ⟨_, od_mod (by omega), ?_⟩
    refine ⟨rfl, rfl, ?_⟩
    have h0 : 0 ≤ v / 2048 % (n : Int) := Int.emod_nonneg _ (by omega)
    have h1 : v / 2048 % (n : Int) < n := Int.emod_lt_of_pos _ (by omega)
    refine ⟨x, v, z + 1, hx, hv0, by omega, rfl, ?_⟩
    have := h (v / 2048 % (n : Int)).toNat (by omega)
    rw [Int.toNat_of_nonneg h0] at this
    exact this
theorem jj_pick (df : De T "_law_pick" ["_law_jar_here", "_law_menu"] s_Lpick) (c1 : Cj T "_law_dip" 1 sTap) : Cj T "_law_pick" 2 sPick := by
  refine cj_of df sc_Lpick (fun ds Q ⟨a, _, h, _⟩ => by rw [h]; rfl) ?_
  rintro hN f cdv A outer s H E0 hr m J ds Q E ⟨d, xs, rfl, hd, hne, hl, h⟩
  have hpos : 0 < xs.length := List.length_pos_iff.mpr hne
  have hln : ∀ X : Cx, CallD X (.builtin "len") [d] (.int xs.length) := fun X => by
    rcases hd with rfl | rfl | ⟨l, rfl, rfl⟩
    · exact cd_len_lst
    · exact cd_len_tup
    · have hl : l.length ≤ 100000 := by simpa using hl
      rw [List.length_map]
      exact cd_len_str hl
  have hix : ∀ (X : Cx) (i : Nat) (x : D), xs[i]? = some x → IxD X d (.int i) x := fun X i x hx => by
    rcases hd with rfl | rfl | ⟨l, rfl, rfl⟩
    · exact ixd_lst (atI_nat hx)
    · exact ixd_tup (atI_nat hx)
    · have hl : l.length ≤ 100000 := by simpa using hl
      rw [List.getElem?_map] at hx
      obtain ⟨c, hc, rfl⟩ := Option.map_eq_some_iff.mp hx
      exact ixd_str hl (atI_nat hc)
  walk_at "x"
  refine ⟨_, hln _, ?_⟩
  walk_at "x"
  refine ⟨J, [], _, rfl, rfl, ?_⟩
  intro Qc hq
  refine ⟨xs.length, rfl, hpos, by omega, fun i hi => hq _ ?_⟩; clear hq Qc
  obtain ⟨x, hx⟩ : ∃ x, xs[i]? = some x := ⟨_, List.getElem?_eq_getElem hi⟩
  walk_at "x"
  refine ⟨_, hix _ i x hx, ?_⟩
  exact h x (List.mem_of_getElem? hx)
theorem jj_odd (df : De T "_law_odd" ["_law_jar_here"] s_Lodd) (c1 : Cj T "_law_pick" 2 sPick) : Cj T "_law_odd" 3 sOdd := by
  refine cj_of df sc_Lodd (fun ds Q ⟨h, _⟩ => by rw [h]; rfl) ?_
  rintro hN f cdv A outer s H E0 hr m J ds Q E ⟨rfl, h⟩
  walk_at "x"
  refine ⟨_, od_pow ⟨by decide, by decide, by decide⟩, ?_⟩
  repeat (first | walk_at "x1" | walk_at "xo" | ((with_reducible show (_ : Nat) ≤ 100000 ∧ _); refine ⟨by simp, ?_⟩) | refine xe_dct1 ?_ | refine ⟨_, od_catL (by simp), ?_⟩)
  refine ⟨J, [], _, rfl, rfl, ?_⟩
  intro Qc hq
  refine ⟨_, oddK, rfl, .inl rfl, by decide, by decide, fun x hx => hq x (h x hx)⟩
theorem k_jar (df : De T "_law_jar" ["_law_script", "_law_k"] s_Ljar) : Ck T "_law_jar" 1 kKeg := by
  refine ck_of df sc_Ljar (fun ds ⟨ns, k, h, _⟩ => by rw [h]; rfl) ?_
  rintro hN f cdv A outer s H E0 hr m ds Q E ⟨ns, k, rfl, hk, hl⟩ h
  refine xb_closeN ?_
  walk_at "x"
  refine ⟨_, od_mul (.inl ⟨by omega, by omega⟩), ?_⟩
  walk_at "x"
  refine ⟨_, od_mul (.inr ⟨by omega, by omega⟩), ?_⟩
  walk_at "x"
  refine ⟨_, od_mul (.inl ⟨by omega, by omega⟩), ?_⟩
  walk_at "x"
  refine xs_forN (i := 3) PassesOwn.never hN rfl (.inl rfl) (xi_lst ?_)
  walk_at "x"
  have hcut : cutD (ns.map D.int) none (some 4) = (ns.take 4).map D.int := by
    have := cutD_to (ns.map D.int) 4
    rw [show ((4 : Nat) : Int) = 4 from rfl] at this
    rw [this, List.map_take]
  rw [hcut]
  refine ⟨fun j Γ1 => ∃ u o, Γ1 = ⟨[some (.lst (ns.map D.int)), some (.int (k : Int)), some (.int u), o, none, none], []⟩, ⟨_, none, rfl⟩, ?_, ?_⟩
  · rintro j d Γ2 hd ⟨u, o, rfl⟩
    rw [List.getElem?_map] at hd
    obtain ⟨z, hz, rfl⟩ := Option.map_eq_some_iff.mp hd
    walk_at "x"
    refine ⟨_, od_mul (.inr ⟨by omega, by omega⟩), ?_⟩
    walk_at "x"
    refine ⟨_, od_mod (by omega), ?_⟩
    walk_at "x"
    exact ⟨_, _, rfl⟩
  · rintro Γ2 ⟨u, o, rfl⟩
    refine xb_cons ?_
    walk_at "xset"
    refine XE.imp (Q := fun d Γ1 => ∃ v : Int, d = .int v ∧ Γ1 = ⟨[some (.lst (ns.map D.int)), some (.int (k : Int)), some (.int u), o, none, none], []⟩) ?_ ?_
    · walk_at "x"
      refine ite_c (fun hlt => ?_) (fun hlt => ?_)
      · have hlt : k < ns.length := by simpa using hlt
        walk_at "x"
        refine ⟨_, ixd_lst (atI_nat (d := .int ns[k]) (by simp [hlt])), ?_⟩
        exact ⟨_, rfl, rfl⟩
      · walk_at "x"
        rfl
    rintro d Γ1 ⟨v, rfl, rfl⟩
    refine xb_cons ?_
    walk_at "xset"
    refine XE.imp (Q := fun d Γ1 => ∃ c : Int, 0 ≤ c ∧ d = .int c ∧ Γ1 = ⟨[some (.lst (ns.map D.int)), some (.int (k : Int)), some (.int u), o, some (.int v), none], []⟩) ?_ ?_
    · walk_at "x"
      refine ite_c (fun hneg => ?_) (fun hneg => ?_)
      · walk_at "x"
        exact ⟨_, by split <;> omega, rfl, rfl⟩
      · walk_at "x"
        refine ⟨_, od_pow ⟨by omega, by omega, by decide⟩, ?_⟩
        walk_at "x"
        refine ite_c (fun hbig => ?_) (fun hbig => ?_)
        · walk_at "x"
          exact ⟨_, by split <;> omega, rfl, rfl⟩
        · walk_at "x"
          exact ⟨_, by omega, rfl, rfl⟩
    rintro d Γ1 ⟨c, hc, rfl, rfl⟩
    refine xb_one (xs_ret (xe_own_lst (xa_cons ?_)))
    walk_at "x"
    refine ⟨_, od_mul (.inr ⟨by omega, by omega⟩), ?_⟩
    walk_at "x"
    refine ⟨_, od_mul (.inr ⟨by omega, by omega⟩), ?_⟩
    walk_at "x"
    refine ⟨_, od_mul (.inl ⟨by omega, by omega⟩), ?_⟩
    walk_at "x"
    refine ⟨_, od_mod (by omega), ?_⟩
    generalize ha : (u * 8117 + v * 64013 + 105019 * ((k : Int) + 1)) % 2147483563 = a
    have ha0 : 0 ≤ a := by rw [← ha]; exact Int.emod_nonneg _ (by omega)
    refine xa_cons (xe_int ?_)
    exact xa_nil ⟨by simp, fun p => ⟨p, c, a, 0, hc, ha0, by omega, rfl, rfl, h p⟩⟩
theorem c_Lsorts (df : De T "_law_sorts" ["_law_e"] s_Lsorts) (m0 : T.mg "InvalidText" = some (.ref (gA "InvalidText" T.K))) (m1 : T.mg "InvalidRing" = some (.ref (gA "InvalidRing" T.K))) (m2 : T.mg "InvalidOrder" = some (.ref (gA "InvalidOrder" T.K))) (m3 : T.mg "InvalidStand" = some (.ref (gA "InvalidStand" T.K))) (m4 : T.mg "InvalidPair" = some (.ref (gA "InvalidPair" T.K))) (m5 : T.mg "InvalidNumber" = some (.ref (gA "InvalidNumber" T.K))) (m6 : T.mg "InvalidWish" = some (.ref (gA "InvalidWish" T.K))) (m7 : T.mg "InvalidCommand" = some (.ref (gA "InvalidCommand" T.K))) (m8 : T.mg "NotAWeb" = some (.ref (gA "NotAWeb" T.K))) (m9 : T.mg "NotAWay" = some (.ref (gA "NotAWay" T.K))) (m10 : T.mg "InvalidTies" = some (.ref (gA "InvalidTies" T.K))) (m11 : T.mg "InvalidArrows" = some (.ref (gA "InvalidArrows" T.K))) (m12 : T.mg "InvalidRow" = some (.ref (gA "InvalidRow" T.K))) (m13 : T.mg "InvalidRules" = some (.ref (gA "InvalidRules" T.K))) (m14 : T.mg "InvalidHints" = some (.ref (gA "InvalidHints" T.K))) (m15 : T.mg "UnknownPlace" = some (.ref (gA "UnknownPlace" T.K))) (m16 : T.mg "NotGiving" = some (.ref (gA "NotGiving" T.K))) (m17 : T.mg "NotTaking" = some (.ref (gA "NotTaking" T.K))) (m18 : T.mg "Broken" = some (.ref (gA "Broken" T.K))) (m19 : T.mg "Apart" = some (.ref (gA "Apart" T.K))) (m20 : T.mg "Ringed" = some (.ref (gA "Ringed" T.K))) (m21 : T.mg "NothingToUndo" = some (.ref (gA "NothingToUndo" T.K)))
    (hk : ∀ x ∈ errN, ExK T.K (gA x T.K)) (hs : ∀ {i j : Nat} {x y : Str}, errN[i]? = some x → errN[j]? = some y → PySem.W.kitOne T.K (.ref (gA x T.K)) (.ref (gA y T.K)) = some (decide (i = j))) : Cp T "_law_sorts" 1 (sSorts T.K) := by
  refine cp_of df sc_Lsorts (fun ds Q ⟨_, _, _, h, _⟩ => by rw [h]; rfl) ?_
  rintro hN f cdv A outer s H E0 hr m ds Q E ⟨x, i, fs, rfl, hi, h⟩
  have hkx := hk x (List.mem_of_getElem? hi)
  refine xb_cons ?_
  walk_at "x"
  refine ⟨_, cd_isiE hkx .own (hs hi (j := 0) rfl), ?_⟩
  walk_at "x"
  refine ⟨_, cd_isiE hkx .own (hs hi (j := 1) rfl), ?_⟩
  walk_at "x"
  refine ⟨_, cd_isiE hkx .own (hs hi (j := 2) rfl), ?_⟩
  walk_at "x"
  refine ⟨by simp, ?_⟩
  refine xb_cons ?_
  walk_at "x"
  refine ⟨_, cd_isiE hkx .own (hs hi (j := 3) rfl), ?_⟩
  walk_at "x"
  refine ⟨_, cd_isiE hkx .own (hs hi (j := 4) rfl), ?_⟩
  walk_at "x"
  refine ⟨_, cd_isiE hkx .own (hs hi (j := 5) rfl), ?_⟩
  walk_at "x"
  refine ⟨by simp, ?_⟩
  refine ⟨_, od_catL (by simp), ?_⟩
  refine xb_cons ?_
  walk_at "x"
  refine ⟨_, cd_isiE hkx .own (hs hi (j := 6) rfl), ?_⟩
  walk_at "x"
  refine ⟨_, cd_isiE hkx .own (hs hi (j := 7) rfl), ?_⟩
  walk_at "x"
  refine ⟨_, cd_isiE hkx .own (hs hi (j := 8) rfl), ?_⟩
  walk_at "x"
  refine ⟨by simp, ?_⟩
  refine ⟨_, od_catL (by simp), ?_⟩
  refine xb_cons ?_
  walk_at "x"
  refine ⟨_, cd_isiE hkx .own (hs hi (j := 9) rfl), ?_⟩
  walk_at "x"
  refine ⟨_, cd_isiE hkx .own (hs hi (j := 10) rfl), ?_⟩
  walk_at "x"
  refine ⟨_, cd_isiE hkx .own (hs hi (j := 11) rfl), ?_⟩
  walk_at "x"
  refine ⟨by simp, ?_⟩
  refine ⟨_, od_catL (by simp), ?_⟩
  refine xb_cons ?_
  walk_at "x"
  refine ⟨_, cd_isiE hkx .own (hs hi (j := 12) rfl), ?_⟩
  walk_at "x"
  refine ⟨_, cd_isiE hkx .own (hs hi (j := 13) rfl), ?_⟩
  walk_at "x"
  refine ⟨_, cd_isiE hkx .own (hs hi (j := 14) rfl), ?_⟩
  walk_at "x"
  refine ⟨by simp, ?_⟩
  refine ⟨_, od_catL (by simp), ?_⟩
  refine xb_cons ?_
  walk_at "x"
  refine ⟨_, cd_isiE hkx .own (hs hi (j := 15) rfl), ?_⟩
  walk_at "x"
  refine ⟨_, cd_isiE hkx .own (hs hi (j := 16) rfl), ?_⟩
  walk_at "x"
  refine ⟨_, cd_isiE hkx .own (hs hi (j := 17) rfl), ?_⟩
  walk_at "x"
  refine ⟨by simp, ?_⟩
  refine ⟨_, od_catL (by simp), ?_⟩
  refine xb_cons ?_
  walk_at "x"
  refine ⟨_, cd_isiE hkx .own (hs hi (j := 18) rfl), ?_⟩
  walk_at "x"
  refine ⟨_, cd_isiE hkx .own (hs hi (j := 19) rfl), ?_⟩
  walk_at "x"
  refine ⟨_, cd_isiE hkx .own (hs hi (j := 20) rfl), ?_⟩
  walk_at "x"
  refine ⟨by simp, ?_⟩
  refine ⟨_, od_catL (by simp), ?_⟩
  refine xb_cons ?_
  walk_at "x"
  refine ⟨_, cd_isiE hkx .own (hs hi (j := 21) rfl), ?_⟩
  walk_at "x"
  refine ⟨by simp, ?_⟩
  refine ⟨_, od_catL (by simp), ?_⟩
  refine xb_one (xs_ret ?_)
  walk_at "x"
  exact h
theorem c_LbasesN {W1 W2 W3 : Addr} (df : De T "_law_bases" ["_law_e"] s_Lbases) (m1 : T.mg "WrongValue" = some (.ref W1)) (m2 : T.mg "WrongName" = some (.ref W2)) (m3 : T.mg "NotPossible" = some (.ref W3)) (z1 : T.mg "ValueError" = none) (z2 : T.mg "LookupError" = none) (z3 : T.mg "ArithmeticError" = none) :
    Cp T "_law_bases" 1 (sBases W1 W2 W3 T.K) := by
  refine cp_of df sc_Lbases (fun ds Q ⟨_, _, _, _, _, h, _⟩ => by rw [h]; rfl) ?_
  rintro hN f cdv A outer s H E0 hr m ds Q E ⟨C, fs, b1, b2, b3, rfl, ⟨hk, w1, w2, w3, l1, l2, l3⟩, h⟩
  -- what is said once the three are known
  refine xb_cons (xs_set (i := 1) hN rfl (.inl rfl) (xe_own_lst (xa_cons ?_)))
  have fin : ∀ (pf : Addr), XB (cX T n_Lbases "_law_bases" s_Lbases f cdv A outer s H E0) (mdOf m [] H E) ((defBody s_Lbases).drop 2) ⟨[some (.exc C fs), some (.ref pf)], [(pf, .lst [.bl b1, .bl b2])]⟩ (poOf Q) := fun pf => by
    refine xb_freeze (i := 1) (c1 := []) (c2 := []) rfl rfl ?_
    walk_at "x"
    refine ⟨_, cd_isiE hk .own w3, ?_⟩
    cases b3 with
    | false =>
      refine ⟨_, rfl, ?_⟩
      walk_at "x"
      refine ⟨by simp, ?_⟩
      refine ⟨_, od_catL (xs := [.bl b1, .bl b2]) (by simp), ?_⟩
      exact h
    | true =>
      refine ⟨_, rfl, ?_⟩
      walk_at "x"
      refine xe_ty rfl z3 rfl ?_
      walk_at "x"
      refine ⟨_, cd_isiE hk .ty (l3 rfl), ?_⟩
      walk_at "x"
      refine ⟨by simp, ?_⟩
      refine ⟨_, od_catL (xs := [.bl b1, .bl b2]) (by simp), ?_⟩
      exact h
  have mid : ∀ (pf : Addr), XB (cX T n_Lbases "_law_bases" s_Lbases f cdv A outer s H E0) (mdOf m [] H E) ((defBody s_Lbases).drop 1) ⟨[some (.exc C fs), some (.ref pf)], [(pf, .lst [.bl b1])]⟩ (poOf Q) := fun pf => by
    refine xb_cons (xs_expr (xe_append (i := 1) rfl (.inl rfl) rfl ?_ ⟨[], _, [], rfl⟩))
    walk_at "x"
    refine ⟨_, cd_isiE hk .own w2, ?_⟩
    cases b2 with
    | false =>
      refine ⟨_, rfl, ?_⟩
      walk_at "x"
      exact ⟨[], _, [], rfl, by simp, fin pf⟩
    | true =>
      refine ⟨_, rfl, ?_⟩
      walk_at "x"
      refine xe_ty rfl z2 rfl ?_
      walk_at "x"
      refine ⟨_, cd_isiE hk .ty (l2 rfl), ?_⟩
      walk_at "x"
      exact ⟨[], _, [], rfl, by simp, fin pf⟩
  walk_at "x"
  refine ⟨_, cd_isiE hk .own w1, ?_⟩
  cases b1 with
  | false =>
    refine ⟨_, rfl, ?_⟩
    walk_at "x"
    exact ⟨by simp, fun pf => mid pf⟩
  | true =>
    refine ⟨_, rfl, ?_⟩
    walk_at "x"
    refine xe_ty rfl z1 rfl ?_
    walk_at "x"
    refine ⟨_, cd_isiE hk .ty (l1 rfl), ?_⟩
    walk_at "x"
    exact ⟨by simp, fun pf => mid pf⟩
theorem c_Lby_place (df : De T "_law_by_place" ["_law_first", "_law_second"] s_Lby_place) (e0 : ErrK T "InvalidText" (gA "InvalidText" T.K) "given") (e1 : ErrK T "InvalidRing" (gA "InvalidRing" T.K) "given") (e2 : ErrK T "InvalidOrder" (gA "InvalidOrder" T.K) "given") (e3 : ErrK T "InvalidStand" (gA "InvalidStand" T.K) "given") (e4 : ErrK T "InvalidPair" (gA "InvalidPair" T.K) "given") (e5 : ErrK T "InvalidNumber" (gA "InvalidNumber" T.K) "given") (e6 : ErrK T "InvalidWish" (gA "InvalidWish" T.K) "given") (e7 : ErrK T "InvalidCommand" (gA "InvalidCommand" T.K) "given") (e8 : ErrK T "NotAWeb" (gA "NotAWeb" T.K) "given") (e9 : ErrK T "NotAWay" (gA "NotAWay" T.K) "given") (e10 : ErrK T "InvalidTies" (gA "InvalidTies" T.K) "index") (e11 : ErrK T "InvalidArrows" (gA "InvalidArrows" T.K) "index") (e12 : ErrK T "InvalidRow" (gA "InvalidRow" T.K) "index") (e13 : ErrK T "InvalidRules" (gA "InvalidRules" T.K) "index") (e14 : ErrK T "InvalidHints" (gA "InvalidHints" T.K) "index") (e15 : ErrK T "UnknownPlace" (gA "UnknownPlace" T.K) "given") (e16 : ErrK T "NotGiving" (gA "NotGiving" T.K) "given") (e17 : ErrK T "NotTaking" (gA "NotTaking" T.K) "given") (e18 : ErrK T "Broken" (gA "Broken" T.K) "index") : Cp T "_law_by_place" 3 (sMadeE T.K) := by
  refine cp_of df sc_Lby_place (fun ds Q ⟨_, _, h, _⟩ => by rw [h]; rfl) ?_
  rintro hN f cdv A outer s H E0 hr m ds Q E ⟨v, w, rfl, h⟩
  refine xb_cons (xs_asg ?_)
  refine xe_lst ?_
  refine xa_cons (xe_excT e0.t (hr.mono (by decide)) rfl ?_)
  walk_at "x"
  refine xe_excT e1.t (hr.mono (by decide)) rfl ?_
  walk_at "x"
  refine xe_excT e2.t (hr.mono (by decide)) rfl ?_
  walk_at "x"
  refine xe_excT e3.t (hr.mono (by decide)) rfl ?_
  walk_at "x"
  refine ⟨by simp, ?_⟩
  refine xg_name (i := 2) hN rfl (.inl rfl) ?_
  refine xb_cons (xs_asg ?_)
  refine xe_op ?_
  walk_at "xv"
  refine xe_lst ?_
  refine xa_cons (xe_excT e4.t (hr.mono (by decide)) rfl ?_)
  walk_at "x"
  refine xe_excT e5.t (hr.mono (by decide)) rfl ?_
  walk_at "x"
  refine xe_excT e6.t (hr.mono (by decide)) rfl ?_
  walk_at "x"
  refine xe_excT e7.t (hr.mono (by decide)) rfl ?_
  walk_at "x"
  refine ⟨by simp, ?_⟩
  refine ⟨_, od_catL (by simp), ?_⟩
  refine xg_name (i := 2) hN rfl (.inl rfl) ?_
  refine xb_cons (xs_asg ?_)
  refine xe_op ?_
  walk_at "xv"
  refine xe_lst ?_
  refine xa_cons (xe_excT e8.t (hr.mono (by decide)) rfl ?_)
  walk_at "x"
  refine xe_excT e9.t (hr.mono (by decide)) rfl ?_
  walk_at "x"
  refine xe_excT e10.t (hr.mono (by decide)) rfl ?_
  walk_at "x"
  refine xe_excT e11.t (hr.mono (by decide)) rfl ?_
  walk_at "x"
  refine ⟨by simp, ?_⟩
  refine ⟨_, od_catL (by simp), ?_⟩
  refine xg_name (i := 2) hN rfl (.inl rfl) ?_
  refine xb_cons (xs_asg ?_)
  refine xe_op ?_
  walk_at "xv"
  refine xe_lst ?_
  refine xa_cons (xe_excT e12.t (hr.mono (by decide)) rfl ?_)
  walk_at "x"
  refine xe_excT e13.t (hr.mono (by decide)) rfl ?_
  walk_at "x"
  refine xe_excT e14.t (hr.mono (by decide)) rfl ?_
  walk_at "x"
  refine xe_excT e15.t (hr.mono (by decide)) rfl ?_
  walk_at "x"
  refine ⟨by simp, ?_⟩
  refine ⟨_, od_catL (by simp), ?_⟩
  refine xg_name (i := 2) hN rfl (.inl rfl) ?_
  refine xb_cons (xs_asg ?_)
  refine xe_op ?_
  walk_at "xv"
  refine xe_lst ?_
  refine xa_cons (xe_excT e16.t (hr.mono (by decide)) rfl ?_)
  walk_at "x"
  refine xe_excT e17.t (hr.mono (by decide)) rfl ?_
  walk_at "x"
  refine xe_excT e18.t (hr.mono (by decide)) rfl ?_
  walk_at "x"
  refine ⟨by simp, ?_⟩
  refine ⟨_, od_catL (by simp), ?_⟩
  refine xg_name (i := 2) hN rfl (.inl rfl) ?_
  refine xb_one (xs_ret ?_)
  walk_at "xv"
  exact h
theorem c_Lby_word (df : De T "_law_by_word" ["_law_first", "_law_second"] s_Lby_word) (e0 : ErrK T "InvalidText" (gA "InvalidText" T.K) "given") (e1 : ErrK T "InvalidRing" (gA "InvalidRing" T.K) "given") (e2 : ErrK T "InvalidOrder" (gA "InvalidOrder" T.K) "given") (e3 : ErrK T "InvalidStand" (gA "InvalidStand" T.K) "given") (e4 : ErrK T "InvalidPair" (gA "InvalidPair" T.K) "given") (e5 : ErrK T "InvalidNumber" (gA "InvalidNumber" T.K) "given") (e6 : ErrK T "InvalidWish" (gA "InvalidWish" T.K) "given") (e7 : ErrK T "InvalidCommand" (gA "InvalidCommand" T.K) "given") (e8 : ErrK T "NotAWeb" (gA "NotAWeb" T.K) "given") (e9 : ErrK T "NotAWay" (gA "NotAWay" T.K) "given") (e10 : ErrK T "InvalidTies" (gA "InvalidTies" T.K) "index") (e11 : ErrK T "InvalidArrows" (gA "InvalidArrows" T.K) "index") (e12 : ErrK T "InvalidRow" (gA "InvalidRow" T.K) "index") (e13 : ErrK T "InvalidRules" (gA "InvalidRules" T.K) "index") (e14 : ErrK T "InvalidHints" (gA "InvalidHints" T.K) "index") (e15 : ErrK T "UnknownPlace" (gA "UnknownPlace" T.K) "given") (e16 : ErrK T "NotGiving" (gA "NotGiving" T.K) "given") (e17 : ErrK T "NotTaking" (gA "NotTaking" T.K) "given") (e18 : ErrK T "Broken" (gA "Broken" T.K) "index") : Cp T "_law_by_word" 3 (sMadeE T.K) := by
  refine cp_of df sc_Lby_word (fun ds Q ⟨_, _, h, _⟩ => by rw [h]; rfl) ?_
  rintro hN f cdv A outer s H E0 hr m ds Q E ⟨v, w, rfl, h⟩
  refine xb_cons (xs_asg ?_)
  refine xe_lst ?_
  refine xa_cons (xe_excK e0 (hr.mono (by decide)) rfl ?_)
  walk_at "x"
  refine xe_excK e1 (hr.mono (by decide)) rfl ?_
  walk_at "x"
  refine xe_excK e2 (hr.mono (by decide)) rfl ?_
  walk_at "x"
  refine ⟨by simp, ?_⟩
  refine xg_name (i := 2) hN rfl (.inl rfl) ?_
  refine xb_cons (xs_asg ?_)
  refine xe_op ?_
  walk_at "xv"
  refine xe_lst ?_
  refine xa_cons (xe_excK e3 (hr.mono (by decide)) rfl ?_)
  walk_at "x"
  refine xe_excK e4 (hr.mono (by decide)) rfl ?_
  walk_at "x"
  refine xe_excK e5 (hr.mono (by decide)) rfl ?_
  walk_at "x"
  refine ⟨by simp, ?_⟩
  refine ⟨_, od_catL (by simp), ?_⟩
  refine xg_name (i := 2) hN rfl (.inl rfl) ?_
  refine xb_cons (xs_asg ?_)
  refine xe_op ?_
  walk_at "xv"
  refine xe_lst ?_
  refine xa_cons (xe_excK e6 (hr.mono (by decide)) rfl ?_)
  walk_at "x"
  refine xe_excK e7 (hr.mono (by decide)) rfl ?_
  walk_at "x"
  refine xe_excK e8 (hr.mono (by decide)) rfl ?_
  walk_at "x"
  refine ⟨by simp, ?_⟩
  refine ⟨_, od_catL (by simp), ?_⟩
  refine xg_name (i := 2) hN rfl (.inl rfl) ?_
  refine xb_cons (xs_asg ?_)
  refine xe_op ?_
  walk_at "xv"
  refine xe_lst ?_
  refine xa_cons (xe_excK e9 (hr.mono (by decide)) rfl ?_)
  walk_at "x"
  refine xe_excK e10 (hr.mono (by decide)) rfl ?_
  walk_at "x"
  refine xe_excK e11 (hr.mono (by decide)) rfl ?_
  walk_at "x"
  refine ⟨by simp, ?_⟩
  refine ⟨_, od_catL (by simp), ?_⟩
  refine xg_name (i := 2) hN rfl (.inl rfl) ?_
  refine xb_cons (xs_asg ?_)
  refine xe_op ?_
  walk_at "xv"
  refine xe_lst ?_
  refine xa_cons (xe_excK e12 (hr.mono (by decide)) rfl ?_)
  walk_at "x"
  refine xe_excK e13 (hr.mono (by decide)) rfl ?_
  walk_at "x"
  refine xe_excK e14 (hr.mono (by decide)) rfl ?_
  walk_at "x"
  refine ⟨by simp, ?_⟩
  refine ⟨_, od_catL (by simp), ?_⟩
  refine xg_name (i := 2) hN rfl (.inl rfl) ?_
  refine xb_cons (xs_asg ?_)
  refine xe_op ?_
  walk_at "xv"
  refine xe_lst ?_
  refine xa_cons (xe_excK e15 (hr.mono (by decide)) rfl ?_)
  walk_at "x"
  refine xe_excK e16 (hr.mono (by decide)) rfl ?_
  walk_at "x"
  refine xe_excK e17 (hr.mono (by decide)) rfl ?_
  walk_at "x"
  refine ⟨by simp, ?_⟩
  refine ⟨_, od_catL (by simp), ?_⟩
  refine xg_name (i := 2) hN rfl (.inl rfl) ?_
  refine xb_cons (xs_asg ?_)
  refine xe_op ?_
  walk_at "xv"
  refine xe_lst ?_
  refine xa_cons (xe_excK e18 (hr.mono (by decide)) rfl ?_)
  walk_at "x"
  refine ⟨by simp, ?_⟩
  refine ⟨_, od_catL (by simp), ?_⟩
  refine xg_name (i := 2) hN rfl (.inl rfl) ?_
  refine xb_one (xs_ret ?_)
  walk_at "xv"
  exact h
theorem c_Lkept (df : De T "_law_kept" ["_law_e", "_law_at"] s_Lkept) : Cp T "_law_kept" 1 (sKept T.K) := by
  refine cp_of df sc_Lkept (fun ds Q ⟨_, _, _, _, h, _⟩ => by rw [h]; rfl) ?_
  rintro hN f cdv A outer s H E0 hr m ds Q E ⟨C, fl, y, i, rfl, hx, hno, hf, hi, h⟩
  refine xb_one (xs_ret (xe_if ?_))
  walk_at "x"
  refine ⟨by simp, ?_⟩
  refine ⟨_, od_inI (ns := [10, 11, 12, 13, 14, 18]), ?_⟩
  by_cases hc : i ∈ [10, 11, 12, 13, 14, 18]
  · rw [if_pos hc] at hf
    subst hf
    have e : decide ((i : Int) ∈ ([10, 11, 12, 13, 14, 18] : List Int)) = true := by
      simp only [List.mem_cons, List.not_mem_nil, or_false] at hc
      simp only [List.mem_cons, List.not_mem_nil, or_false, decide_eq_true_eq]
      omega
    rw [e]
    refine ite_tt (xe_exf ?_)
    walk_at "x"
    exact ⟨C, _, y, rfl, hx, hno, rfl, h⟩
  · rw [if_neg hc] at hf
    subst hf
    have e : decide ((i : Int) ∈ ([10, 11, 12, 13, 14, 18] : List Int)) = false := by
      simp only [List.mem_cons, List.not_mem_nil, or_false] at hc
      simp only [List.mem_cons, List.not_mem_nil, or_false, decide_eq_false_iff_not]
      omega
    rw [e]
    refine ite_ff (xe_exf ?_)
    walk_at "x"
    exact ⟨C, _, y, rfl, hx, hno, rfl, h⟩
theorem jj_right1 {W1 W2 W3 : Addr} (df : De T "_law_right" ["_law_jar_here"] s_Lright) (zr : T.mg "repr" = none) (c0 : Cj T "_law_odd" 3 sOdd) (c1 : Cp T "_law_sorts" 1 (sSorts T.K)) (c2 : Cp T "_law_bases" 1 (sBases W1 W2 W3 T.K)) (c3 : Cp T "_law_by_place" 3 (sMadeE T.K)) (c4 : Cp T "_law_by_word" 3 (sMadeE T.K)) (c5 : Cp T "_law_kept" 1 (sKept T.K))
    (eA : Err0 T "Apart" (gA "Apart" T.K)) (eR : Err0 T "Ringed" (gA "Ringed" T.K)) (eN : Err0 T "NothingToUndo" (gA "NothingToUndo" T.K)) (hb : ∀ {x : Str} {k : Nat}, (x, k) ∈ errU → BasK T.K W1 W2 W3 (gA x T.K) (k == 0) (k == 1) (k == 2)) (hf : ∀ {x f : Str}, (x, f) ∈ errA → PySem.W.findIn T.K (.ref (gA x T.K)) f = some none) : CjG T "_law_right" 5 sRight := by
  refine cjg_of df sc_Lright (fun ds Q ⟨h, _⟩ => by rw [h]; rfl) ?_
  rintro hN f cdv A outer s H E0 hr gd m J ds Q E ⟨rfl, h⟩
  refine xb_cons (xs_par (i := 1) (j := 2) rfl hN rfl rfl (by decide) rfl rfl (xa_cons ?_))
  walk_at "x"
  refine ⟨J, [], _, rfl, rfl, ?_⟩
  intro Qc hq
  refine ⟨rfl, fun v hv => hq _ ?_⟩; clear hq Qc
  walk_at "x"
  refine ⟨J, [], _, rfl, rfl, ?_⟩
  intro Qc hq
  refine ⟨rfl, fun w hw => hq _ ?_⟩; clear hq Qc
  have hv := odd_val _ hv
  have hw := odd_val _ hw
  refine xa_nil ⟨_, _, rfl, ?_⟩
  refine xb_cons (xs_forN (i := 3) PassesOwn.never hN rfl (.inl rfl) (xi_any ?_))
  walk_at "x"
  intro Qc hq
  refine ⟨v, w, rfl, hq _ ?_⟩; clear hq Qc
  walk_at "x"
  intro Qc hq
  refine ⟨v, w, rfl, hq _ ?_⟩; clear hq Qc
  walk_at "x"
  refine ⟨by simp, ?_⟩
  refine ⟨[.lst (madeE T.K v w), .lst (madeE T.K v w)], rfl, ?_⟩
  refine ⟨fun t Γ1 => ∃ o3 o4 o5 o6 o7, Γ1 = ⟨[some (.ref J), some v, some w, o3, o4, o5, o6, o7], [(J, .jar)]⟩, ⟨none, none, none, none, none, rfl⟩, ?_, ?_⟩
  · rintro t d Γ2 hd ⟨o3, o4, o5, o6, o7, rfl⟩
    have ed : d = .lst (madeE T.K v w) := by
      have hm := List.mem_of_getElem? hd
      simpa using hm
    subst ed
    refine xb_cons (xs_asg ?_)
    refine xe_op ?_
    walk_at "xv"
    refine xe_lst (xa_cons (xe_exc0 eA rfl ?_))
    refine xa_cons (xe_exc0 eR rfl ?_)
    refine xa_cons (xe_exc0 eN rfl ?_)
    refine xa_nil ⟨by simp, ?_⟩
    refine ⟨_, od_catL (by simp [madeE]), ?_⟩
    refine xg_name (i := 3) hN rfl (.inl rfl) ?_
    rw [show madeE T.K v w ++ [.exc (gA "Apart" T.K) [], .exc (gA "Ringed" T.K) [], .exc (gA "NothingToUndo" T.K) []] = allE T.K v w from rfl]
    refine xb_one (xs_forN (i := 4) PassesOwn.never hN rfl (.inr rfl) (xi_rng1 rfl B.range ?_))
    walk_at "x"
    refine ⟨by omega, by omega, ?_⟩
    refine ⟨fun i Γ1 => ∃ o4 o5 o6 o7, Γ1 = ⟨[some (.ref J), some v, some w, some (.lst (allE T.K v w)), o4, o5, o6, o7], [(J, .jar)]⟩, ⟨o4, o5, o6, o7, rfl⟩, ?_, ?_⟩
    · rintro i d Γ3 hi ⟨o4, o5, o6, o7, rfl⟩
      obtain ⟨hi1, rfl⟩ := rng_get hi
      have hi2 : i < 22 := by simpa using hi1
      obtain ⟨x, fs, hx, hu, hget, hfl⟩ := allE_get T.K v w i hi2
      have hix : ∀ X : Cx, IxD X (.lst (allE T.K v w)) (.int (i : Int)) (.exc (gA x T.K) fs) := fun X => ixd_lst (atI_nat hget)
      -- sorts
      refine xb_cons (xs_if_f ?_ (xb_nil ?_))
      · refine xt_cmp rfl (xe_cp c1 hr (by decide) rfl (xa_cons ?_))
        walk_at "x"
        refine ⟨_, hix _, ?_⟩
        refine xa_nil ?_
        intro Qc hq
        refine ⟨x, i, fs, rfl, hx, hq _ ?_⟩; clear hq Qc
        refine xe_lcA (fun k : Nat => .int (k : Int)) D.bl (i := 7) hN rfl (by show blkC n_Lright (defScope s_Lright) _ _ = true; decide +kernel) (fun _ _ _ _ _ => .inl rfl) (fun _ _ _ _ _ => .inr rfl) ?_
        refine xi_rng1 rfl B.range ?_
        walk_at "x"
        refine ⟨by omega, by omega, ?_⟩
        refine ⟨List.range 22, fun k => some (decide (k = i)), by simp [rngD], by simp, ?_, ?_⟩
        · intro k hk μ' s1 H1 C1 cl1 fp1
          walk_at "x"
          intro s2 H2 C2 cl2 fp2
          walk_at "x"
          exact ⟨by rw [show decide ((k : Int) = (i : Int)) = decide (k = i) from by simp only [decide_eq_decide]; omega], rfl⟩
        refine ⟨_, od_neBs (a := n22.map fun j => decide (i = j)) (b := (List.range 22).filterMap fun k => some (decide (k = i))) hr.units, ?_⟩
        have e : (n22.map fun j => decide (i = j)) = (List.range 22).filterMap fun k => some (decide (k = i)) := by
          have h22 : n22 = List.range 22 := by decide
          rw [h22]
          simp [eq_comm]
        rw [e]
        exact ⟨by simp, rfl⟩
      -- under
      refine xb_cons (xs_asg ?_)
      refine XE.imp (Q := fun z Γ1 => z = .int ((undE i : Nat) : Int) ∧ Γ1 = ⟨[some (.ref J), some v, some w, some (.lst (allE T.K v w)), some (.int (i : Int)), o5, o6, o7], [(J, .jar)]⟩) ?_ ?_
      · refine xe_if ?_
        walk_at "x"
        refine ite_c (fun h15 => ?_) (fun h15 => ?_)
        · walk_at "x"
          exact ⟨by unfold undE; rw [if_pos (by omega)]; rfl, rfl⟩
        · walk_at "x"
          refine ite_c (fun h16 => ?_) (fun h16 => ?_)
          · walk_at "x"
            exact ⟨by unfold undE; rw [if_neg (by omega), if_pos (by omega)]; rfl, rfl⟩
          · walk_at "x"
            exact ⟨by unfold undE; rw [if_neg (by omega), if_neg (by omega)]; rfl, rfl⟩
      rintro z Γ1 ⟨rfl, rfl⟩
      refine xg_name (i := 5) hN rfl (.inr rfl) ?_
      refine xb_cons (xs_if_f ?_ (xb_nil ?_))
      · refine xt_cmp rfl (xe_cp c2 hr (by decide) rfl (xa_cons ?_))
        walk_at "x"
        refine ⟨_, hix _, ?_⟩
        refine xa_nil ?_
        intro Qc hq
        refine ⟨_, fs, _, _, _, rfl, hb hu, hq _ ?_⟩; clear hq Qc
        refine xe_lcA (fun k : Nat => .int (k : Int)) D.bl (i := 7) hN rfl (by show blkC n_Lright (defScope s_Lright) _ _ = true; decide +kernel) (fun _ _ _ _ _ => .inl rfl) (fun _ _ _ _ _ => .inr rfl) ?_
        refine xi_rng1 rfl B.range ?_
        walk_at "x"
        refine ⟨by omega, by omega, ?_⟩
        refine ⟨List.range 3, fun k => some (decide (k = undE i)), by simp [rngD], by simp, ?_, ?_⟩
        · intro k hk μ' s1 H1 C1 cl1 fp1
          walk_at "x"
          intro s2 H2 C2 cl2 fp2
          walk_at "x"
          exact ⟨by rw [show decide ((k : Int) = ((undE i : Nat) : Int)) = decide (k = undE i) from by simp only [decide_eq_decide]; omega], rfl⟩
        refine ⟨_, od_neBs (a := [undE i == 0, undE i == 1, undE i == 2]) (b := (List.range 3).filterMap fun k => some (decide (k = undE i))) hr.units, ?_⟩
        have e : ∀ u : Nat, [u == 0, u == 1, u == 2] = (List.range 3).filterMap fun k => some (decide (k = u)) := fun u => by
          show _ = [decide (0 = u), decide (1 = u), decide (2 = u)]
          simp only [List.cons.injEq, and_true]
          refine ⟨?_, ?_, ?_⟩ <;> (rw [Bool.eq_iff_iff, beq_iff_eq, decide_eq_true_iff]; exact ⟨Eq.symm, Eq.symm⟩)
        rw [e]
        exact ⟨by simp, rfl⟩
      -- due
      refine xb_cons (xs_asg ?_)
      refine XE.imp (Q := fun z Γ1 => z = (if i % 2 = 0 then v else w) ∧ Γ1 = ⟨[some (.ref J), some v, some w, some (.lst (allE T.K v w)), some (.int (i : Int)), some (.int ((undE i : Nat) : Int)), o6, o7], [(J, .jar)]⟩) ?_ ?_
      · refine xe_if ?_
        walk_at "x"
        refine ⟨_, od_mod (by omega), ?_⟩
        walk_at "x"
        refine ite_c (fun h2 => ?_) (fun h2 => ?_)
        · walk_at "x"
          exact ⟨by rw [if_pos (by omega)], rfl⟩
        · walk_at "x"
          exact ⟨by rw [if_neg (by omega)], rfl⟩
      rintro z Γ1 ⟨rfl, rfl⟩
      refine xg_name (i := 6) hN rfl (.inl rfl) ?_
      have hy : ValOk (if i % 2 = 0 then v else w) := by split <;> assumption
      generalize (if i % 2 = 0 then v else w) = y at hy hfl
      refine xb_one (xs_if_f ?_ (xb_nil ⟨_, _, _, _, rfl⟩))
      by_cases h19 : i < 19
      · obtain ⟨fl, hfa, hfe, rfl⟩ := hfl h19
        refine xt_w (xw_and ?_)
        walk_at "x"
        refine ite_t (by omega) ?_
        refine xw_and1 (xt_cmp rfl ?_)
        refine xe_callB rfl zr PyProof.Rows.boot_repr (xa_cons (xe_cp c5 hr (by decide) rfl (xa_cons ?_)))
        walk_at "x"
        refine ⟨_, hix _, ?_⟩
        walk_at "x"
        intro Qc hq
        refine ⟨gA x T.K, fl, y, i, rfl, (hb hu).k.xf, hf hfa, hfe, h19, hq _ ?_⟩; clear hq Qc
        walk_at "x"
        refine ⟨_, hy.rep _ gd hr.units, ?_⟩
        refine xe_callB rfl zr PyProof.Rows.boot_repr ?_
        walk_at "x"
        refine ⟨_, hy.rep _ gd hr.units, ?_⟩
        refine ⟨_, od_neRefl hr.units hy.lt.ok (by simp [dpD]), ?_⟩
        exact ⟨rfl, rfl⟩
      · refine xt_w (xw_and ?_)
        walk_at "x"
        refine ite_f (by omega) ?_
        exact ⟨rfl, rfl⟩
    · rintro Γ3 ⟨o4, o5, o6, o7, rfl⟩
      exact ⟨_, _, _, _, _, rfl⟩
  · rintro Γ2 ⟨o3, o4, o5, o6, o7, rfl⟩
    walk_at "x"
    exact h
theorem f_law1 {W1 W2 W3 : Addr} {g : Addr} {fd : FuncData} (df : Fun T.K "law" "law" s_law g fd) (g1 : GI T.mg "MOST_TIES" 10) (g2 : GI T.mg "MOST_PLACES" 7) (c1 : Ck T "_law_jar" 1 kKeg) (c2 : CjG T "_law_right" 5 sRight) (c3 : Cp T "_law_bases" 1 (sBases W1 W2 W3 T.K))
    (eV : Err0 T "WrongValue" (gA "WrongValue" T.K)) (eN : Err0 T "WrongName" (gA "WrongName" T.K)) (eP : Err0 T "NotPossible" (gA "NotPossible" T.K)) (hb : ∀ {x : Str} {k : Nat}, (x, k) ∈ errU → BasK T.K W1 W2 W3 (gA x T.K) (k == 0) (k == 1) (k == 2)) : FnG T.P T.w T.K T.mg T.base 6 g fd ["_law_script"] (spD T.K sLaw) := by
  refine fn_GD df sc_law (fun ds c Q E ⟨_, ⟨ns, h, _⟩, _⟩ => by rw [h]; rfl) ?_
  rintro cdv A outer s H E0 hr hgd m ds c Q E ⟨rfl, ⟨ns, rfl, hl⟩, h⟩
  have hN := sc_law.nd
  show XB (cX T n_law "law" s_law g cdv A outer s H E0) (mdOf m [] H E) (defBody s_law) ⟨startD n_law [.lst (ns.map D.int)], []⟩ (poOf Q)
  refine xb_cons (xs_if_f ?_ (xb_nil ?_))
  · walk_at "x"
    refine ⟨by simp, ?_⟩
    walk_at "x"
    refine ⟨by simp, ?_⟩
    refine ⟨_, od_neRefl (d := .lst [.int 10, .int 7]) hr.units (by decide +kernel) (by decide +kernel), ?_⟩
    exact ⟨rfl, rfl⟩
  refine xb_cons (xs_asg ?_)
  refine xe_lst (xa_cons (xe_exc0 eV rfl ?_))
  refine xa_cons (xe_exc0 eN rfl ?_)
  refine xa_cons (xe_exc0 eP rfl ?_)
  refine xa_nil ⟨by simp, ?_⟩
  refine xg_name (i := 1) hN rfl (.inl rfl) ?_
  refine xb_cons (xs_if_f ?_ (xb_nil ?_))
  · refine xt_cmp rfl ?_
    refine xe_lcA (fun p : Str × Nat => .exc (gA p.1 T.K) []) (fun p : Str × Nat => .lst [.bl (p.2 == 0), .bl (p.2 == 1), .bl (p.2 == 2)]) (i := 2) hN rfl (by show blkC n_law (defScope s_law) _ _ = true; decide +kernel) (fun _ _ _ _ _ => .inl rfl) (fun _ _ _ _ _ => .inr rfl) ?_
    refine xi_any ?_
    walk_at "xv"
    refine ⟨[.exc (gA "WrongValue" T.K) [], .exc (gA "WrongName" T.K) [], .exc (gA "NotPossible" T.K) []], rfl, [("WrongValue", 0), ("WrongName", 1), ("NotPossible", 2)], fun p => some p, rfl, by simp, ?_, ?_⟩
    · intro p hp μ' s1 H1 C1 cl1 fp1
      have hpu : (p.1, p.2) ∈ errU := by
        simp only [List.mem_cons, List.not_mem_nil, or_false] at hp
        rcases hp with rfl | rfl | rfl <;> decide
      walk_at "x"
      intro s2 H2 C2 cl2 fp2
      walk_at "x"
      intro Qc hq
      refine ⟨_, [], _, _, _, rfl, hb hpu, hq _ ?_⟩; clear hq Qc
      exact ⟨_, rfl, rfl, rfl⟩
    repeat (first | walk_at "x1" | walk_at "xo" | ((with_reducible show (_ : Nat) ≤ 100000 ∧ _); refine ⟨by simp, ?_⟩))
    refine ⟨_, od_neRefl (d := .lst [.lst [.bl true, .bl false, .bl false], .lst [.bl false, .bl true, .bl false], .lst [.bl false, .bl false, .bl true]]) hr.units (by decide +kernel) (by decide +kernel), ?_⟩
    exact ⟨rfl, rfl⟩
  walk_at "x"
  refine xe_lc rfl hN (i := 3) rfl (blkOk_by (by show blkC n_law (defScope s_law) _ _ = true; decide +kernel)) (fun _ _ _ _ _ => .inl rfl) (fun _ _ _ _ _ => .inr rfl) (xi_rng1 rfl B.range ?_)
  walk_at "x"
  obtain ⟨z, hze⟩ : ∃ z : Int, (if (if (4 : Int) < ((ns.map D.int).length : Int) then (4 : Int) else ((ns.map D.int).length : Int)) > 2 then (if (4 : Int) < ((ns.map D.int).length : Int) then (4 : Int) else ((ns.map D.int).length : Int)) else 2) = z := ⟨_, rfl⟩
  rw [hze]
  have hz2 : 2 ≤ z := by rw [← hze]; split <;> omega
  have hz4 : z ≤ 4 := by rw [← hze]; split <;> (try split) <;> omega
  clear hze
  refine ⟨by omega, by omega, fun k acc c => acc = List.replicate k (.bl true), rfl, ?_, by rw [rng_len]; omega, ?_⟩
  · rintro k d acc cs2 hd rfl μ' s1 H1 C1 cl1 fp1
    obtain ⟨hk, rfl⟩ := rng_get hd
    walk_at "x"
    intro s3 H3 C3 cl3 fp3
    refine xe_cjG c2 hr hgd (Nat.le_refl _) rfl (xa_cons (xe_ck c1 hr (by decide) rfl ?_))
    walk_at "x"
    refine ⟨⟨ns, k, rfl, by omega, hl⟩, fun p => ?_⟩
    walk_at "x"
    refine ⟨p, _, [], rfl, rfl, ?_⟩
    intro Qc hq
    refine ⟨rfl, hq _ ?_⟩
    show _ ++ _ = List.replicate (k + 1) _
    rw [List.replicate_succ']
  · rintro acc cs2 rfl
    rw [rng_len]
    walk_at "x"
    refine ⟨_, cd_all (bs := List.replicate z.toNat true) rfl |> fun h => by rw [List.map_replicate] at h; exact h, ?_⟩
    have e : (List.replicate z.toNat true).all id = true := by simp
    rw [e]
    exact h _
end
theorem all_mk {P : Program} {w : World} {K : PySem.W.Frag} {h : Heap} {mg : Str → Option Value} {fa : Addr} (KX : K.In h) (G : h.Ns mainGlobals mg) (hfa : mg "law" = some (.ref fa)) (c : SaysX fcs dfs K) :
    ∃ fd : FuncData, (∀ (s : Shared) (v : Value), BindsTo s fd ⟨[v], []⟩ [("_law_script", v)]) ∧ ∀ base : Heap, K.In base → base.Ns mainGlobals mg → FnG P w K mg base 6 fa fd ["_law_script"] (spD K sLaw) := by
  have e := hfa.symm.trans (glo_mg KX G (c.fact 31))
  cases e
  have B : Bl mg := ⟨free_mg KX G (c.fact 0), free_mg KX G (c.fact 1), free_mg KX G (c.fact 2), free_mg KX G (c.fact 3), free_mg KX G (c.fact 4), free_mg KX G (c.fact 5), free_mg KX G (c.fact 6), free_mg KX G (c.fact 7), free_mg KX G (c.fact 8), free_mg KX G (c.fact 9), free_mg KX G (c.fact 10), free_mg KX G (c.fact 11), free_mg KX G (c.fact 12), free_mg KX G (c.fact 13), free_mg KX G (c.fact 14)⟩
  obtain ⟨fdl, Fl⟩ := c.fo 10
  have bl := Fl.binds (ps := ["_law_script"]) fun _ _ _ _ _ _ us hl => match us, hl with | [_], _ => rfl
  refine ⟨fdl, fun s v => ?_, fun base _ _ => ?_⟩
  · obtain ⟨oc, od, kV, doc, pm, an, cdv, ct, osl, rfl, lk, hcd⟩ := Fl.ex
    exact .of_eq rfl
  let T : Wd := ⟨P, w, K, mg, base⟩
  have B : Bl T.mg := B
  have KX : T.K.In h := KX
  have G : h.Ns mainGlobals T.mg := G
  have z_ArithmeticError : T.mg "ArithmeticError" = none := free_mg KX G (c.fact 15)
  have z_LookupError : T.mg "LookupError" = none := free_mg KX G (c.fact 16)
  have z_ValueError : T.mg "ValueError" = none := free_mg KX G (c.fact 17)
  have z_repr : T.mg "repr" = none := free_mg KX G (c.fact 18)
  have g_MOST_PLACES : GI T.mg "MOST_PLACES" 7 := int_mg KX G (c.fact 19)
  have g_MOST_TIES : GI T.mg "MOST_TIES" 10 := int_mg KX G (c.fact 20)
  have d_Lbases : De T "_law_bases" ["_law_e"] s_Lbases := de_at KX G (c.fact 21) (c.fo 0) fun _ _ _ _ _ _ us hl => match us, hl with | [_], _ => rfl
  have d_Lby_place : De T "_law_by_place" ["_law_first", "_law_second"] s_Lby_place := de_at KX G (c.fact 22) (c.fo 1) fun _ _ _ _ _ _ us hl => match us, hl with | [_, _], _ => rfl
  have d_Lby_word : De T "_law_by_word" ["_law_first", "_law_second"] s_Lby_word := de_at KX G (c.fact 23) (c.fo 2) fun _ _ _ _ _ _ us hl => match us, hl with | [_, _], _ => rfl
  have d_Ldip : De T "_law_dip" ["_law_jar_here", "_law_wide"] s_Ldip := de_at KX G (c.fact 24) (c.fo 3) fun _ _ _ _ _ _ us hl => match us, hl with | [_, _], _ => rfl
  have d_Ljar : De T "_law_jar" ["_law_script", "_law_k"] s_Ljar := de_at KX G (c.fact 25) (c.fo 4) fun _ _ _ _ _ _ us hl => match us, hl with | [_, _], _ => rfl
  have d_Lkept : De T "_law_kept" ["_law_e", "_law_at"] s_Lkept := de_at KX G (c.fact 26) (c.fo 5) fun _ _ _ _ _ _ us hl => match us, hl with | [_, _], _ => rfl
  have d_Lodd : De T "_law_odd" ["_law_jar_here"] s_Lodd := de_at KX G (c.fact 27) (c.fo 6) fun _ _ _ _ _ _ us hl => match us, hl with | [_], _ => rfl
  have d_Lpick : De T "_law_pick" ["_law_jar_here", "_law_menu"] s_Lpick := de_at KX G (c.fact 28) (c.fo 7) fun _ _ _ _ _ _ us hl => match us, hl with | [_, _], _ => rfl
  have d_Lright : De T "_law_right" ["_law_jar_here"] s_Lright := de_at KX G (c.fact 29) (c.fo 8) fun _ _ _ _ _ _ us hl => match us, hl with | [_], _ => rfl
  have d_Lsorts : De T "_law_sorts" ["_law_e"] s_Lsorts := de_at KX G (c.fact 30) (c.fo 9) fun _ _ _ _ _ _ us hl => match us, hl with | [_], _ => rfl
  have e0_Apart : Err0 T "Apart" (gA "Apart" T.K) := err0_at KX G (c.fact 32) (c.fact 33)
  have e0_NotPossible : Err0 T "NotPossible" (gA "NotPossible" T.K) := err0_at KX G (c.fact 34) (c.fact 35)
  have e0_NothingToUndo : Err0 T "NothingToUndo" (gA "NothingToUndo" T.K) := err0_at KX G (c.fact 36) (c.fact 37)
  have e0_Ringed : Err0 T "Ringed" (gA "Ringed" T.K) := err0_at KX G (c.fact 38) (c.fact 39)
  have e0_WrongName : Err0 T "WrongName" (gA "WrongName" T.K) := errL_at KX G (c.fact 40) (c.fact 41)
  have e0_WrongValue : Err0 T "WrongValue" (gA "WrongValue" T.K) := errV_at KX G (c.fact 42) (c.fact 43)
  have ek_Broken_index : ErrK T "Broken" (gA "Broken" T.K) "index" := errk_at PySem.F.excBase_ArithmeticError PySem.F.store_ArithmeticError KX G (c.fact 44) (c.fact 45) (c.fact 46) (c.fact 47) (c.fo 11) (fun _ F => ini_okT F sc_Broken___init__ rfl rfl rfl (.inl rfl) (.inl rfl) (by decide) (by decide) (by decide) (by decide) fun _ => rfl) (ps := ["self", "index"]) (fun _ _ _ _ _ _ us hl => match us, hl with | [_, _], _ => rfl) (fun _ _ _ _ _ _ _ _ u ws hl => match ws, hl with | [_], _ => rfl)
  have ek_InvalidArrows_index : ErrK T "InvalidArrows" (gA "InvalidArrows" T.K) "index" := errk_at PySem.F.excBase_ValueError PySem.F.store_ValueError KX G (c.fact 48) (c.fact 49) (c.fact 50) (c.fact 51) (c.fo 12) (fun _ F => ini_okT F sc_InvalidArrows___init__ rfl rfl rfl (.inl rfl) (.inl rfl) (by decide) (by decide) (by decide) (by decide) fun _ => rfl) (ps := ["self", "index"]) (fun _ _ _ _ _ _ us hl => match us, hl with | [_, _], _ => rfl) (fun _ _ _ _ _ _ _ _ u ws hl => match ws, hl with | [_], _ => rfl)
  have ek_InvalidCommand_given : ErrK T "InvalidCommand" (gA "InvalidCommand" T.K) "given" := errk_at PySem.F.excBase_ValueError PySem.F.store_ValueError KX G (c.fact 52) (c.fact 53) (c.fact 54) (c.fact 55) (c.fo 13) (fun _ F => ini_okT F sc_InvalidCommand___init__ rfl rfl rfl (.inl rfl) (.inl rfl) (by decide) (by decide) (by decide) (by decide) fun _ => rfl) (ps := ["self", "given"]) (fun _ _ _ _ _ _ us hl => match us, hl with | [_, _], _ => rfl) (fun _ _ _ _ _ _ _ _ u ws hl => match ws, hl with | [_], _ => rfl)
  have ek_InvalidHints_index : ErrK T "InvalidHints" (gA "InvalidHints" T.K) "index" := errk_at PySem.F.excBase_ValueError PySem.F.store_ValueError KX G (c.fact 56) (c.fact 57) (c.fact 58) (c.fact 59) (c.fo 14) (fun _ F => ini_okT F sc_InvalidHints___init__ rfl rfl rfl (.inl rfl) (.inl rfl) (by decide) (by decide) (by decide) (by decide) fun _ => rfl) (ps := ["self", "index"]) (fun _ _ _ _ _ _ us hl => match us, hl with | [_, _], _ => rfl) (fun _ _ _ _ _ _ _ _ u ws hl => match ws, hl with | [_], _ => rfl)
  have ek_InvalidNumber_given : ErrK T "InvalidNumber" (gA "InvalidNumber" T.K) "given" := errk_at PySem.F.excBase_ValueError PySem.F.store_ValueError KX G (c.fact 60) (c.fact 61) (c.fact 62) (c.fact 63) (c.fo 15) (fun _ F => ini_okT F sc_InvalidNumber___init__ rfl rfl rfl (.inl rfl) (.inl rfl) (by decide) (by decide) (by decide) (by decide) fun _ => rfl) (ps := ["self", "given"]) (fun _ _ _ _ _ _ us hl => match us, hl with | [_, _], _ => rfl) (fun _ _ _ _ _ _ _ _ u ws hl => match ws, hl with | [_], _ => rfl)
  have ek_InvalidOrder_given : ErrK T "InvalidOrder" (gA "InvalidOrder" T.K) "given" := errk_at PySem.F.excBase_ValueError PySem.F.store_ValueError KX G (c.fact 64) (c.fact 65) (c.fact 66) (c.fact 67) (c.fo 16) (fun _ F => ini_okT F sc_InvalidOrder___init__ rfl rfl rfl (.inl rfl) (.inl rfl) (by decide) (by decide) (by decide) (by decide) fun _ => rfl) (ps := ["self", "given"]) (fun _ _ _ _ _ _ us hl => match us, hl with | [_, _], _ => rfl) (fun _ _ _ _ _ _ _ _ u ws hl => match ws, hl with | [_], _ => rfl)
  have ek_InvalidPair_given : ErrK T "InvalidPair" (gA "InvalidPair" T.K) "given" := errk_at PySem.F.excBase_ValueError PySem.F.store_ValueError KX G (c.fact 68) (c.fact 69) (c.fact 70) (c.fact 71) (c.fo 17) (fun _ F => ini_okT F sc_InvalidPair___init__ rfl rfl rfl (.inl rfl) (.inl rfl) (by decide) (by decide) (by decide) (by decide) fun _ => rfl) (ps := ["self", "given"]) (fun _ _ _ _ _ _ us hl => match us, hl with | [_, _], _ => rfl) (fun _ _ _ _ _ _ _ _ u ws hl => match ws, hl with | [_], _ => rfl)
  have ek_InvalidRing_given : ErrK T "InvalidRing" (gA "InvalidRing" T.K) "given" := errk_at PySem.F.excBase_ValueError PySem.F.store_ValueError KX G (c.fact 72) (c.fact 73) (c.fact 74) (c.fact 75) (c.fo 18) (fun _ F => ini_okT F sc_InvalidRing___init__ rfl rfl rfl (.inl rfl) (.inl rfl) (by decide) (by decide) (by decide) (by decide) fun _ => rfl) (ps := ["self", "given"]) (fun _ _ _ _ _ _ us hl => match us, hl with | [_, _], _ => rfl) (fun _ _ _ _ _ _ _ _ u ws hl => match ws, hl with | [_], _ => rfl)
  have ek_InvalidRow_index : ErrK T "InvalidRow" (gA "InvalidRow" T.K) "index" := errk_at PySem.F.excBase_ValueError PySem.F.store_ValueError KX G (c.fact 76) (c.fact 77) (c.fact 78) (c.fact 79) (c.fo 19) (fun _ F => ini_okT F sc_InvalidRow___init__ rfl rfl rfl (.inl rfl) (.inl rfl) (by decide) (by decide) (by decide) (by decide) fun _ => rfl) (ps := ["self", "index"]) (fun _ _ _ _ _ _ us hl => match us, hl with | [_, _], _ => rfl) (fun _ _ _ _ _ _ _ _ u ws hl => match ws, hl with | [_], _ => rfl)
  have ek_InvalidRules_index : ErrK T "InvalidRules" (gA "InvalidRules" T.K) "index" := errk_at PySem.F.excBase_ValueError PySem.F.store_ValueError KX G (c.fact 80) (c.fact 81) (c.fact 82) (c.fact 83) (c.fo 20) (fun _ F => ini_okT F sc_InvalidRules___init__ rfl rfl rfl (.inl rfl) (.inl rfl) (by decide) (by decide) (by decide) (by decide) fun _ => rfl) (ps := ["self", "index"]) (fun _ _ _ _ _ _ us hl => match us, hl with | [_, _], _ => rfl) (fun _ _ _ _ _ _ _ _ u ws hl => match ws, hl with | [_], _ => rfl)
  have ek_InvalidStand_given : ErrK T "InvalidStand" (gA "InvalidStand" T.K) "given" := errk_at PySem.F.excBase_ValueError PySem.F.store_ValueError KX G (c.fact 84) (c.fact 85) (c.fact 86) (c.fact 87) (c.fo 21) (fun _ F => ini_okT F sc_InvalidStand___init__ rfl rfl rfl (.inl rfl) (.inl rfl) (by decide) (by decide) (by decide) (by decide) fun _ => rfl) (ps := ["self", "given"]) (fun _ _ _ _ _ _ us hl => match us, hl with | [_, _], _ => rfl) (fun _ _ _ _ _ _ _ _ u ws hl => match ws, hl with | [_], _ => rfl)
  have ek_InvalidText_given : ErrK T "InvalidText" (gA "InvalidText" T.K) "given" := errk_at PySem.F.excBase_ValueError PySem.F.store_ValueError KX G (c.fact 88) (c.fact 89) (c.fact 90) (c.fact 91) (c.fo 22) (fun _ F => ini_okT F sc_InvalidText___init__ rfl rfl rfl (.inl rfl) (.inl rfl) (by decide) (by decide) (by decide) (by decide) fun _ => rfl) (ps := ["self", "given"]) (fun _ _ _ _ _ _ us hl => match us, hl with | [_, _], _ => rfl) (fun _ _ _ _ _ _ _ _ u ws hl => match ws, hl with | [_], _ => rfl)
  have ek_InvalidTies_index : ErrK T "InvalidTies" (gA "InvalidTies" T.K) "index" := errk_at PySem.F.excBase_ValueError PySem.F.store_ValueError KX G (c.fact 92) (c.fact 93) (c.fact 94) (c.fact 95) (c.fo 23) (fun _ F => ini_okT F sc_InvalidTies___init__ rfl rfl rfl (.inl rfl) (.inl rfl) (by decide) (by decide) (by decide) (by decide) fun _ => rfl) (ps := ["self", "index"]) (fun _ _ _ _ _ _ us hl => match us, hl with | [_, _], _ => rfl) (fun _ _ _ _ _ _ _ _ u ws hl => match ws, hl with | [_], _ => rfl)
  have ek_InvalidWish_given : ErrK T "InvalidWish" (gA "InvalidWish" T.K) "given" := errk_at PySem.F.excBase_ValueError PySem.F.store_ValueError KX G (c.fact 96) (c.fact 97) (c.fact 98) (c.fact 99) (c.fo 24) (fun _ F => ini_okT F sc_InvalidWish___init__ rfl rfl rfl (.inl rfl) (.inl rfl) (by decide) (by decide) (by decide) (by decide) fun _ => rfl) (ps := ["self", "given"]) (fun _ _ _ _ _ _ us hl => match us, hl with | [_, _], _ => rfl) (fun _ _ _ _ _ _ _ _ u ws hl => match ws, hl with | [_], _ => rfl)
  have ek_NotAWay_given : ErrK T "NotAWay" (gA "NotAWay" T.K) "given" := errk_at PySem.F.excBase_ValueError PySem.F.store_ValueError KX G (c.fact 100) (c.fact 101) (c.fact 102) (c.fact 103) (c.fo 25) (fun _ F => ini_okT F sc_NotAWay___init__ rfl rfl rfl (.inl rfl) (.inl rfl) (by decide) (by decide) (by decide) (by decide) fun _ => rfl) (ps := ["self", "given"]) (fun _ _ _ _ _ _ us hl => match us, hl with | [_, _], _ => rfl) (fun _ _ _ _ _ _ _ _ u ws hl => match ws, hl with | [_], _ => rfl)
  have ek_NotAWeb_given : ErrK T "NotAWeb" (gA "NotAWeb" T.K) "given" := errk_at PySem.F.excBase_ValueError PySem.F.store_ValueError KX G (c.fact 104) (c.fact 105) (c.fact 106) (c.fact 107) (c.fo 26) (fun _ F => ini_okT F sc_NotAWeb___init__ rfl rfl rfl (.inl rfl) (.inl rfl) (by decide) (by decide) (by decide) (by decide) fun _ => rfl) (ps := ["self", "given"]) (fun _ _ _ _ _ _ us hl => match us, hl with | [_, _], _ => rfl) (fun _ _ _ _ _ _ _ _ u ws hl => match ws, hl with | [_], _ => rfl)
  have ek_NotGiving_given : ErrK T "NotGiving" (gA "NotGiving" T.K) "given" := errk_at PySem.F.excBase_ArithmeticError PySem.F.store_ArithmeticError KX G (c.fact 108) (c.fact 109) (c.fact 110) (c.fact 111) (c.fo 27) (fun _ F => ini_okT F sc_NotGiving___init__ rfl rfl rfl (.inl rfl) (.inl rfl) (by decide) (by decide) (by decide) (by decide) fun _ => rfl) (ps := ["self", "given"]) (fun _ _ _ _ _ _ us hl => match us, hl with | [_, _], _ => rfl) (fun _ _ _ _ _ _ _ _ u ws hl => match ws, hl with | [_], _ => rfl)
  have ek_NotTaking_given : ErrK T "NotTaking" (gA "NotTaking" T.K) "given" := errk_at PySem.F.excBase_ArithmeticError PySem.F.store_ArithmeticError KX G (c.fact 112) (c.fact 113) (c.fact 114) (c.fact 115) (c.fo 28) (fun _ F => ini_okT F sc_NotTaking___init__ rfl rfl rfl (.inl rfl) (.inl rfl) (by decide) (by decide) (by decide) (by decide) fun _ => rfl) (ps := ["self", "given"]) (fun _ _ _ _ _ _ us hl => match us, hl with | [_, _], _ => rfl) (fun _ _ _ _ _ _ _ _ u ws hl => match ws, hl with | [_], _ => rfl)
  have ek_UnknownPlace_given : ErrK T "UnknownPlace" (gA "UnknownPlace" T.K) "given" := errk_at PySem.F.excBase_LookupError PySem.F.store_LookupError KX G (c.fact 116) (c.fact 117) (c.fact 118) (c.fact 119) (c.fo 29) (fun _ F => ini_okT F sc_UnknownPlace___init__ rfl rfl rfl (.inl rfl) (.inl rfl) (by decide) (by decide) (by decide) (by decide) fun _ => rfl) (ps := ["self", "given"]) (fun _ _ _ _ _ _ us hl => match us, hl with | [_, _], _ => rfl) (fun _ _ _ _ _ _ _ _ u ws hl => match ws, hl with | [_], _ => rfl)
  have rw_bas : (fBasL errU) T.K = true := (c.fact 120)
  have rw_sorts : (fSorts errN) T.K = true := (c.fact 121)
  have gm_Apart : T.mg "Apart" = some (.ref (gA "Apart" T.K)) := glo_mg KX G (c.fact 32)
  have gm_Broken : T.mg "Broken" = some (.ref (gA "Broken" T.K)) := glo_mg KX G (c.fact 44)
  have gm_InvalidArrows : T.mg "InvalidArrows" = some (.ref (gA "InvalidArrows" T.K)) := glo_mg KX G (c.fact 48)
  have gm_InvalidCommand : T.mg "InvalidCommand" = some (.ref (gA "InvalidCommand" T.K)) := glo_mg KX G (c.fact 52)
  have gm_InvalidHints : T.mg "InvalidHints" = some (.ref (gA "InvalidHints" T.K)) := glo_mg KX G (c.fact 56)
  have gm_InvalidNumber : T.mg "InvalidNumber" = some (.ref (gA "InvalidNumber" T.K)) := glo_mg KX G (c.fact 60)
  have gm_InvalidOrder : T.mg "InvalidOrder" = some (.ref (gA "InvalidOrder" T.K)) := glo_mg KX G (c.fact 64)
  have gm_InvalidPair : T.mg "InvalidPair" = some (.ref (gA "InvalidPair" T.K)) := glo_mg KX G (c.fact 68)
  have gm_InvalidRing : T.mg "InvalidRing" = some (.ref (gA "InvalidRing" T.K)) := glo_mg KX G (c.fact 72)
  have gm_InvalidRow : T.mg "InvalidRow" = some (.ref (gA "InvalidRow" T.K)) := glo_mg KX G (c.fact 76)
  have gm_InvalidRules : T.mg "InvalidRules" = some (.ref (gA "InvalidRules" T.K)) := glo_mg KX G (c.fact 80)
  have gm_InvalidStand : T.mg "InvalidStand" = some (.ref (gA "InvalidStand" T.K)) := glo_mg KX G (c.fact 84)
  have gm_InvalidText : T.mg "InvalidText" = some (.ref (gA "InvalidText" T.K)) := glo_mg KX G (c.fact 88)
  have gm_InvalidTies : T.mg "InvalidTies" = some (.ref (gA "InvalidTies" T.K)) := glo_mg KX G (c.fact 92)
  have gm_InvalidWish : T.mg "InvalidWish" = some (.ref (gA "InvalidWish" T.K)) := glo_mg KX G (c.fact 96)
  have gm_NotAWay : T.mg "NotAWay" = some (.ref (gA "NotAWay" T.K)) := glo_mg KX G (c.fact 100)
  have gm_NotAWeb : T.mg "NotAWeb" = some (.ref (gA "NotAWeb" T.K)) := glo_mg KX G (c.fact 104)
  have gm_NotGiving : T.mg "NotGiving" = some (.ref (gA "NotGiving" T.K)) := glo_mg KX G (c.fact 108)
  have gm_NotPossible : T.mg "NotPossible" = some (.ref (gA "NotPossible" T.K)) := glo_mg KX G (c.fact 34)
  have gm_NotTaking : T.mg "NotTaking" = some (.ref (gA "NotTaking" T.K)) := glo_mg KX G (c.fact 112)
  have gm_NothingToUndo : T.mg "NothingToUndo" = some (.ref (gA "NothingToUndo" T.K)) := glo_mg KX G (c.fact 36)
  have gm_Ringed : T.mg "Ringed" = some (.ref (gA "Ringed" T.K)) := glo_mg KX G (c.fact 38)
  have gm_UnknownPlace : T.mg "UnknownPlace" = some (.ref (gA "UnknownPlace" T.K)) := glo_mg KX G (c.fact 116)
  have gm_WrongName : T.mg "WrongName" = some (.ref (gA "WrongName" T.K)) := glo_mg KX G (c.fact 40)
  have gm_WrongValue : T.mg "WrongValue" = some (.ref (gA "WrongValue" T.K)) := glo_mg KX G (c.fact 42)
  have k_dip := Pdl.j_dip B d_Ldip
  have k_Jpick := Pdl.jj_pick B d_Lpick k_dip
  have k_Lodd := Pdl.jj_odd B d_Lodd k_Jpick
  have k_jar' := Pdl.k_jar B d_Ljar
  have hs : ∀ {i j : Nat} {x y : Str}, errN[i]? = some x → errN[j]? = some y → PySem.W.kitOne T.K (.ref (gA x T.K)) (.ref (gA y T.K)) = some (decide (i = j)) := fun h1 h2 => sorts_of rw_sorts h1 h2
  have hb : ∀ {x : Str} {k : Nat}, (x, k) ∈ errU → BasK T.K (gA "WrongValue" T.K) (gA "WrongName" T.K) (gA "NotPossible" T.K) (gA x T.K) (k == 0) (k == 1) (k == 2) := fun h => basL_of rw_bas h
  have hk : ∀ x ∈ errN, ExK T.K (gA x T.K) := fun x hx => by
    simp only [errN, List.mem_cons, List.not_mem_nil, or_false] at hx
    rcases hx with rfl | rfl | rfl | rfl | rfl | rfl | rfl | rfl | rfl | rfl | rfl | rfl | rfl | rfl | rfl | rfl | rfl | rfl | rfl | rfl | rfl | rfl
    · exact (hb (x := "InvalidText") (k := 0) (by decide)).k
    · exact (hb (x := "InvalidRing") (k := 0) (by decide)).k
    · exact (hb (x := "InvalidOrder") (k := 0) (by decide)).k
    · exact (hb (x := "InvalidStand") (k := 0) (by decide)).k
    · exact (hb (x := "InvalidPair") (k := 0) (by decide)).k
    · exact (hb (x := "InvalidNumber") (k := 0) (by decide)).k
    · exact (hb (x := "InvalidWish") (k := 0) (by decide)).k
    · exact (hb (x := "InvalidCommand") (k := 0) (by decide)).k
    · exact (hb (x := "NotAWeb") (k := 0) (by decide)).k
    · exact (hb (x := "NotAWay") (k := 0) (by decide)).k
    · exact (hb (x := "InvalidTies") (k := 0) (by decide)).k
    · exact (hb (x := "InvalidArrows") (k := 0) (by decide)).k
    · exact (hb (x := "InvalidRow") (k := 0) (by decide)).k
    · exact (hb (x := "InvalidRules") (k := 0) (by decide)).k
    · exact (hb (x := "InvalidHints") (k := 0) (by decide)).k
    · exact (hb (x := "UnknownPlace") (k := 1) (by decide)).k
    · exact (hb (x := "NotGiving") (k := 2) (by decide)).k
    · exact (hb (x := "NotTaking") (k := 2) (by decide)).k
    · exact (hb (x := "Broken") (k := 2) (by decide)).k
    · exact (hb (x := "Apart") (k := 2) (by decide)).k
    · exact (hb (x := "Ringed") (k := 2) (by decide)).k
    · exact (hb (x := "NothingToUndo") (k := 2) (by decide)).k
  have hf : ∀ {x f : Str}, (x, f) ∈ errA → PySem.W.findIn T.K (.ref (gA x T.K)) f = some none := fun {x f} h => by
    simp only [errA, List.mem_cons, Prod.mk.injEq, List.not_mem_nil, or_false] at h
    rcases h with ⟨rfl, rfl⟩ | ⟨rfl, rfl⟩ | ⟨rfl, rfl⟩ | ⟨rfl, rfl⟩ | ⟨rfl, rfl⟩ | ⟨rfl, rfl⟩ | ⟨rfl, rfl⟩ | ⟨rfl, rfl⟩ | ⟨rfl, rfl⟩ | ⟨rfl, rfl⟩ | ⟨rfl, rfl⟩ | ⟨rfl, rfl⟩ | ⟨rfl, rfl⟩ | ⟨rfl, rfl⟩ | ⟨rfl, rfl⟩ | ⟨rfl, rfl⟩ | ⟨rfl, rfl⟩ | ⟨rfl, rfl⟩ | ⟨rfl, rfl⟩
    · exact ek_InvalidText_given.t.no
    · exact ek_InvalidRing_given.t.no
    · exact ek_InvalidOrder_given.t.no
    · exact ek_InvalidStand_given.t.no
    · exact ek_InvalidPair_given.t.no
    · exact ek_InvalidNumber_given.t.no
    · exact ek_InvalidWish_given.t.no
    · exact ek_InvalidCommand_given.t.no
    · exact ek_NotAWeb_given.t.no
    · exact ek_NotAWay_given.t.no
    · exact ek_InvalidTies_index.t.no
    · exact ek_InvalidArrows_index.t.no
    · exact ek_InvalidRow_index.t.no
    · exact ek_InvalidRules_index.t.no
    · exact ek_InvalidHints_index.t.no
    · exact ek_UnknownPlace_given.t.no
    · exact ek_NotGiving_given.t.no
    · exact ek_NotTaking_given.t.no
    · exact ek_Broken_index.t.no
  have k_Lsorts := Pdl.c_Lsorts B d_Lsorts gm_InvalidText gm_InvalidRing gm_InvalidOrder gm_InvalidStand gm_InvalidPair gm_InvalidNumber gm_InvalidWish gm_InvalidCommand gm_NotAWeb gm_NotAWay gm_InvalidTies gm_InvalidArrows gm_InvalidRow gm_InvalidRules gm_InvalidHints gm_UnknownPlace gm_NotGiving gm_NotTaking gm_Broken gm_Apart gm_Ringed gm_NothingToUndo hk hs
  have k_LbasesN := Pdl.c_LbasesN B d_Lbases gm_WrongValue gm_WrongName gm_NotPossible z_ValueError z_LookupError z_ArithmeticError
  have k_Lby_place := Pdl.c_Lby_place B d_Lby_place ek_InvalidText_given ek_InvalidRing_given ek_InvalidOrder_given ek_InvalidStand_given ek_InvalidPair_given ek_InvalidNumber_given ek_InvalidWish_given ek_InvalidCommand_given ek_NotAWeb_given ek_NotAWay_given ek_InvalidTies_index ek_InvalidArrows_index ek_InvalidRow_index ek_InvalidRules_index ek_InvalidHints_index ek_UnknownPlace_given ek_NotGiving_given ek_NotTaking_given ek_Broken_index
  have k_Lby_word := Pdl.c_Lby_word B d_Lby_word ek_InvalidText_given ek_InvalidRing_given ek_InvalidOrder_given ek_InvalidStand_given ek_InvalidPair_given ek_InvalidNumber_given ek_InvalidWish_given ek_InvalidCommand_given ek_NotAWeb_given ek_NotAWay_given ek_InvalidTies_index ek_InvalidArrows_index ek_InvalidRow_index ek_InvalidRules_index ek_InvalidHints_index ek_UnknownPlace_given ek_NotGiving_given ek_NotTaking_given ek_Broken_index
  have k_Lkept := Pdl.c_Lkept B d_Lkept
  have k_right := jj_right1 B d_Lright z_repr k_Lodd k_Lsorts k_LbasesN k_Lby_place k_Lby_word k_Lkept e0_Apart e0_Ringed e0_NothingToUndo hb hf
  exact Pdl.f_law1 B Fl g_MOST_TIES g_MOST_PLACES k_jar' k_right k_LbasesN e0_WrongValue e0_WrongName e0_NotPossible hb
end Pdl
open PySem PySem.W PySem.Calls PyProof.Rows
set_option maxHeartbeats 0 in
theorem PySem.Challenge.cw_pushdowns_k01_limits_and_errors_holds : PySem.Challenge.rw_pushdowns_k01_limits_and_errors.Holds := by
  w_on; o_law
  refine HandSHeadRun.head_any (r := Pdl.Rw) (q := view Pdl.Rw.prog [39]) (H := Pdl.hk) (ob := Pdl.ob) (M := 20000) (loose := Pdl.loose) (d := HandSHeadRun.topDef Pdl.Rw.prog 39) (kwd := []) Pdl.ob_eq
    (by kernel_rfl) (fun s => by kernel_rfl) Pdl.run (by kernel_rfl) (by kernel_rfl) (by kernel_rfl) (by rfl) (by first | assumption | decide +kernel) (by decide +kernel) ⟨rfl, rfl, rfl, rfl, rfl, by decide +kernel⟩ ?hw ?hc
  case hw => w_witness2
  case hc =>
    have hname : (HandSHeadRun.topDef Pdl.Rw.prog 39).name = ("law" : PySem.Str) := by kernel_rfl
    refine Pdl.walk_endG (l := PySem.Challenge.rw_pushdowns_k01_limits_and_errors) (k := 6) rfl (by kernel_rfl) ⟨rfl, by decide, by decide⟩ hname fun w mg fa h K KX G hmg c => Pdl.all_mk KX G hmg c
