import PyProof.Rows.All
import Wide.All
import OpenK.AllK
import Wide.FinOn
import HandS.ForMost
import HandS.ForExc
import HandS.CallSlots
import HandS.ClsMeth
import HandS.Lambda
import KE.KNestM
import HandS.Wide
import HandS.TupAny
import HandS.Deep
import HandS.IsInst
import HandS.More
import HandS.StrMore
import HandS.Flow
import HandS.Iter
import HandS.RevRange
import HandS.Defaults
import HandS.OwnEq
import HandS.Text
import HandS.WordsExc
import KE.KOpsOwn
import KE.KCallOwn
import HandS.SlotsOwn
import HandS.RaiseMore
import HandS.Small
import HandS.Style
import HandS.TryOnly
import HandS.ExcInit
import HandS.ExcField
import HandS.FStr
import HandS.StrSplit
import KE.SortKeyHeap
import KE.KSortKey
import HandS.EndTab
import HandS.HeadWalk
import KE.KRevSl
import HandS.HotCalls
import KE.GoesEnum
import HandS.SetFor
import HandS.Dict
import HandS.Conv
import HandS.NoneIn
import HandS.SetBool
import HandS.Star
import HandS.TupLe
import HandS.MakeKwOnly
import HandS.ReplaceLit
import HandS.ReplaceDef
import PyProof.EqAt
import HandS.OwnIter
import HandS.IterVal
import PyProof.NeKinds
import HandS.SuiteRaise
import HandS.ExcInitHot
import HandS.RaiseFrom
import HandS.DictComp
import HandS.ReplaceList
import HandS.ExcIs
import KE.KExcIs
import PySem.Challenge.RW_neededlaws_k01_errors_by_class
set_option Elab.async false
set_option linter.all false
set_option maxRecDepth 100000
namespace DL
open PySem PySem.Spec L2
open PyProof.Rows hiding St
/-- plain data; a text is its codes; an object carries its class's name, its attributes' names and values -/
inductive D where
  | non
  | bl (b : Bool)
  | int (i : Int)
  | str (x : List Nat)
  | tup (ds : List D)
  | lst (ds : List D)
  | flst (ds : List D)
  | obj (C : String) (ns : List String) (ds : List D)
  | dic (ks : List D) (ds : List D)
  | glo (x : String)
  | ty (n : String)
  | exn (C : String) (ns : List String) (ds : List D) (x d : Addr)
  | cell (n : Nat)
/-- what stands in a changeable place -/
inductive MO where
  | lst (ds : List D)
  | obj (C : String) (ns : List String) (ds : List D)
  | dic (ks : List D) (ds : List D)
  /-- place i is the table of the code of C.m -/
  | tab (i : Nat) (C m : String)
abbrev MS := List MO
/-- how a piece of the program ends -/
inductive Res (A : Type) where
  | ok (a : A) (M : MS)
  | exc (C : String) (ns : List String) (ds : List D) (M : MS)
  | stuck
def Res.bind {A B : Type} (x : Res A) (k : A → MS → Res B) : Res B :=
  match x with
  | .ok a M => k a M
  | .exc C ns ds M => .exc C ns ds M
  | .stuck => .stuck
@[simp] theorem Res.bind_ok {A B : Type} (a : A) (M : MS) (k : A → MS → Res B) : (Res.ok a M).bind k = k a M := rfl
@[simp] theorem Res.bind_exc {A B : Type} (C : String) (ns : List String) (ds : List D) (M : MS) (k : A → MS → Res B) : (Res.exc C ns ds M : Res A).bind k = .exc C ns ds M := rfl
@[simp] theorem Res.bind_stuck {A B : Type} (k : A → MS → Res B) : (Res.stuck : Res A).bind k = .stuck := rfl
/-- the places that are looked through: changeable ones by number, and hidden ones -/
structure Pl where
  ro : List Addr
  hid : List Addr
abbrev Pl.all (p : Pl) : List Addr := p.ro ++ p.hid
abbrev tx (x : List Nat) : Str := ⟨x.toArray⟩
def zipF (ns : List String) (vs : List V) : List (Str × V) := (ns.map Str.ofString).zip vs
/-- a key of a dict, as data -/
def keyD : D → Option Key
  | .int i => some (.inl i)
  | .str x => some (.inr (tx x))
  | _ => none
def keysD : List D → Option (List Key)
  | [] => some []
  | d :: r => match keyD d, keysD r with
    | some k, some l => some (k :: l)
    | _, _ => none
/-- how the hash of a text is found -/
class HashW where
  hs : Str → Int
instance (priority := low) : HashW := ⟨fun _ => 0⟩
variable [HashW]
def keyHW : Key → Int
  | .inl k => hashInt k
  | .inr x => HashW.hs x
def tupHW (ks : List Key) : Int := reduceHash (Builtin.Tuple.tupleHashOf (ks.map keyHW))
/-- what stands in a dict whose keys are tuples: the keys, where they stand, the values -/
inductive TRel : List (List Key) → List V → List (List Key × Addr × Value) → Prop where
  | nil : TRel [] [] []
  | cons {k : List Key} {b : Addr} {v : V} {u : Value} {l : List (List Key)} {vs : List V} {xs : List (List Key × Addr × Value)} : RelV v u → TRel l vs xs → TRel (k :: l) (.ref b :: v :: vs) ((k, b, u) :: xs)
def entHW (x : List Key × Addr × Value) : DictEntry := ⟨tupHW x.1, .ref x.2.1, x.2.2⟩
def TDict (a : Addr) (l : List (List Key)) (vs : List V) (h : Heap) : Prop :=
  (a == sysModules) = false ∧ ∃ xs, TRel l vs xs ∧ ∃ o es ep, h.get? a = some o ∧ o.ExactDict ∧ o.data = .dict es ep ∧ es.toList = xs.map entHW ∧ (xs.map (·.1)).Nodup
/-- the keys of a dict: ints and texts, or tuples of these (told behind a .non) -/
inductive KLs where
  | k (l : List Key)
  | t (l : List (List Key))
def KLs.fit : KLs → List V → Prop
  | .k l, vs => l.length = vs.length
  | .t _, _ => True
def KLs.ho (a : Addr) : KLs → List V → HO
  | .k l, vs => .dK (l.zip vs)
  | .t l, vs => .ext (TDict a l vs)
def keysT : List D → Option (List (List Key))
  | [] => some []
  | .tup l :: r => match keysD l, keysT r with
    | some k, some ks => some (k :: ks)
    | _, _ => none
  | _ => none
def keysG : List D → Option KLs
  | .non :: r => (keysT r).map .t
  | ks => (keysD ks).map .k
def KL (K : PySem.W.Frag) (a : Addr) (xs : List V) : Prop :=
  ∃ (o : Obj) (its : Array Value) (n : Nat), K.lookup a = some o ∧ o.cls = .type "list" ∧ o.dict = none ∧ o.data = .seq its n ∧ its.size ≤ sizeLine ∧ Vals xs its.toList
def KT (K : PySem.W.Frag) (a : Addr) (xs : List V) : Prop :=
  ∃ (o : Obj) (its : Array Value) (n : Nat), K.lookup a = some o ∧ o.cls = .type "tuple" ∧ o.data = .seq its n ∧ its.size ≤ sizeLine ∧ Vals xs its.toList
/-- a list, a tuple that stays as it is: no changeable place, or one of the written part -/
def SL (K : PySem.W.Frag) (ro : Pl) (H : Hp) (a : Addr) (xs : List V) : Prop := (Rd H a (.lst xs) ∧ a ∉ ro.all) ∨ KL K a xs
def ST (K : PySem.W.Frag) (ro : Pl) (H : Hp) (a : Addr) (xs : List V) : Prop := (Rd H a (.tup xs) ∧ a ∉ ro.all) ∨ KT K a xs
theorem SL.sq {K : PySem.W.Frag} {ro : Pl} {H : Hp} {a : Addr} {xs : List V} (h : SL K ro H a xs) : SqL K H a xs := by
  rcases h with ⟨h, _⟩ | h
  · exact .inl h
  · exact .inr h
theorem ST.sq {K : PySem.W.Frag} {ro : Pl} {H : Hp} {a : Addr} {xs : List V} (h : ST K ro H a xs) : SqT K H a xs := by
  rcases h with ⟨h, _⟩ | h
  · exact .inl h
  · exact .inr h
mutual
/-- the value v stands for the datum, with the changeable places at ro -/
def Rep (K : PySem.W.Frag) (mg : Str → Option Value) (ro : Pl) (H : Hp) : D → V → Prop
  | .non, v => v = .non
  | .bl b, v => v = .bl b
  | .int i, v => v = .int i
  | .str x, v => v = .str (tx x)
  | .tup ds, v => ∃ a vs, v = .ref a ∧ ST K ro H a vs ∧ Reps K mg ro H ds vs
  | .lst ds, v => ∃ a vs, v = .ref a ∧ H a = some (.lst vs) ∧ a ∉ ro.all ∧ Reps K mg ro H ds vs
  | .flst ds, v => ∃ a vs, v = .ref a ∧ SL K ro H a vs ∧ Reps K mg ro H ds vs
  | .obj C ns ds, v => ∃ a c dx vs, v = .ref a ∧ mg (Str.ofString C) = some (.ref c) ∧ H a = some (.ins c dx (zipF ns vs)) ∧ a ∉ ro.all ∧ ns.length = vs.length ∧ Reps K mg ro H ds vs
  | .dic ks ds, v => ∃ a kl vs, v = .ref a ∧ keysG ks = some kl ∧ kl.fit vs ∧ H a = some (kl.ho a vs) ∧ a ∉ ro.all ∧ Reps K mg ro H ds vs
  | .glo x, v => ∃ a, v = .ref a ∧ mg (Str.ofString x) = some (.ref a)
  | .ty n, v => v = .ty n
  | .exn C ns ds x d, v => ∃ a vs, (v = .ref a ∧ a = x) ∧ (ns = [] ∨ H d = some (.xd (zipF ns vs)) ∧ d ∉ ro.all) ∧ ns.length = vs.length ∧ Reps K mg ro H ds vs
  | .cell n, v => ∃ a, v = .ref a ∧ ro.ro[n]? = some a
def Reps (K : PySem.W.Frag) (mg : Str → Option Value) (ro : Pl) (H : Hp) : List D → List V → Prop
  | [], vs => vs = []
  | d :: ds, vs => ∃ v r, vs = v :: r ∧ Rep K mg ro H d v ∧ Reps K mg ro H ds r
end
/-- what was tracked outside of the changeable places stands; changeable places are old ones or new -/
structure Pres (ro : Pl) (H : Hp) (ro' : Pl) (H' : Hp) : Prop where
  pre : ∃ t, ro'.ro = ro.ro ++ t
  hid : ro'.hid = ro.hid
  keep : ∀ a o, H a = some o → a ∉ ro.ro → H' a = some o
  new : ∀ a, a ∈ ro'.ro → a ∈ ro.ro ∨ H a = none
theorem Pres.refl (ro : Pl) (H : Hp) : Pres ro H ro H := ⟨⟨[], by simp⟩, rfl, fun _ _ h _ => h, fun _ h => .inl h⟩
theorem Pres.trans {r0 r1 r2 : Pl} {H0 H1 H2 : Hp} (p : Pres r0 H0 r1 H1) (q : Pres r1 H1 r2 H2) : Pres r0 H0 r2 H2 := by
  refine ⟨?_, q.hid.trans p.hid, fun a o h hn => ?_, fun a h => ?_⟩
  · obtain ⟨t, e⟩ := p.pre
    obtain ⟨u, e'⟩ := q.pre
    exact ⟨t ++ u, by rw [e', e, List.append_assoc]⟩
  · refine q.keep a o (p.keep a o h hn) fun hm => ?_
    rcases p.new a hm with z | z
    · exact hn z
    · rw [h] at z; cases z
  · rcases q.new a h with z | z
    · exact p.new a z
    · by_cases hm : a ∈ r0.ro
      · exact .inl hm
      · refine .inr ?_
        cases e : H0 a with
        | none => rfl
        | some o => rw [p.keep a o e hm] at z; cases z
theorem Pl.out_ro {p : Pl} {a : Addr} (h : a ∉ p.all) : a ∉ p.ro := fun z => h (List.mem_append_left _ z)
theorem Pl.out_hid {p : Pl} {a : Addr} (h : a ∉ p.all) : a ∉ p.hid := fun z => h (List.mem_append_right _ z)
theorem Pres.out {ro ro' : Pl} {H H' : Hp} (p : Pres ro H ro' H') {a : Addr} (hn : a ∉ ro.all) (hl : H a ≠ none) : a ∉ ro'.all := fun hm => by
  rcases List.mem_append.mp hm with hm | hm
  · rcases p.new a hm with z | z
    · exact Pl.out_ro hn z
    · exact hl z
  · rw [p.hid] at hm; exact Pl.out_hid hn hm
theorem Pres.get {ro ro' : Pl} {H H' : Hp} (p : Pres ro H ro' H') {n : Nat} {a : Addr} (h : ro.ro[n]? = some a) : ro'.ro[n]? = some a := by
  obtain ⟨t, e⟩ := p.pre
  rw [e, List.getElem?_append_left (List.getElem?_eq_some_iff.mp h).1]
  exact h
/-- the same where more may be hidden -/
structure PresW (ro : Pl) (H : Hp) (ro' : Pl) (H' : Hp) : Prop where
  pre : ∃ t, ro'.ro = ro.ro ++ t
  keep : ∀ a o, H a = some o → a ∉ ro.all → H' a = some o
  new : ∀ a, a ∈ ro'.all → a ∈ ro.all ∨ H a = none
theorem Pres.w {ro ro' : Pl} {H H' : Hp} (p : Pres ro H ro' H') : PresW ro H ro' H' := ⟨p.pre, fun a o h n => p.keep a o h (Pl.out_ro n), fun a h => by
  rcases List.mem_append.mp h with h | h
  · rcases p.new a h with z | z
    · exact .inl (List.mem_append_left _ z)
    · exact .inr z
  · rw [p.hid] at h; exact .inl (List.mem_append_right _ h)⟩
theorem PresW.out {ro ro' : Pl} {H H' : Hp} (p : PresW ro H ro' H') {a : Addr} (hn : a ∉ ro.all) (hl : H a ≠ none) : a ∉ ro'.all := fun hm => by
  rcases p.new a hm with z | z
  · exact hn z
  · exact hl z
theorem PresW.get {ro ro' : Pl} {H H' : Hp} (p : PresW ro H ro' H') {n : Nat} {a : Addr} (h : ro.ro[n]? = some a) : ro'.ro[n]? = some a := by
  obtain ⟨t, e⟩ := p.pre
  rw [e, List.getElem?_append_left (List.getElem?_eq_some_iff.mp h).1]
  exact h
section
variable {K : PySem.W.Frag} {mg : Str → Option Value} {ro ro' : Pl} {H H' : Hp}
theorem PresW.rd (p : PresW ro H ro' H') {a : Addr} {u : HO} (h : Rd H a u) (hn : a ∉ ro.all) : Rd H' a u ∧ a ∉ ro'.all := by
  rcases h with h | ⟨o, h⟩
  · exact ⟨.inl (p.keep a _ h hn), p.out hn (by rw [h]; simp)⟩
  · exact ⟨.inr ⟨o, p.keep a _ h hn⟩, p.out hn (by rw [h]; simp)⟩
theorem PresW.sl (p : PresW ro H ro' H') {a : Addr} {vs : List V} (h : SL K ro H a vs) : SL K ro' H' a vs := by
  rcases h with ⟨h, n⟩ | h
  · exact .inl (p.rd h n)
  · exact .inr h
theorem PresW.st (p : PresW ro H ro' H') {a : Addr} {vs : List V} (h : ST K ro H a vs) : ST K ro' H' a vs := by
  rcases h with ⟨h, n⟩ | h
  · exact .inl (p.rd h n)
  · exact .inr h
mutual
theorem Rep.monoW (p : PresW ro H ro' H') : ∀ (d : D) (v : V), Rep K mg ro H d v → Rep K mg ro' H' d v
  | .non, v, h => h
  | .bl b, v, h => h
  | .int i, v, h => h
  | .str x, v, h => h
  | .tup ds, v, ⟨a, vs, e, q, r⟩ => ⟨a, vs, e, p.st q, Reps.monoW p ds vs r⟩
  | .lst ds, v, ⟨a, vs, e, q, n, r⟩ => ⟨a, vs, e, p.keep a _ q n, p.out n (by rw [q]; simp), Reps.monoW p ds vs r⟩
  | .flst ds, v, ⟨a, vs, e, q, r⟩ => ⟨a, vs, e, p.sl q, Reps.monoW p ds vs r⟩
  | .obj C ns ds, v, ⟨a, c, dx, vs, e, g, q, n, l, r⟩ => ⟨a, c, dx, vs, e, g, p.keep a _ q n, p.out n (by rw [q]; simp), l, Reps.monoW p ds vs r⟩
  | .dic ks ds, v, ⟨a, kl, vs, e, g, l, q, n, r⟩ => ⟨a, kl, vs, e, g, l, p.keep a _ q n, p.out n (by rw [q]; simp), Reps.monoW p ds vs r⟩
  | .glo x, v, h => h
  | .ty n, v, h => h
  | .exn C ns ds x d, v, ⟨a, vs, e, q, l, r⟩ => ⟨a, vs, e, q.imp id fun q => ⟨p.keep d _ q.1 q.2, p.out q.2 (by rw [q.1]; simp)⟩, l, Reps.monoW p ds vs r⟩
  | .cell n, v, ⟨a, e, g⟩ => ⟨a, e, p.get g⟩
theorem Reps.monoW (p : PresW ro H ro' H') : ∀ (ds : List D) (vs : List V), Reps K mg ro H ds vs → Reps K mg ro' H' ds vs
  | [], vs, h => h
  | d :: ds, vs, ⟨v, r, e, h, t⟩ => ⟨v, r, e, Rep.monoW p d v h, Reps.monoW p ds r t⟩
end
theorem Rep.mono (p : Pres ro H ro' H') (d : D) (v : V) (h : Rep K mg ro H d v) : Rep K mg ro' H' d v := Rep.monoW p.w d v h
theorem Reps.mono (p : Pres ro H ro' H') (ds : List D) (vs : List V) (h : Reps K mg ro H ds vs) : Reps K mg ro' H' ds vs := Reps.monoW p.w ds vs h
end
/-- the def at g has the table P -/
def TabOf (K : PySem.W.Frag) (g P : Addr) : Prop := ∃ (oc : Value) (od : Option Addr) (fd : FuncData) (sl : Array (Option Value)) (c : Addr), K.lookup g = some ⟨oc, od, .func fd, sl⟩ ∧ fd.code = .ref c ∧ PySem.W.codeHdIn K c P = true
/-- the table of the classmethod C.m, of the def m -/
def IsTab (K : PySem.W.Frag) (mg : Str → Option Value) (C m : String) (P : Addr) : Prop :=
  (C = "" ∧ ∃ g, mg (Str.ofString m) = some (.ref g) ∧ TabOf K g P) ∨
  (C ≠ "" ∧ ∃ c p g rest, mg (Str.ofString C) = some (.ref c) ∧ PySem.W.findCls K (.ref c) (.type "type") (Str.ofString m) = some (.get (.builtin "classmethod.__get__") (.ref p) .none (.ref c)) ∧ PySem.W.recIn K p "classmethod" = some (.ref g :: rest) ∧ TabOf K g P)
/-- the name of the code that the def C.m's lambda has -/
def lamQ (C m : String) : Str := (if C = "" then Str.ofString m else Str.ofString C ++ "." ++ Str.ofString m) ++ ".<locals>." ++ "<lambda>"
/-- what stands at a changeable place -/
def MRel (K : PySem.W.Frag) (mg : Str → Option Value) (ro : Pl) (H : Hp) : MO → HO → Prop
  | .lst ds, ho => ∃ vs, ho = .lst vs ∧ Reps K mg ro H ds vs
  | .obj C ns ds, ho => ∃ c dx vs, ho = .ins c dx (zipF ns vs) ∧ mg (Str.ofString C) = some (.ref c) ∧ ns.length = vs.length ∧ Reps K mg ro H ds vs
  | .dic ks ds, ho => ∃ kl vs, ho = .dK (kl.zip vs) ∧ keysD ks = some kl ∧ kl.length = vs.length ∧ Reps K mg ro H ds vs
  | .tab i C m, ho => ∃ ps P, ho = .tbl ps ∧ (TriplesOk ps.toList ∧ ∀ (pos : Pos) (cv : Value), codeAmong pos ps.toList = some cv → ∃ c, cv = .ref c ∧ H c = some (LamX.CodeO c (lamQ C m)) ∧ c ∉ ro.all) ∧ ro.ro[i]? = some P ∧ IsTab K mg C m P
/-- the changeable places -/
structure RelS (K : PySem.W.Frag) (mg : Str → Option Value) (ro : Pl) (M : MS) (H : Hp) : Prop where
  len : ro.ro.length = M.length
  nd : ro.ro.Nodup
  live : ∀ a, a ∈ ro.hid → ∃ o, H a = some o
  dis : ∀ a, a ∈ ro.ro → a ∉ ro.hid
  at_ : ∀ (i : Nat) mo a, M[i]? = some mo → ro.ro[i]? = some a → ∃ ho, H a = some ho ∧ MRel K mg ro H mo ho
/-- the slots -/
def RepSt (K : PySem.W.Frag) (mg : Str → Option Value) (ro : Pl) (H : Hp) (sd : List (Option D)) (st : St) : Prop :=
  sd.length = st.length ∧ ∀ (i : Nat) d, sd[i]? = some (some d) → ∃ v, st[i]? = some (some v) ∧ Rep K mg ro H d v
theorem RepSt.mono {K : PySem.W.Frag} {mg : Str → Option Value} {ro ro' : Pl} {H H' : Hp} {sd : List (Option D)} {st : St} (p : Pres ro H ro' H') (h : RepSt K mg ro H sd st) : RepSt K mg ro' H' sd st :=
  ⟨h.1, fun i d e => let ⟨v, e', r⟩ := h.2 i d e; ⟨v, e', Rep.mono p d v r⟩⟩
theorem RepSt.monoW {K : PySem.W.Frag} {mg : Str → Option Value} {ro ro' : Pl} {H H' : Hp} {sd : List (Option D)} {st : St} (p : PresW ro H ro' H') (h : RepSt K mg ro H sd st) : RepSt K mg ro' H' sd st :=
  ⟨h.1, fun i d e => let ⟨v, e', r⟩ := h.2 i d e; ⟨v, e', Rep.monoW p d v r⟩⟩
theorem RepSt.set {K : PySem.W.Frag} {mg : Str → Option Value} {ro : Pl} {H : Hp} {sd : List (Option D)} {st : St} (h : RepSt K mg ro H sd st) {i : Nat} {d : D} {v : V} (r : Rep K mg ro H d v) : RepSt K mg ro H (sd.set i (some d)) (st.set i (some v)) := by
  refine ⟨by simp [h.1], fun j e q => ?_⟩
  by_cases hj : i = j
  · subst hj
    by_cases hl : i < sd.length
    · rw [List.getElem?_set_self hl] at q
      cases q
      exact ⟨v, by rw [List.getElem?_set_self (by rw [← h.1]; exact hl)], r⟩
    · rw [List.getElem?_eq_none (by simpa using hl)] at q; cases q
  · rw [List.getElem?_set_ne hj] at q
    obtain ⟨w, e', r'⟩ := h.2 j e q
    exact ⟨w, by rw [List.getElem?_set_ne hj]; exact e', r'⟩
theorem RepSt.unset {K : PySem.W.Frag} {mg : Str → Option Value} {ro : Pl} {H : Hp} {sd : List (Option D)} {st : St} (h : RepSt K mg ro H sd st) {i : Nat} {o : Option V} : RepSt K mg ro H (sd.set i none) (st.set i o) := by
  refine ⟨by simp [h.1], fun j e q => ?_⟩
  by_cases hj : i = j
  · subst hj
    by_cases hl : i < sd.length
    · rw [List.getElem?_set_self hl] at q; cases q
    · rw [List.getElem?_eq_none (by simpa using hl)] at q; cases q
  · rw [List.getElem?_set_ne hj] at q
    obtain ⟨w, e', r'⟩ := h.2 j e q
    exact ⟨w, by rw [List.getElem?_set_ne hj]; exact e', r'⟩
/-- an exception as HandS tells it: its class and its own dict -/
def RepX (K : PySem.W.Frag) (mg : Str → Option Value) (ro : Pl) (H : Hp) (C : String) (ns : List String) (ds : List D) (cls : Value) (dd : Option Addr) : Prop :=
  ∃ c, cls = .ref c ∧ mg (Str.ofString C) = some (.ref c) ∧ ((dd = none ∧ ns = [] ∧ ds = []) ∨ ∃ d vs, (dd = some d ∧ ns ≠ []) ∧ H d = some (.xd (zipF ns vs)) ∧ d ∉ ro.all ∧ ns.length = vs.length ∧ Reps K mg ro H ds vs)
/-- what is to be shown where a piece has ended so; W: what is wished of an exception -/
def Post {A B : Type} (R : Pl → Hp → A → B → Prop) (K : PySem.W.Frag) (mg : Str → Option Value) (E : XK) (ro : Pl) (H : Hp) (Q : B → Hp → Prop) : Res A → Prop
  | .ok a M => ∀ ro' H' v, RelS K mg ro' M H' → Pres ro H ro' H' → R ro' H' a v → Q v H'
  | .exc C ns ds M => ∀ ro' H' cls dd, RelS K mg ro' M H' → Pres ro H ro' H' → RepX K mg ro' H' C ns ds cls dd → E cls dd H'
  | .stuck => False
section
variable {A A' B B' : Type} {R : Pl → Hp → A → B → Prop} {R' : Pl → Hp → A' → B' → Prop} {K : PySem.W.Frag} {mg : Str → Option Value} {E : XK} {ro ro1 : Pl} {H H1 : Hp} {Q : B → Hp → Prop}
theorem Post.moves {x : Res A} (h : Post R K mg E ro H Q x) (p : Pres ro H ro1 H1) : Post R K mg E ro1 H1 Q x := by
  cases x with
  | ok a M => exact fun ro' H' v rs q r => h ro' H' v rs (p.trans q) r
  | exc C ns ds M => exact fun ro' H' cls dd rs q r => h ro' H' cls dd rs (p.trans q) r
  | stuck => exact h
/-- one piece behind another -/
theorem Post.bind {x : Res A} {k : A → MS → Res A'} {Q' : B' → Hp → Prop} (h : Post R' K mg E ro H Q' (x.bind k)) :
    Post R K mg E ro H (fun v H1 => ∃ ro1 M1 a, RelS K mg ro1 M1 H1 ∧ Pres ro H ro1 H1 ∧ R ro1 H1 a v ∧ Post R' K mg E ro1 H1 Q' (k a M1)) x := by
  cases x with
  | ok a M => exact fun ro' H' v rs q r => ⟨ro', M, a, rs, q, r, Post.moves h q⟩
  | exc C ns ds M => exact h
  | stuck => exact h
theorem Post.imp {x : Res A} {Q' : B → Hp → Prop} (h : Post R K mg E ro H Q x) (f : ∀ v H', Q v H' → Q' v H') : Post R K mg E ro H Q' x := by
  cases x with
  | ok a M => exact fun ro' H' v rs q r => f _ _ (h ro' H' v rs q r)
  | exc C ns ds M => exact h
  | stuck => exact h
end
abbrev PostD (K : PySem.W.Frag) (mg : Str → Option Value) (E : XK) (ro : Pl) (H : Hp) (Q : VK) (x : Res D) : Prop := Post (fun ro' H' d v => Rep K mg ro' H' d v) K mg E ro H Q x
abbrev PostB (K : PySem.W.Frag) (mg : Str → Option Value) (E : XK) (ro : Pl) (H : Hp) (Q : Bool → Hp → Prop) (x : Res Bool) : Prop := Post (fun _ _ (b : Bool) c => c = b) K mg E ro H Q x
abbrev PostA (K : PySem.W.Frag) (mg : Str → Option Value) (E : XK) (ro : Pl) (H : Hp) (Q : List V → Hp → Prop) (x : Res (List D)) : Prop := Post (fun ro' H' ds vs => Reps K mg ro' H' ds vs) K mg E ro H Q x
abbrev SD := List (Option D)
abbrev ME := SD → MS → Res D
abbrev MB := SD → MS → Res Bool
abbrev MA := SD → MS → Res (List D)
def liftE (K : PySem.W.Frag) (mg : Str → Option Value) (W : WX) (m : ME) : TE := fun st H Q => ∃ ro sd M, RelS K mg ro M H ∧ RepSt K mg ro H sd st ∧ PostD K mg (fun c d H' => W c d st H') ro H Q (m sd M)
def liftB (K : PySem.W.Frag) (mg : Str → Option Value) (W : WX) (m : MB) : TT := fun st H Q => ∃ ro sd M, RelS K mg ro M H ∧ RepSt K mg ro H sd st ∧ PostB K mg (fun c d H' => W c d st H') ro H Q (m sd M)
def liftA (K : PySem.W.Frag) (mg : Str → Option Value) (W : WX) (m : MA) : TA := fun st H Q => ∃ ro sd M, RelS K mg ro M H ∧ RepSt K mg ro H sd st ∧ PostA K mg (fun c d H' => W c d st H') ro H Q (m sd M)
structure DE (X : Cx) (W : WX) (e : Expr) (m : ME) : Prop where
  pe : PE X e (liftE X.K X.mg W m)
structure DT (X : Cx) (W : WX) (e : Expr) (m : MB) : Prop where
  pt : PT X e (liftB X.K X.mg W m)
structure DW (X : Cx) (W : WX) (e : Expr) (m : MB) : Prop where
  pw : PW X e (liftB X.K X.mg W m)
structure DA (X : Cx) (W : WX) (es : List Expr) (m : MA) : Prop where
  pa : PA X es (liftA X.K X.mg W m)
/-- how a statement ends -/
inductive SRes where
  | nx (sd : SD) (M : MS)
  | ret (d : D) (M : MS)
  | brk (sd : SD) (M : MS)
  | ct (sd : SD) (M : MS)
  | exc (C : String) (ns : List String) (ds : List D) (sd : SD) (M : MS)
  | stuck
abbrev MST := SD → MS → SRes
def PostS (K : PySem.W.Frag) (mg : Str → Option Value) (W : WX) (ro : Pl) (H : Hp) (D0 : Ends) : SRes → Prop
  | .nx sd M => ∀ ro' H' st, RelS K mg ro' M H' → Pres ro H ro' H' → RepSt K mg ro' H' sd st → D0.nx st H'
  | .ret d M => ∀ ro' H' v, RelS K mg ro' M H' → Pres ro H ro' H' → Rep K mg ro' H' d v → D0.rt v H'
  | .brk sd M => ∀ ro' H' st, RelS K mg ro' M H' → Pres ro H ro' H' → RepSt K mg ro' H' sd st → D0.bk st H'
  | .ct sd M => ∀ ro' H' st, RelS K mg ro' M H' → Pres ro H ro' H' → RepSt K mg ro' H' sd st → D0.ct st H'
  | .exc C ns ds sd M => ∀ ro' H' st cls dd, RelS K mg ro' M H' → Pres ro H ro' H' → RepSt K mg ro' H' sd st → RepX K mg ro' H' C ns ds cls dd → W cls dd st H'
  | .stuck => False
def liftS (K : PySem.W.Frag) (mg : Str → Option Value) (W : WX) (m : MST) : TS := fun D0 st H => ∃ ro sd M, RelS K mg ro M H ∧ RepSt K mg ro H sd st ∧ PostS K mg W ro H D0 (m sd M)
structure DS (X : Cx) (W : WX) (s : Stmt) (m : MST) : Prop where
  ps : PS X s (liftS X.K X.mg W m)
structure DSs (X : Cx) (W : WX) (s : List Stmt) (m : MST) : Prop where
  ps : PSs X s (liftS X.K X.mg W m)
end DL
namespace DL
open PySem PySem.Spec L2
open PyProof.Rows hiding St
variable [HashW]
section
variable {K : PySem.W.Frag} {mg : Str → Option Value} {ro : Pl} {H : Hp} {M : MS}
theorem Reps.len : ∀ {ds : List D} {vs : List V}, Reps K mg ro H ds vs → ds.length = vs.length
  | [], vs, h => by cases (show vs = [] from h); rfl
  | d :: ds, vs, ⟨v, r, e, _, t⟩ => by subst e; simp [Reps.len t]
theorem Reps.append : ∀ {ds es : List D} {vs ws : List V}, Reps K mg ro H ds vs → Reps K mg ro H es ws → Reps K mg ro H (ds ++ es) (vs ++ ws)
  | [], es, vs, ws, h, h' => by cases (show vs = [] from h); exact h'
  | d :: ds, es, vs, ws, ⟨v, r, e, q, t⟩, h' => by subst e; exact ⟨v, r ++ ws, rfl, q, Reps.append t h'⟩
theorem Reps.get : ∀ {ds : List D} {vs : List V} {i : Nat} {d : D}, Reps K mg ro H ds vs → ds[i]? = some d → ∃ v, vs[i]? = some v ∧ Rep K mg ro H d v
  | [], vs, i, d, h, e => by simp at e
  | x :: ds, vs, 0, d, ⟨v, r, e, q, t⟩, e' => by subst e; simp at e'; subst e'; exact ⟨v, rfl, q⟩
  | x :: ds, vs, i + 1, d, ⟨v, r, e, q, t⟩, e' => by subst e; simp at e'; simpa using Reps.get t e'
theorem Reps.take : ∀ {ds : List D} {vs : List V} (n : Nat), Reps K mg ro H ds vs → Reps K mg ro H (ds.take n) (vs.take n)
  | ds, vs, 0, h => by simp [Reps]
  | [], vs, n + 1, h => by cases (show vs = [] from h); simp [Reps]
  | d :: ds, vs, n + 1, ⟨v, r, e, q, t⟩ => by subst e; exact ⟨v, r.take n, rfl, q, Reps.take n t⟩
theorem Reps.drop : ∀ {ds : List D} {vs : List V} (n : Nat), Reps K mg ro H ds vs → Reps K mg ro H (ds.drop n) (vs.drop n)
  | ds, vs, 0, h => h
  | [], vs, n + 1, h => by cases (show vs = [] from h); simp [Reps]
  | d :: ds, vs, n + 1, ⟨v, r, e, q, t⟩ => by subst e; exact Reps.drop n t
theorem Reps.set : ∀ {ds : List D} {vs : List V} {d : D} {v : V} (i : Nat), Reps K mg ro H ds vs → Rep K mg ro H d v → Reps K mg ro H (ds.set i d) (vs.set i v)
  | [], vs, d, v, i, h, _ => by cases (show vs = [] from h); simp [Reps]
  | x :: ds, vs, d, v, 0, ⟨w, r, e, q, t⟩, h => by subst e; exact ⟨v, r, rfl, h, t⟩
  | x :: ds, vs, d, v, i + 1, ⟨w, r, e, q, t⟩, h => by subst e; exact ⟨w, r.set i v, rfl, q, Reps.set i t h⟩
theorem Reps.one {d : D} {v : V} (h : Rep K mg ro H d v) : Reps K mg ro H [d] [v] := ⟨v, [], rfl, h, rfl⟩
theorem Reps.ints : ∀ {xs : List Int} {vs : List V}, Reps K mg ro H (xs.map D.int) vs → vs = xs.map V.int
  | [], vs, h => h
  | x :: xs, vs, ⟨v, r, e, q, t⟩ => by subst e; rw [Reps.ints t, show v = V.int x from q]; rfl
theorem Reps.flatten_replicate {ds : List D} {vs : List V} (h : Reps K mg ro H ds vs) : ∀ n, Reps K mg ro H (List.replicate n ds).flatten (List.replicate n vs).flatten
  | 0 => by simp [Reps]
  | n + 1 => by
    rw [List.replicate_succ, List.replicate_succ, List.flatten_cons, List.flatten_cons]
    exact h.append (Reps.flatten_replicate h n)
/-- what is read as a list; as a list or a tuple -/
def lstOf (M : MS) : D → Option (List D)
  | .lst ds => some ds
  | .cell n => match M[n]? with
    | some (.lst ds) => some ds
    | _ => none
  | _ => none
def seqOf (M : MS) : D → Option (List D)
  | .lst ds => some ds
  | .flst ds => some ds
  | .tup ds => some ds
  | .cell n => match M[n]? with
    | some (.lst ds) => some ds
    | _ => none
  | _ => none
@[simp] theorem lstOf_lst (ds : List D) : lstOf M (.lst ds) = some ds := rfl
@[simp] theorem seqOf_lst (ds : List D) : seqOf M (.lst ds) = some ds := rfl
@[simp] theorem seqOf_flst (ds : List D) : seqOf M (.flst ds) = some ds := rfl
@[simp] theorem seqOf_tup (ds : List D) : seqOf M (.tup ds) = some ds := rfl
theorem RelS.cellAt (R : RelS K mg ro M H) {n : Nat} {mo : MO} {x : V} (r : Rep K mg ro H (.cell n) x) (e : M[n]? = some mo) : ∃ a ho, x = .ref a ∧ ro.ro[n]? = some a ∧ H a = some ho ∧ MRel K mg ro H mo ho := by
  obtain ⟨a, rfl, g⟩ := r
  obtain ⟨ho, h, m⟩ := R.at_ n mo a e g
  exact ⟨a, ho, rfl, g, h, m⟩
theorem lst_of (R : RelS K mg ro M H) {d : D} {x : V} {ds : List D} (r : Rep K mg ro H d x) (e : lstOf M d = some ds) : ∃ a vs, x = .ref a ∧ H a = some (.lst vs) ∧ Reps K mg ro H ds vs := by
  cases d with
  | lst es =>
    cases (show some es = some ds from e)
    obtain ⟨a, vs, rfl, h, _, q⟩ := r
    exact ⟨a, vs, rfl, h, q⟩
  | cell n =>
    have e' : (match M[n]? with | some (.lst ds) => some ds | _ => none) = some ds := e
    split at e'
    · rename_i es hm
      cases e'
      obtain ⟨a, ho, rfl, _, h, vs, rfl, q⟩ := R.cellAt r hm
      exact ⟨a, vs, rfl, h, q⟩
    · cases e'
  | _ => cases e
theorem seq_of (R : RelS K mg ro M H) {d : D} {x : V} {ds : List D} (r : Rep K mg ro H d x) (e : seqOf M d = some ds) : ∃ a vs, x = .ref a ∧ (SqL K H a vs ∨ SqT K H a vs) ∧ Reps K mg ro H ds vs := by
  cases d with
  | lst es =>
    cases (show some es = some ds from e)
    obtain ⟨a, vs, rfl, h, _, q⟩ := r
    exact ⟨a, vs, rfl, .inl (SqL.of h), q⟩
  | flst es =>
    cases (show some es = some ds from e)
    obtain ⟨a, vs, rfl, h, q⟩ := r
    exact ⟨a, vs, rfl, .inl h.sq, q⟩
  | tup es =>
    cases (show some es = some ds from e)
    obtain ⟨a, vs, rfl, h, q⟩ := r
    exact ⟨a, vs, rfl, .inr h.sq, q⟩
  | cell n =>
    have e' : (match M[n]? with | some (.lst ds) => some ds | _ => none) = some ds := e
    split at e'
    · rename_i es hm
      cases e'
      obtain ⟨a, ho, rfl, _, h, vs, rfl, q⟩ := R.cellAt r hm
      exact ⟨a, vs, rfl, .inl (SqL.of h), q⟩
    · cases e'
  | _ => cases e
theorem RelS.liv (R : RelS K mg ro M H) {a : Addr} (h : a ∈ ro.ro) : H a ≠ none := by
  obtain ⟨i, hi⟩ := List.getElem?_of_mem h
  have hl : i < M.length := by rw [← R.len]; exact (List.getElem?_eq_some_iff.mp hi).1
  obtain ⟨ho, e, _⟩ := R.at_ i _ a (List.getElem?_eq_getElem hl) hi
  rw [e]; simp
theorem RelS.liveN (R : RelS K mg ro M H) (a : Addr) (h : a ∈ ro.hid) : H a ≠ none := by
  obtain ⟨xs, e⟩ := R.live a h
  rw [e]; simp
theorem RelS.fresh (R : RelS K mg ro M H) {p : Addr} (hp : H p = none) : p ∉ ro.all := fun h => by
  rcases List.mem_append.mp h with h | h
  · exact R.liv h hp
  · exact R.liveN p h hp
theorem MRel.monoW {ro ro' : Pl} {H H' : Hp} (p : PresW ro H ro' H') {mo : MO} {ho : HO} (h : MRel K mg ro H mo ho) : MRel K mg ro' H' mo ho := by
  cases mo with
  | lst ds => obtain ⟨vs, e, r⟩ := h; exact ⟨vs, e, Reps.monoW p ds vs r⟩
  | obj C ns ds => obtain ⟨c, dx, vs, e, g, l, r⟩ := h; exact ⟨c, dx, vs, e, g, l, Reps.monoW p ds vs r⟩
  | dic ks ds => obtain ⟨kl, vs, e, g, l, r⟩ := h; exact ⟨kl, vs, e, g, l, Reps.monoW p ds vs r⟩
  | tab i C m => obtain ⟨ps, P, e, t, g, k⟩ := h; exact ⟨ps, P, e, ⟨t.1, fun ps cv hc => let ⟨c, e1, e2, e3⟩ := t.2 ps cv hc; ⟨c, e1, p.keep c _ e2 e3, p.out e3 (by rw [e2]; simp)⟩⟩, p.get g, k⟩
theorem MRel.mono {ro ro' : Pl} {H H' : Hp} (p : Pres ro H ro' H') {mo : MO} {ho : HO} (h : MRel K mg ro H mo ho) : MRel K mg ro' H' mo ho := h.monoW p.w
theorem RelS.grow (R : RelS K mg ro M H) {H' : Hp} (h : ∀ a o, H a = some o → H' a = some o) : RelS K mg ro M H' ∧ Pres ro H ro H' := by
  have p : Pres ro H ro H' := ⟨⟨[], by simp⟩, rfl, fun a o e _ => h a o e, fun _ h => .inl h⟩
  refine ⟨⟨R.len, R.nd, fun a ha => ?_, R.dis, fun i mo a e1 e2 => ?_⟩, p⟩
  · obtain ⟨xs, e⟩ := R.live a ha
    exact ⟨xs, h a _ e⟩
  · obtain ⟨ho, e, m⟩ := R.at_ i mo a e1 e2
    exact ⟨ho, h a _ e, m.mono p⟩
theorem upd_grow {H : Hp} {p : Addr} {o : HO} (hp : H p = none) : ∀ a u, H a = some u → upd H p o a = some u := fun a u e => by rw [upd_ne (ne_of_none e hp)]; exact e
theorem RelS.alloc (R : RelS K mg ro M H) {p : Addr} {o : HO} (hp : H p = none) : RelS K mg ro M (upd H p o) ∧ Pres ro H ro (upd H p o) := R.grow (upd_grow hp)
abbrev Pl.add (p : Pl) (a : Addr) : Pl := ⟨p.ro ++ [a], p.hid⟩
/-- a new changeable place -/
theorem RelS.allocM (R : RelS K mg ro M H) {p : Addr} {o : HO} {mo : MO} (hp : H p = none) (m : MRel K mg ro H mo o) : RelS K mg (ro.add p) (M ++ [mo]) (upd H p o) ∧ Pres ro H (ro.add p) (upd H p o) := by
  have pr : Pres ro H (ro.add p) (upd H p o) := ⟨⟨[p], rfl⟩, rfl, fun a u e _ => upd_grow hp a u e, fun a h => by
    rcases List.mem_append.mp h with h | h
    · exact .inl h
    · have : a = p := by simpa using h
      exact .inr (this ▸ hp)⟩
  refine ⟨⟨by simp [R.len], ?_, fun a ha => ?_, fun a ha => ?_, fun i mo' a e1 e2 => ?_⟩, pr⟩
  · rw [List.nodup_append]
    refine ⟨R.nd, by simp, fun a ha b hb => ?_⟩
    have : b = p := by simpa using hb
    rw [this]
    exact fun e => R.fresh hp (List.mem_append_left _ (e ▸ ha))
  · obtain ⟨xs, e⟩ := R.live a ha
    exact ⟨xs, upd_grow hp _ _ e⟩
  · rcases List.mem_append.mp ha with h | h
    · exact R.dis a h
    · have : a = p := by simpa using h
      subst this
      exact fun z => R.liveN a z hp
  · by_cases hi : i < M.length
    · rw [List.getElem?_append_left hi] at e1
      rw [List.getElem?_append_left (by rw [R.len]; exact hi)] at e2
      obtain ⟨ho, e, m'⟩ := R.at_ i mo' a e1 e2
      exact ⟨ho, upd_grow hp _ _ e, m'.mono pr⟩
    · have hi' : i = M.length := by
        have := (List.getElem?_eq_some_iff.mp e1).1
        simp at this; omega
      subst hi'
      rw [List.getElem?_append_right (Nat.le_refl _)] at e1
      simp at e1; subst e1
      rw [← R.len, List.getElem?_append_right (Nat.le_refl _)] at e2
      simp at e2; subst e2
      exact ⟨o, upd_same, m.mono pr⟩
/-- a changeable place is changed -/
theorem RelS.change (R : RelS K mg ro M H) {n : Nat} {a : Addr} {o : HO} {mo : MO} (g : ro.ro[n]? = some a) (m : MRel K mg ro H mo o) : RelS K mg ro (M.set n mo) (upd H a o) ∧ Pres ro H ro (upd H a o) := by
  have hm : a ∈ ro.ro := List.mem_of_getElem? g
  have pr : Pres ro H ro (upd H a o) := ⟨⟨[], by simp⟩, rfl, fun b u e hb => by rw [upd_ne (fun z => hb (by rw [z]; exact hm))]; exact e, fun _ h => .inl h⟩
  refine ⟨⟨by simp [R.len], R.nd, fun b hb => ?_, R.dis, fun i mo' b e1 e2 => ?_⟩, pr⟩
  · rw [upd_ne (fun z => R.dis a hm (by rw [← z]; exact hb))]; exact R.live b hb
  · by_cases hi : n = i
    · subst hi
      rw [g] at e2; cases e2
      have hl : n < M.length := by rw [← R.len]; exact (List.getElem?_eq_some_iff.mp g).1
      rw [List.getElem?_set_self hl] at e1; cases e1
      exact ⟨o, upd_same, m.mono pr⟩
    · rw [List.getElem?_set_ne hi] at e1
      obtain ⟨ho, e, m'⟩ := R.at_ i mo' b e1 e2
      have hb : b ≠ a := fun z => by
        subst z
        obtain ⟨h1, q1⟩ := List.getElem?_eq_some_iff.mp g
        obtain ⟨h2, q2⟩ := List.getElem?_eq_some_iff.mp e2
        exact hi ((List.getElem_inj R.nd).mp (q1.trans q2.symm))
      exact ⟨ho, by rw [upd_ne hb]; exact e, m'.mono pr⟩
/-- a place is hidden; it is shown again -/
abbrev Pl.hide (p : Pl) (a : Addr) : Pl := ⟨p.ro, a :: p.hid⟩
mutual
theorem Rep.less {ro ro' : Pl} (e : ro'.ro = ro.ro) (h : ∀ a, a ∈ ro'.hid → a ∈ ro.hid) : ∀ (d : D) (v : V), Rep K mg ro H d v → Rep K mg ro' H d v
  | .non, v, q => q
  | .bl b, v, q => q
  | .int i, v, q => q
  | .str x, v, q => q
  | .tup ds, v, ⟨a, vs, e1, q, r⟩ => ⟨a, vs, e1, q.imp (fun ⟨z, n⟩ => ⟨z, fun m => n ((List.mem_append.mp m).elim (fun m => List.mem_append_left _ (e ▸ m)) fun m => List.mem_append_right _ (h a m))⟩) id, Reps.less e h ds vs r⟩
  | .lst ds, v, ⟨a, vs, e1, q, n, r⟩ => ⟨a, vs, e1, q, fun m => n ((List.mem_append.mp m).elim (fun m => List.mem_append_left _ (e ▸ m)) fun m => List.mem_append_right _ (h a m)), Reps.less e h ds vs r⟩
  | .flst ds, v, ⟨a, vs, e1, q, r⟩ => ⟨a, vs, e1, q.imp (fun ⟨z, n⟩ => ⟨z, fun m => n ((List.mem_append.mp m).elim (fun m => List.mem_append_left _ (e ▸ m)) fun m => List.mem_append_right _ (h a m))⟩) id, Reps.less e h ds vs r⟩
  | .obj C ns ds, v, ⟨a, c, dx, vs, e1, g, q, n, l, r⟩ => ⟨a, c, dx, vs, e1, g, q, fun m => n ((List.mem_append.mp m).elim (fun m => List.mem_append_left _ (e ▸ m)) fun m => List.mem_append_right _ (h a m)), l, Reps.less e h ds vs r⟩
  | .dic ks ds, v, ⟨a, kl, vs, e1, g, l, q, n, r⟩ => ⟨a, kl, vs, e1, g, l, q, fun m => n ((List.mem_append.mp m).elim (fun m => List.mem_append_left _ (e ▸ m)) fun m => List.mem_append_right _ (h a m)), Reps.less e h ds vs r⟩
  | .glo x, v, q => q
  | .ty n, v, q => q
  | .exn C ns ds x d, v, ⟨a, vs, e1, q, l, r⟩ => ⟨a, vs, e1, q.imp id fun q => ⟨q.1, fun m => q.2 ((List.mem_append.mp m).elim (fun m => List.mem_append_left _ (e ▸ m)) fun m => List.mem_append_right _ (h d m))⟩, l, Reps.less e h ds vs r⟩
  | .cell n, v, ⟨a, e1, g⟩ => ⟨a, e1, by rw [e]; exact g⟩
theorem Reps.less {ro ro' : Pl} (e : ro'.ro = ro.ro) (h : ∀ a, a ∈ ro'.hid → a ∈ ro.hid) : ∀ (ds : List D) (vs : List V), Reps K mg ro H ds vs → Reps K mg ro' H ds vs
  | [], vs, q => q
  | d :: ds, vs, ⟨v, r, e1, q, t⟩ => ⟨v, r, e1, Rep.less e h d v q, Reps.less e h ds r t⟩
end
theorem MRel.less {ro ro' : Pl} (e : ro'.ro = ro.ro) (h : ∀ a, a ∈ ro'.hid → a ∈ ro.hid) {mo : MO} {ho : HO} (q : MRel K mg ro H mo ho) : MRel K mg ro' H mo ho := by
  cases mo with
  | lst ds => obtain ⟨vs, e1, r⟩ := q; exact ⟨vs, e1, Reps.less e h ds vs r⟩
  | obj C ns ds => obtain ⟨c, dx, vs, e1, g, l, r⟩ := q; exact ⟨c, dx, vs, e1, g, l, Reps.less e h ds vs r⟩
  | dic ks ds => obtain ⟨kl, vs, e1, g, l, r⟩ := q; exact ⟨kl, vs, e1, g, l, Reps.less e h ds vs r⟩
  | tab i C m => obtain ⟨ps, P, e1, t, g, k⟩ := q; exact ⟨ps, P, e1, ⟨t.1, fun ps cv hc => let ⟨c, e1, e2, e3⟩ := t.2 ps cv hc; ⟨c, e1, e2, fun m => e3 ((List.mem_append.mp m).elim (fun m => List.mem_append_left _ (e ▸ m)) fun m => List.mem_append_right _ (h c m))⟩⟩, by rw [e]; exact g, k⟩
theorem PresW.hide {ro : Pl} {H : Hp} {p : Addr} {o : HO} (hp : H p = none) : PresW ro H (ro.hide p) (upd H p o) := ⟨⟨[], by simp⟩, fun a u e _ => upd_grow hp a u e, fun a h => by
  rcases List.mem_append.mp h with h | h
  · exact .inl (List.mem_append_left _ h)
  · rcases List.mem_cons.mp h with h | h
    · exact .inr (h ▸ hp)
    · exact .inl (List.mem_append_right _ h)⟩
theorem RelS.hide (R : RelS K mg ro M H) {p : Addr} {o : HO} (hp : H p = none) : RelS K mg (ro.hide p) M (upd H p o) := by
  refine ⟨R.len, R.nd, fun a ha => ?_, fun a ha hb => ?_, fun i mo a e1 e2 => ?_⟩
  · rcases List.mem_cons.mp ha with rfl | ha
    · exact ⟨o, upd_same⟩
    · obtain ⟨xs, e⟩ := R.live a ha
      exact ⟨xs, upd_grow hp _ _ e⟩
  · rcases List.mem_cons.mp hb with rfl | hb
    · exact R.liv ha hp
    · exact R.dis a ha hb
  · obtain ⟨ho, e, m⟩ := R.at_ i mo a e1 e2
    exact ⟨ho, upd_grow hp _ _ e, m.monoW (PresW.hide hp)⟩
theorem Pl.ne {ro : Pl} {a p : Addr} (n : a ∉ ro.all) (hp : p ∈ ro.hid) : a ≠ p := fun z => n (by rw [z]; exact List.mem_append_right _ hp)
mutual
theorem Rep.unseen {p : Addr} {o : HO} (hp : p ∈ ro.hid) : ∀ (d : D) (v : V), Rep K mg ro H d v → Rep K mg ro (upd H p o) d v
  | .non, v, q => q
  | .bl b, v, q => q
  | .int i, v, q => q
  | .str x, v, q => q
  | .tup ds, v, ⟨a, vs, e1, q, r⟩ => ⟨a, vs, e1, q.imp (fun ⟨z, n⟩ => ⟨z.imp (fun z => by rw [upd_ne (Pl.ne n hp)]; exact z) fun ⟨u, z⟩ => ⟨u, by rw [upd_ne (Pl.ne n hp)]; exact z⟩, n⟩) id, Reps.unseen hp ds vs r⟩
  | .lst ds, v, ⟨a, vs, e1, q, n, r⟩ => ⟨a, vs, e1, by rw [upd_ne (Pl.ne n hp)]; exact q, n, Reps.unseen hp ds vs r⟩
  | .flst ds, v, ⟨a, vs, e1, q, r⟩ => ⟨a, vs, e1, q.imp (fun ⟨z, n⟩ => ⟨z.imp (fun z => by rw [upd_ne (Pl.ne n hp)]; exact z) fun ⟨u, z⟩ => ⟨u, by rw [upd_ne (Pl.ne n hp)]; exact z⟩, n⟩) id, Reps.unseen hp ds vs r⟩
  | .obj C ns ds, v, ⟨a, c, dx, vs, e1, g, q, n, l, r⟩ => ⟨a, c, dx, vs, e1, g, by rw [upd_ne (Pl.ne n hp)]; exact q, n, l, Reps.unseen hp ds vs r⟩
  | .dic ks ds, v, ⟨a, kl, vs, e1, g, l, q, n, r⟩ => ⟨a, kl, vs, e1, g, l, by rw [upd_ne (Pl.ne n hp)]; exact q, n, Reps.unseen hp ds vs r⟩
  | .glo x, v, q => q
  | .ty n, v, q => q
  | .exn C ns ds x d, v, ⟨a, vs, e1, q, l, r⟩ => ⟨a, vs, e1, q.imp id fun q => ⟨by rw [upd_ne (Pl.ne q.2 hp)]; exact q.1, q.2⟩, l, Reps.unseen hp ds vs r⟩
  | .cell n, v, q => q
theorem Reps.unseen {p : Addr} {o : HO} (hp : p ∈ ro.hid) : ∀ (ds : List D) (vs : List V), Reps K mg ro H ds vs → Reps K mg ro (upd H p o) ds vs
  | [], vs, q => q
  | d :: ds, vs, ⟨v, r, e1, q, t⟩ => ⟨v, r, e1, Rep.unseen hp d v q, Reps.unseen hp ds r t⟩
end
theorem MRel.unseen {p : Addr} {o : HO} (hp : p ∈ ro.hid) {mo : MO} {ho : HO} (q : MRel K mg ro H mo ho) : MRel K mg ro (upd H p o) mo ho := by
  cases mo with
  | lst ds => obtain ⟨vs, e1, r⟩ := q; exact ⟨vs, e1, Reps.unseen hp ds vs r⟩
  | obj C ns ds => obtain ⟨c, dx, vs, e1, g, l, r⟩ := q; exact ⟨c, dx, vs, e1, g, l, Reps.unseen hp ds vs r⟩
  | dic ks ds => obtain ⟨kl, vs, e1, g, l, r⟩ := q; exact ⟨kl, vs, e1, g, l, Reps.unseen hp ds vs r⟩
  | tab i C m => obtain ⟨ps, P, e1, t, g, k⟩ := q; exact ⟨ps, P, e1, ⟨t.1, fun ps cv hc => let ⟨c, e1, e2, e3⟩ := t.2 ps cv hc; ⟨c, e1, by rw [upd_ne (Pl.ne e3 hp)]; exact e2, e3⟩⟩, g, k⟩
theorem RelS.unseen (R : RelS K mg ro M H) {p : Addr} {o : HO} (hp : p ∈ ro.hid) : RelS K mg ro M (upd H p o) := by
  refine ⟨R.len, R.nd, fun a ha => ?_, R.dis, fun i mo a e1 e2 => ?_⟩
  · by_cases e : a = p
    · subst e; exact ⟨o, upd_same⟩
    · rw [upd_ne e]; exact R.live a ha
  · obtain ⟨ho, e, m⟩ := R.at_ i mo a e1 e2
    exact ⟨ho, by rw [upd_ne (fun z => R.dis a (List.mem_of_getElem? e2) (by rw [z]; exact hp))]; exact e, m.unseen hp⟩
variable {E : XK} {Q : VK}
theorem PostD.pure {d : D} (R : RelS K mg ro M H) {v : V} (r : Rep K mg ro H d v) (h : PostD K mg E ro H Q (.ok d M)) : Q v H := h ro H v R (Pres.refl _ _) r
theorem PostD.newL {ds : List D} (R : RelS K mg ro M H) {vs : List V} (r : Reps K mg ro H ds vs) (h : PostD K mg E ro H Q (.ok (.lst ds) M)) : ∀ p, H p = none → Q (.ref p) (upd H p (.lst vs)) := fun p hp => by
  obtain ⟨R', P⟩ := R.alloc (o := .lst vs) hp
  exact h ro _ _ R' P ⟨p, vs, rfl, upd_same, R.fresh hp, Reps.mono P ds vs r⟩
theorem PostD.newT {ds : List D} (R : RelS K mg ro M H) {vs : List V} (r : Reps K mg ro H ds vs) (h : PostD K mg E ro H Q (.ok (.tup ds) M)) : ∀ p, H p = none → Q (.ref p) (upd H p (.tup vs)) := fun p hp => by
  obtain ⟨R', P⟩ := R.alloc (o := .tup vs) hp
  exact h ro _ _ R' P ⟨p, vs, rfl, .inl ⟨.inl upd_same, R.fresh hp⟩, Reps.mono P ds vs r⟩
theorem PostD.newC {ds : List D} (R : RelS K mg ro M H) {vs : List V} (r : Reps K mg ro H ds vs) (h : PostD K mg E ro H Q (.ok (.cell M.length) (M ++ [.lst ds]))) : ∀ p, H p = none → Q (.ref p) (upd H p (.lst vs)) := fun p hp => by
  obtain ⟨R', P⟩ := R.allocM (o := .lst vs) (mo := .lst ds) hp ⟨vs, rfl, r⟩
  exact h _ _ _ R' P ⟨p, rfl, by rw [← R.len, List.getElem?_append_right (Nat.le_refl _)]; simp⟩
end
theorem line_le {n : Nat} (h : n ≤ 1000000) : n ≤ sizeLine := by rw [sizeLine_eq]; omega
theorem line_lt {n : Nat} (h : n < 1000000) : n < sizeLine := by rw [sizeLine_eq]; omega
def nameE (i : Nat) : ME := fun sd M => match sd[i]? with
  | some (some d) => .ok d M
  | _ => .stuck
def constE (d : D) : ME := fun _ M => .ok d M
def binE (f : D → D → MS → Res D) (a b : ME) : ME := fun sd M => (a sd M).bind fun d M1 => (b sd M1).bind fun e M2 => f d e M2
def unE (f : D → MS → Res D) (a : ME) : ME := fun sd M => (a sd M).bind fun d M1 => f d M1
def andE (a b : ME) : ME := fun sd M => (a sd M).bind fun d M1 => match d with
  | .bl true => b sd M1
  | .bl false => .ok (.bl false) M1
  | _ => .stuck
def orE (a b : ME) : ME := fun sd M => (a sd M).bind fun d M1 => match d with
  | .bl true => .ok (.bl true) M1
  | .bl false => b sd M1
  | _ => .stuck
def notE (a : ME) : ME := fun sd M => (a sd M).bind fun d M1 => match d with
  | .bl c => .ok (.bl (!c)) M1
  | _ => .stuck
def ifE (c : MB) (a b : ME) : ME := fun sd M => (c sd M).bind fun k M1 => if k = true then a sd M1 else b sd M1
/-- a truth value as a test -/
def valB (a : ME) : MB := fun sd M => (a sd M).bind fun d M1 => match d with
  | .bl c => .ok c M1
  | _ => .stuck
def truD (M : MS) : D → Option Bool
  | .non => some false
  | .bl b => some b
  | .int i => some (i != 0)
  | .str x => if x.length ≤ 1000000 then some ((x.length : Int) != 0) else none
  | .lst ds => some (!ds.isEmpty)
  | .flst ds => some (!ds.isEmpty)
  | .tup ds => some (!ds.isEmpty)
  | .cell n => match M[n]? with
    | some (.lst ds) => some (!ds.isEmpty)
    | _ => none
  | _ => none
def truB (a : ME) : MB := fun sd M => (a sd M).bind fun d M1 => match truD M1 d with
  | some c => .ok c M1
  | none => .stuck
def andB (a b : MB) : MB := fun sd M => (a sd M).bind fun c M1 => if c = true then b sd M1 else .ok false M1
def orB (a b : MB) : MB := fun sd M => (a sd M).bind fun c M1 => if c = true then .ok true M1 else b sd M1
def notB (a : MB) : MB := fun sd M => (a sd M).bind fun c M1 => .ok (!c) M1
def nilA : MA := fun _ M => .ok [] M
def consA (a : ME) (r : MA) : MA := fun sd M => (a sd M).bind fun d M1 => (r sd M1).bind fun ds M2 => .ok (d :: ds) M2
def tupE (a : MA) : ME := fun sd M => (a sd M).bind fun ds M1 => if ds.length ≤ 1000000 then .ok (.tup ds) M1 else .stuck
def lstE (a : MA) : ME := fun sd M => (a sd M).bind fun ds M1 => if ds.length ≤ 1000000 then .ok (.lst ds) M1 else .stuck
/-- a list that will be changed -/
def celE (a : MA) : ME := fun sd M => (a sd M).bind fun ds M1 => if ds.length ≤ 1000000 then .ok (.cell M1.length) (M1 ++ [.lst ds]) else .stuck
def appE (f : List D → MS → Res D) (a : MA) : ME := fun sd M => (a sd M).bind fun ds M1 => f ds M1
/-- an operation of two values -/
def OpS (X : Cx) (fv : Value → Value → Sem Value) (f : D → D → MS → Res D) : Prop :=
  ∃ r : R2, OpR X fv r ∧ ∀ (ro : Pl) (H : Hp) (M : MS) (d e : D) (x y : V) (E : XK) (Q : VK), RelS X.K X.mg ro M H → Rep X.K X.mg ro H d x → Rep X.K X.mg ro H e y → PostD X.K X.mg E ro H Q (f d e M) → r x y H Q
/-- a call of a built-in -/
def CallS (X : Cx) (fv : Value) (f : List D → MS → Res D) : Prop :=
  ∃ r : List V → Hp → VK → Prop, CallR X fv r ∧ ∀ (ro : Pl) (H : Hp) (M : MS) (ds : List D) (xs : List V) (E : XK) (Q : VK), RelS X.K X.mg ro M H → Reps X.K X.mg ro H ds xs → PostD X.K X.mg E ro H Q (f ds M) → r xs H Q
/-- a method of a built-in type -/
def MtS (X : Cx) (T id : String) (f : D → List D → MS → Res D) : Prop :=
  ∃ r : V → List V → Hp → VK → Prop, MtR X id r ∧ ∀ (ro : Pl) (H : Hp) (M : MS) (d : D) (ds : List D) (x : V) (xs : List V) (E : XK) (Q : VK), RelS X.K X.mg ro M H → Rep X.K X.mg ro H d x → Reps X.K X.mg ro H ds xs → PostD X.K X.mg E ro H Q (f d ds M) → r x xs H Q
/-- a subscript -/
def IxS (X : Cx) (f : D → D → MS → Res D) : Prop :=
  ∃ r : R2, IxR X r ∧ ∀ (ro : Pl) (H : Hp) (M : MS) (d e : D) (x y : V) (E : XK) (Q : VK), RelS X.K X.mg ro M H → Rep X.K X.mg ro H d x → Rep X.K X.mg ro H e y → PostD X.K X.mg E ro H Q (f d e M) → r x y H Q
section
variable {X : Cx} {W : WX} {a b c e : Expr} {es : List Expr} {pos : Pos} {ma mb mc : ME} {ta tb tc : MB} {ms : MA}
theorem de_name (i : Nat) {x : Str} (hN : X.N[i]? = some x := by rfl) (hv : Vis X.env.scope x := by first | exact Or.inl rfl | exact Or.inr (Or.inl rfl) | exact Or.inr (Or.inr rfl)) (hd : (x == ("__debug__" : Str)) = false := by decide)
    (hcd : (x == ("__classdict__" : Str)) = false := by decide) : DE X W (.Name x pos) (nameE i) := by
  refine ⟨⟨fun pins s st H Q I h => (pe_var hN hv hd hcd).run pins s st H Q I ?_⟩⟩
  obtain ⟨ro, sd, M, R, S, P⟩ := h
  unfold nameE at P
  split at P
  · rename_i d e
    obtain ⟨v, e', r⟩ := S.2 i d e
    exact ⟨v, e', PostD.pure R r P⟩
  · exact P.elim
theorem de_constV {d : D} {v : V} (h : PE X e (tC v)) (r : ∀ ro H, Rep X.K X.mg ro H d v) : DE X W e (constE d) := by
  refine ⟨⟨fun pins s st H Q I q => h.run pins s st H Q I ?_⟩⟩
  obtain ⟨ro, sd, M, R, S, P⟩ := q
  exact PostD.pure R (r ro H) P
theorem de_int {i j} : DE X W (.Constant (.int i) j pos) (constE (.int i)) := de_constV pe_int fun _ _ => rfl
theorem de_bl {b j} : DE X W (.Constant (.bool b) j pos) (constE (.bl b)) := de_constV pe_bl fun _ _ => rfl
/-- a text's codes -/
def sL (s : String) : List Nat := s.toList.map Char.toNat
theorem tx_sL (s : String) : tx (sL s) = Str.ofString s := (Str.ofString_eq_toList s).symm
theorem de_str {s : String} {j} : DE X W (.Constant (.str (Str.ofString s)) j pos) (constE (.str (sL s))) := de_constV pe_str fun _ _ => by
  show V.str _ = V.str (tx (sL s))
  rw [tx_sL]
/-- a class or def of the module, as a value -/
theorem de_glo {x : String} {f : Addr} (hg : Gl X (Str.ofString x)) (hm : X.mg (Str.ofString x) = some (.ref f)) (hd : (Str.ofString x == ("__debug__" : Str)) = false := by decide) : DE X W (.Name (Str.ofString x) pos) (constE (.glo x)) :=
  de_constV (pe_glob (v := .ref f) hg hm rfl hd) fun _ _ => ⟨f, rfl, hm⟩
theorem de_op2 {t : TE} {f : D → D → MS → Res D} {r : R2} (hpe : PE X e t)
    (ht : ∀ st H Q, tOp r (liftE X.K X.mg W ma) (liftE X.K X.mg W mb) st H Q → t st H Q)
    (hr : ∀ (ro : Pl) (H : Hp) (M : MS) (d e : D) (x y : V) (E : XK) (Q : VK), RelS X.K X.mg ro M H → Rep X.K X.mg ro H d x → Rep X.K X.mg ro H e y → PostD X.K X.mg E ro H Q (f d e M) → r x y H Q) : DE X W e (binE f ma mb) := by
  refine ⟨⟨fun pins s st H Q I h => hpe.run pins s st H Q I (ht _ _ _ ?_)⟩⟩
  obtain ⟨ro, sd, M, R, S, P⟩ := h
  refine ⟨ro, sd, M, R, S, (Post.bind P).imp fun x H1 ⟨ro1, M1, d, R1, P1, r1, q1⟩ => ?_⟩
  refine ⟨ro1, sd, M1, R1, S.mono P1, (Post.bind q1).imp fun y H2 ⟨ro2, M2, e, R2, P2, r2, q2⟩ => ?_⟩
  exact hr ro2 H2 M2 d e x y _ Q R2 (Rep.mono P2 d x r1) r2 q2
theorem de_op {op : Operator} {f : D → D → MS → Res D} (ho : OpS X (binaryOp op) f) (ha : DE X W a ma) (hb : DE X W b mb) : DE X W (.BinOp a op b pos) (binE f ma mb) := by
  obtain ⟨r, h1, h2⟩ := ho
  exact de_op2 (pe_op h1 ha.pe hb.pe) (fun _ _ _ h => h) h2
theorem de_cmp {op : CmpOp} {f : D → D → MS → Res D} (ho : OpS X (compareOp op) f) (ha : DE X W a ma) (hb : DE X W b mb) (hm : behindInMarks op b = false := by first | exact nobehind _ (by decide) (by decide) | rfl) : DE X W (.Compare a [op] [b] pos) (binE f ma mb) := by
  obtain ⟨r, h1, h2⟩ := ho
  exact de_op2 (pe_cmpR h1 ha.pe hb.pe hm) (fun _ _ _ h => h) h2
theorem de_ix {f : D → D → MS → Res D} (ho : IxS X f) (ha : DE X W a ma) (hb : DE X W b mb) (hs : PlainIx b := by exact fun _ _ => rfl) : DE X W (.Subscript a b pos) (binE f ma mb) := by
  obtain ⟨r, h1, h2⟩ := ho
  exact de_op2 (pe_ix h1 ha.pe hb.pe hs) (fun _ _ _ h => h) h2
/-- tests -/
theorem dt_cmp {op : CmpOp} {f : D → D → MS → Res D} (ho : OpS X (compareOp op) f) (ha : DE X W a ma) (hb : DE X W b mb) (hm : behindInMarks op b = false := by first | exact nobehind _ (by decide) (by decide) | rfl) : DT X W (.Compare a [op] [b] pos) (valB (binE f ma mb)) := by
  obtain ⟨r, h1, h2⟩ := ho
  refine ⟨⟨fun pins s st H Q I h => (pt_cmpR h1 ha.pe hb.pe hm).run pins s st H Q I ?_⟩⟩
  obtain ⟨ro, sd, M, R, S, P⟩ := h
  have P : PostB X.K X.mg (fun c d H' => W c d st H') ro H Q ((binE f ma mb sd M).bind _) := P
  have P2 := Post.bind (R := fun ro' H' d v => Rep X.K X.mg ro' H' d v) P
  refine ⟨ro, sd, M, R, S, (Post.bind P2).imp fun x H1 ⟨ro1, M1, d, R1, P1, r1, q1⟩ => ?_⟩
  refine ⟨ro1, sd, M1, R1, S.mono P1, (Post.bind q1).imp fun y H2 ⟨ro2, M2, e, R2, Pr2, r2, q2⟩ => ?_⟩
  refine h2 ro2 H2 M2 d e x y _ _ R2 (Rep.mono Pr2 d x r1) r2 (q2.imp fun z H3 ⟨ro3, M3, g, R3, Pr3, r3, q3⟩ => ?_)
  cases g with
  | bl k =>
    cases (show z = V.bl k from r3)
    exact ⟨k, rfl, q3 ro3 H3 k R3 (Pres.refl _ _) rfl⟩
  | _ => exact q3.elim
theorem tru_of {K : PySem.W.Frag} {mg : Str → Option Value} {ro : Pl} {H : Hp} {M : MS} (R : RelS K mg ro M H) {d : D} {x : V} (r : Rep K mg ro H d x) {k : Bool} (e : truD M d = some k) : TruV K x H k := by
  cases d with
  | non => cases (show x = V.non from r); cases e; rfl
  | bl b => cases (show x = V.bl b from r); cases e; rfl
  | int i => cases (show x = V.int i from r); cases e; rfl
  | str y =>
    cases (show x = V.str (tx y) from r)
    have e' : (if y.length ≤ 1000000 then some ((y.length : Int) != 0) else none) = some k := e
    split at e'
    · rename_i h
      cases e'
      exact ⟨by show (tx y).cps.size ≤ _; simpa using line_le h, by simp [Str.length]⟩
    · cases e'
  | lst ds =>
    cases e
    obtain ⟨a, vs, rfl, h, _, q⟩ := r
    refine .inl ⟨vs, SqL.of h, ?_⟩
    have := q.len
    cases ds <;> cases vs <;> simp_all
  | flst ds =>
    cases e
    obtain ⟨a, vs, rfl, h, q⟩ := r
    refine .inl ⟨vs, h.sq, ?_⟩
    have := q.len
    cases ds <;> cases vs <;> simp_all
  | tup ds =>
    cases e
    obtain ⟨a, vs, rfl, h, q⟩ := r
    refine .inr (.inl ⟨vs, h.sq, ?_⟩)
    have := q.len
    cases ds <;> cases vs <;> simp_all
  | cell n =>
    have e' : (match M[n]? with | some (.lst ds) => some (!ds.isEmpty) | _ => none) = some k := e
    split at e'
    · rename_i ds hm
      cases e'
      obtain ⟨a, ho, rfl, _, h, vs, rfl, q⟩ := R.cellAt r hm
      refine .inl ⟨vs, SqL.of h, ?_⟩
      have := q.len
      cases ds <;> cases vs <;> simp_all
    · cases e'
  | _ => cases e
theorem dt_tru (h : DE X W e ma) (he : ∀ whole, isTrue e X.env whole = (do let v ← whole; standAt e.pos; holding [v] (truthy v)) := by intro _; rfl) : DT X W e (truB ma) := by
  refine ⟨⟨fun pins s st H Q I q => (pt_truth h.pe he).run pins s st H Q I ?_⟩⟩
  obtain ⟨ro, sd, M, R, S, P⟩ := q
  refine ⟨ro, sd, M, R, S, (Post.bind P).imp fun x H1 ⟨ro1, M1, d, R1, P1, r1, q1⟩ => ?_⟩
  cases e : truD M1 d with
  | some k =>
    rw [e] at q1
    exact ⟨k, tru_of R1 r1 e, q1 ro1 H1 k R1 (Pres.refl _ _) rfl⟩
  | none => rw [e] at q1; exact q1.elim
theorem dt_not (ha : DT X W a ta) : DT X W (.UnaryOp .Not a pos) (notB ta) := by
  refine ⟨⟨fun pins s st H Q I q => (pt_not ha.pt).run pins s st H Q I ?_⟩⟩
  obtain ⟨ro, sd, M, R, S, P⟩ := q
  refine ⟨ro, sd, M, R, S, (Post.bind P).imp fun x H1 ⟨ro1, M1, d, R1, P1, r1, q1⟩ => ?_⟩
  subst r1
  exact q1 ro1 H1 _ R1 (Pres.refl _ _) rfl
theorem DW.dt (h : DW X W e ta) : DT X W e ta := ⟨h.pw.pt⟩
theorem dw_or1 (ha : DT X W a ta) : DW X W (.BoolOp .Or [a] pos) ta := ⟨pw_or1 ha.pt⟩
theorem dw_or (ha : DT X W a ta) (hb : DW X W (.BoolOp .Or (b :: es) pos) tb) : DW X W (.BoolOp .Or (a :: b :: es) pos) (orB ta tb) := by
  refine ⟨⟨fun wh pins s st H Q I q => (pw_or ha.pt hb.pw).run wh pins s st H Q I ?_⟩⟩
  obtain ⟨ro, sd, M, R, S, P⟩ := q
  refine ⟨ro, sd, M, R, S, (Post.bind P).imp fun x H1 ⟨ro1, M1, d, R1, P1, r1, q1⟩ => ?_⟩
  subst r1
  cases x with
  | false => rw [if_neg Bool.false_ne_true] at q1 ⊢; exact ⟨ro1, sd, M1, R1, S.mono P1, q1⟩
  | true => rw [if_pos rfl] at q1 ⊢; exact q1 ro1 H1 _ R1 (Pres.refl _ _) rfl
/-- arguments, displays -/
theorem da_nil : DA X W [] nilA := by
  refine ⟨⟨fun pos pins s st H Q I q => pa_nil.run pos pins s st H Q I ?_⟩⟩
  obtain ⟨ro, sd, M, R, S, P⟩ := q
  exact P ro H [] R (Pres.refl _ _) rfl
theorem da_cons (ha : DE X W e ma) (hr : DA X W es ms) (hs : starEach (e :: es) X.env = (false, eval e X.env) :: starEach es X.env := by rfl) : DA X W (e :: es) (consA ma ms) := by
  refine ⟨⟨fun pos pins s st H Q I q => (pa_cons ha.pe hr.pa hs).run pos pins s st H Q I ?_⟩⟩
  obtain ⟨ro, sd, M, R, S, P⟩ := q
  refine ⟨ro, sd, M, R, S, (Post.bind P).imp fun x H1 ⟨ro1, M1, d, R1, P1, r1, q1⟩ => ?_⟩
  refine ⟨ro1, sd, M1, R1, S.mono P1, (Post.bind q1).imp fun xs H2 ⟨ro2, M2, ds, R2, P2, r2, q2⟩ => ?_⟩
  exact q2 ro2 H2 _ R2 (Pres.refl _ _) ⟨x, xs, rfl, Rep.mono P2 d x r1, r2⟩
theorem de_tup {k} (h : DA X W es ms) : DE X W (.Tuple es k pos) (tupE ms) := by
  refine ⟨⟨fun pins s st H Q I q => (pe_tup h.pa).run pins s st H Q I ?_⟩⟩
  obtain ⟨ro, sd, M, R, S, P⟩ := q
  refine ⟨ro, sd, M, R, S, (Post.bind P).imp fun xs H1 ⟨ro1, M1, ds, R1, P1, r1, q1⟩ => ?_⟩
  split at q1
  · rename_i hl
    exact ⟨by rw [← r1.len]; exact line_le hl, PostD.newT R1 r1 q1⟩
  · exact q1.elim
theorem de_lst (h : DA X W es ms) : DE X W (.List es pos) (lstE ms) := by
  refine ⟨⟨fun pins s st H Q I q => (pe_lst h.pa).run pins s st H Q I ?_⟩⟩
  obtain ⟨ro, sd, M, R, S, P⟩ := q
  refine ⟨ro, sd, M, R, S, (Post.bind P).imp fun xs H1 ⟨ro1, M1, ds, R1, P1, r1, q1⟩ => ?_⟩
  split at q1
  · rename_i hl
    exact ⟨by rw [← r1.len]; exact line_le hl, PostD.newL R1 r1 q1⟩
  · exact q1.elim
theorem de_cel (h : DA X W es ms) : DE X W (.List es pos) (celE ms) := by
  refine ⟨⟨fun pins s st H Q I q => (pe_lst h.pa).run pins s st H Q I ?_⟩⟩
  obtain ⟨ro, sd, M, R, S, P⟩ := q
  refine ⟨ro, sd, M, R, S, (Post.bind P).imp fun xs H1 ⟨ro1, M1, ds, R1, P1, r1, q1⟩ => ?_⟩
  split at q1
  · rename_i hl
    exact ⟨by rw [← r1.len]; exact line_le hl, PostD.newC R1 r1 q1⟩
  · exact q1.elim
/-- calls of built-ins -/
theorem de_callB {x : Str} {p : Pos} {id : String} {f : List D → MS → Res D} (hc : CallS X (.builtin id) f) (hg : Gl X x) (hm : X.mg x = none) (hv : bootBuiltins x = some (.builtin id)) (ha : DA X W (e :: es) ms) (hn : x ≠ "__name__" := by decide) (hdb : (x == ("__debug__" : Str)) = false := by decide)
    (he : starEach (e :: es) X.env = (false, eval e X.env) :: starEach es X.env := by rfl) (hpl : (backTo pos (starEach es X.env)).any (·.1) = false := by rfl) : DE X W (.Call (.Name x p) (e :: es) [] pos) (appE f ms) := by
  obtain ⟨r, h1, h2⟩ := hc
  refine ⟨⟨fun pins s st H Q I q => (pe_callB h1 hg hm hv ha.pa hn hdb he hpl).run pins s st H Q I ?_⟩⟩
  obtain ⟨ro, sd, M, R, S, P⟩ := q
  exact ⟨ro, sd, M, R, S, (Post.bind P).imp fun xs H1 ⟨ro1, M1, ds, R1, P1, r1, q1⟩ => h2 ro1 H1 M1 ds xs _ Q R1 r1 q1⟩
theorem de_callTy {x : Str} {p : Pos} {T : String} {f : List D → MS → Res D} (hc : CallS X (.type T) f) (hg : Gl X x) (hm : X.mg x = none) (hv : bootBuiltins x = some (.type T)) (ha : DA X W (e :: es) ms) (hn : x ≠ "__name__" := by decide) (hdb : (x == ("__debug__" : Str)) = false := by decide)
    (he : starEach (e :: es) X.env = (false, eval e X.env) :: starEach es X.env := by rfl) (hpl : (backTo pos (starEach es X.env)).any (·.1) = false := by rfl) : DE X W (.Call (.Name x p) (e :: es) [] pos) (appE f ms) := by
  obtain ⟨r, h1, h2⟩ := hc
  refine ⟨⟨fun pins s st H Q I q => (pe_callTy h1 hg hm hv ha.pa hn hdb he hpl).run pins s st H Q I ?_⟩⟩
  obtain ⟨ro, sd, M, R, S, P⟩ := q
  exact ⟨ro, sd, M, R, S, (Post.bind P).imp fun xs H1 ⟨ro1, M1, ds, R1, P1, r1, q1⟩ => h2 ro1 H1 M1 ds xs _ Q R1 r1 q1⟩
end
end DL
namespace DL
open PySem PySem.Spec L2
open PyProof.Rows hiding St
variable [HashW]
abbrev W0 : WX := fun _ _ _ _ => False
/-- what a body's context gives -/
structure Ctx (X : Cx) (W : WX) : Prop where
  tk : Takes X W
  po : PassesOwn (model X.prog X.w) X.A X.env X.xe
  calm : X.calm = true
def SRes.ofE {A : Type} (x : Res A) (sd : SD) (k : A → MS → SRes) : SRes := match x with
  | .ok a M => k a M
  | .exc C ns ds M => .exc C ns ds sd M
  | .stuck => .stuck
@[simp] theorem SRes.ofE_ok {A : Type} (a : A) (M : MS) (sd : SD) (k : A → MS → SRes) : SRes.ofE (.ok a M) sd k = k a M := rfl
@[simp] theorem SRes.ofE_exc {A : Type} (C : String) (ns : List String) (ds : List D) (M : MS) (sd : SD) (k : A → MS → SRes) : SRes.ofE (.exc C ns ds M) sd k = .exc C ns ds sd M := rfl
@[simp] theorem SRes.ofE_stuck {A : Type} (sd : SD) (k : A → MS → SRes) : SRes.ofE .stuck sd k = .stuck := rfl
def SRes.seq (x : SRes) (k : SD → MS → SRes) : SRes := match x with
  | .nx sd M => k sd M
  | r => r
@[simp] theorem SRes.seq_nx (sd : SD) (M : MS) (k : SD → MS → SRes) : (SRes.nx sd M).seq k = k sd M := rfl
@[simp] theorem SRes.seq_ret (d : D) (M : MS) (k : SD → MS → SRes) : (SRes.ret d M).seq k = .ret d M := rfl
@[simp] theorem SRes.seq_brk (sd : SD) (M : MS) (k : SD → MS → SRes) : (SRes.brk sd M).seq k = .brk sd M := rfl
@[simp] theorem SRes.seq_ct (sd : SD) (M : MS) (k : SD → MS → SRes) : (SRes.ct sd M).seq k = .ct sd M := rfl
@[simp] theorem SRes.seq_exc (C : String) (ns : List String) (ds : List D) (sd : SD) (M : MS) (k : SD → MS → SRes) : (SRes.exc C ns ds sd M).seq k = .exc C ns ds sd M := rfl
@[simp] theorem SRes.seq_stuck (k : SD → MS → SRes) : SRes.stuck.seq k = .stuck := rfl
section
variable {K : PySem.W.Frag} {mg : Str → Option Value} {W : WX} {ro ro1 : Pl} {H H1 : Hp} {D0 : Ends}
theorem PostS.moves {x : SRes} (h : PostS K mg W ro H D0 x) (p : Pres ro H ro1 H1) : PostS K mg W ro1 H1 D0 x := by
  cases x with
  | nx sd M => exact fun ro' H' st rs q r => h ro' H' st rs (p.trans q) r
  | ret d M => exact fun ro' H' v rs q r => h ro' H' v rs (p.trans q) r
  | brk sd M => exact fun ro' H' st rs q r => h ro' H' st rs (p.trans q) r
  | ct sd M => exact fun ro' H' st rs q r => h ro' H' st rs (p.trans q) r
  | exc C ns ds sd M => exact fun ro' H' st cls dd rs q r x => h ro' H' st cls dd rs (p.trans q) r x
  | stuck => exact h
theorem PostS.ofE {A B : Type} {R : Pl → Hp → A → B → Prop} {x : Res A} {sd : SD} {st : St} {k : A → MS → SRes} (h : PostS K mg W ro H D0 (SRes.ofE x sd k)) (S : RepSt K mg ro H sd st) :
    Post R K mg (fun c d H' => W c d st H') ro H (fun v H1 => ∃ ro1 M1 a, RelS K mg ro1 M1 H1 ∧ Pres ro H ro1 H1 ∧ R ro1 H1 a v ∧ PostS K mg W ro1 H1 D0 (k a M1)) x := by
  cases x with
  | ok a M => exact fun ro' H' v rs q r => ⟨ro', M, a, rs, q, r, PostS.moves h q⟩
  | exc C ns ds M => exact fun ro' H' cls dd rs q r => h ro' H' st cls dd rs q (S.mono q) r
  | stuck => exact h
theorem PostS.seq {x : SRes} {k : SD → MS → SRes} (h : PostS K mg W ro H D0 (x.seq k)) :
    PostS K mg W ro H { D0 with nx := fun st H1 => ∃ ro1 sd M1, RelS K mg ro1 M1 H1 ∧ RepSt K mg ro1 H1 sd st ∧ Pres ro H ro1 H1 ∧ PostS K mg W ro1 H1 D0 (k sd M1) } x := by
  cases x with
  | nx sd M => exact fun ro' H' st rs q r => ⟨ro', sd, M, rs, r, q, PostS.moves h q⟩
  | ret d M => exact h
  | brk sd M => exact h
  | ct sd M => exact h
  | exc C ns ds sd M => exact h
  | stuck => exact h
theorem PostS.imp {x : SRes} {D1 : Ends} (h : PostS K mg W ro H D0 x) (h1 : ∀ st H', D0.nx st H' → D1.nx st H') (h2 : ∀ v H', D0.rt v H' → D1.rt v H') (h3 : ∀ st H', D0.bk st H' → D1.bk st H') (h4 : ∀ st H', D0.ct st H' → D1.ct st H') : PostS K mg W ro H D1 x := by
  cases x with
  | nx sd M => exact fun ro' H' st rs q r => h1 _ _ (h ro' H' st rs q r)
  | ret d M => exact fun ro' H' v rs q r => h2 _ _ (h ro' H' v rs q r)
  | brk sd M => exact fun ro' H' st rs q r => h3 _ _ (h ro' H' st rs q r)
  | ct sd M => exact fun ro' H' st rs q r => h4 _ _ (h ro' H' st rs q r)
  | exc C ns ds sd M => exact h
  | stuck => exact h
end
def passS : MST := fun sd M => .nx sd M
def seqS (a b : MST) : MST := fun sd M => (a sd M).seq b
def setS (i : Nat) (m : ME) : MST := fun sd M => SRes.ofE (m sd M) sd fun d M1 => .nx (sd.set i (some d)) M1
def exprS (m : ME) : MST := fun sd M => SRes.ofE (m sd M) sd fun _ M1 => .nx sd M1
def retS (m : ME) : MST := fun sd M => SRes.ofE (m sd M) sd fun d M1 => .ret d M1
def ifS (c : MB) (a b : MST) : MST := fun sd M => SRes.ofE (c sd M) sd fun k M1 => if k = true then a sd M1 else b sd M1
/-- name op= e -/
def augS (i : Nat) (f : D → D → MS → Res D) (m : ME) : MST := fun sd M => SRes.ofE (nameE i sd M) sd fun x M1 => SRes.ofE (m sd M1) sd fun y M2 => SRes.ofE (f x y M2) sd fun d M3 => .nx (sd.set i (some d)) M3
/-- o[i] = e: a list's item -/
def setItemD (M : MS) (o i v : D) : Option MS := match o, i with
  | .cell n, .int k => match M[n]? with
    | some (.lst ds) => match ixN ds.length k with
      | some j => some (M.set n (.lst (ds.set j v)))
      | none => none
    | _ => none
  | _, _ => none
def putS (mo mi m : ME) : MST := fun sd M => SRes.ofE (m sd M) sd fun v M1 => SRes.ofE (mo sd M1) sd fun o M2 => SRes.ofE (mi sd M2) sd fun i M3 => match setItemD M3 o i v with
  | some M4 => .nx sd M4
  | none => .stuck
section
variable {X : Cx} {W : WX} {s : Stmt} {ss rest : List Stmt} {e c : Expr} {pos : Pos} {m ma mb mc : ME} {tc : MB} {sa sb : MST}
theorem dss_nil : DSs X W [] passS := by
  refine ⟨⟨fun pins s st H D0 I q => pss_nil.run pins s st H D0 I ?_⟩⟩
  obtain ⟨ro, sd, M, R, S, P⟩ := q
  exact P ro H st R (Pres.refl _ _) S
theorem dss_one (h : DS X W s sa) : DSs X W [s] sa := ⟨pss_one h.ps⟩
theorem dss_cons (h : DS X W s sa) (hr : DSs X W rest sb) : DSs X W (s :: rest) (seqS sa sb) := by
  refine ⟨⟨fun pins s st H D0 I q => (pss_cons h.ps hr.ps).run pins s st H D0 I ?_⟩⟩
  obtain ⟨ro, sd, M, R, S, P⟩ := q
  exact ⟨ro, sd, M, R, S, (PostS.seq P).imp (fun st' H' ⟨ro1, sd1, M1, R1, S1, P1, q1⟩ => ⟨ro1, sd1, M1, R1, S1, q1⟩) (fun _ _ h => h) (fun _ _ h => h) (fun _ _ h => h)⟩
theorem ds_set {i : Nat} {x : Str} {pos' : Pos} (he : DE X W e m) (hN : X.N.Nodup) (hi : X.N[i]? = some x := by rfl) (hx : Loc X.env.scope x := by first | exact Or.inl rfl | exact Or.inr rfl) (hs : swapsWith e (some (.Name x pos')) pos.line X.env = pure false := by rfl)
    (hf : X.fn x = true ∨ X.env.scope.names.lookup x = some .local := by first | exact .inl rfl | exact .inr rfl | assumption) : DS X W (.Assign [.Name x pos'] e pos) (setS i m) := by
  refine ⟨⟨fun pins s st H D0 I q => (ps_set hN hi hx he.pe hs hf).run pins s st H D0 I ?_⟩⟩
  obtain ⟨ro, sd, M, R, S, P⟩ := q
  refine ⟨ro, sd, M, R, S, (PostS.ofE P S).imp fun x H1 ⟨ro1, M1, d, R1, P1, r1, q1⟩ => ?_⟩
  exact q1 ro1 H1 _ R1 (Pres.refl _ _) ((S.mono P1).set r1)
theorem ds_expr (he : DE X W e m) (hs : swapsWith e none pos.line X.env = pure false := by rfl) : DS X W (.Expr e pos) (exprS m) := by
  refine ⟨⟨fun pins s st H D0 I q => (ps_expr he.pe hs).run pins s st H D0 I ?_⟩⟩
  obtain ⟨ro, sd, M, R, S, P⟩ := q
  refine ⟨ro, sd, M, R, S, (PostS.ofE P S).imp fun x H1 ⟨ro1, M1, d, R1, P1, r1, q1⟩ => ?_⟩
  exact q1 ro1 H1 _ R1 (Pres.refl _ _) (S.mono P1)
theorem ds_ret (he : DE X W e m) : DS X W (.Return (some e) pos) (retS m) := by
  refine ⟨⟨fun pins s st H D0 I q => (ps_ret he.pe).run pins s st H D0 I ?_⟩⟩
  obtain ⟨ro, sd, M, R, S, P⟩ := q
  refine ⟨ro, sd, M, R, S, (PostS.ofE P S).imp fun x H1 ⟨ro1, M1, d, R1, P1, r1, q1⟩ => ?_⟩
  exact q1 ro1 H1 _ R1 (Pres.refl _ _) r1
theorem ds_if {A B : List Stmt} (hc : DT X W c tc) (ha : DSs X W A sa) (hb : DSs X W B sb) : DS X W (.If c A B pos) (ifS tc sa sb) := by
  refine ⟨⟨fun pins s st H D0 I q => (ps_if hc.pt ha.ps hb.ps).run pins s st H D0 I ?_⟩⟩
  obtain ⟨ro, sd, M, R, S, P⟩ := q
  refine ⟨ro, sd, M, R, S, (PostS.ofE P S).imp fun x H1 ⟨ro1, M1, d, R1, P1, r1, q1⟩ => ?_⟩
  subst r1
  cases x with
  | true => rw [if_pos rfl] at q1 ⊢; exact ⟨ro1, sd, M1, R1, S.mono P1, q1⟩
  | false => rw [if_neg Bool.false_ne_true] at q1 ⊢; exact ⟨ro1, sd, M1, R1, S.mono P1, q1⟩
end
structure ItD where
  ds : List D
  chk : MS → Prop
/-- J walks it, from the heap H on -/
def IterOk (K : PySem.W.Frag) (mg : Str → Option Value) (ro : Pl) (H : Hp) (it : ItD) (J : It) : Prop :=
  ∀ (ro' : Pl) (H' : Hp) (M' : MS), RelS K mg ro' M' H' → PresW ro H ro' H' → it.chk M' →
    J.stop it.ds.length H' ∧ ∀ (i : Nat) (d : D), it.ds[i]? = some d → J.go i H' ∧ ∀ x H'', J.yld i H' x H'' → (∀ a o, H' a = some o → H'' a = some o) ∧ Rep K mg ro' H'' d x
abbrev MI := SD → MS → Res ItD
def liftI (K : PySem.W.Frag) (mg : Str → Option Value) (W : WX) (m : MI) : TI := fun st H Q => ∃ ro sd M, RelS K mg ro M H ∧ RepSt K mg ro H sd st ∧ Post (fun ro' H' it J => IterOk K mg ro' H' it J) K mg (fun c d H' => W c d st H') ro H Q (m sd M)
structure DI (X : Cx) (W : WX) (tg iter : Expr) (m : MI) : Prop where
  pi : PI X tg iter (liftI X.K X.mg W m)
abbrev MG := D → SD → Option SD
def liftG (K : PySem.W.Frag) (mg : Str → Option Value) (g : MG) (ix : List Nat) : TG := fun v st H Q => ∃ ro sd M d, RelS K mg ro M H ∧ RepSt K mg ro H sd st ∧ Rep K mg ro H d v ∧ ∃ sd', g d sd = some sd' ∧
  ∀ st', RepSt K mg ro H sd' st' → (∀ vs : List Nat, (∀ i, i ∈ ix → i ∈ vs) → wipe st' vs = wipe st vs) → Q st' H
structure DG (X : Cx) (tg : Expr) (g : MG) (ix : List Nat) : Prop where
  pg : PG X tg (liftG X.K X.mg g ix)
theorem wipe_get (st : St) : ∀ (vs : List Nat) (j : Nat), (wipe st vs)[j]? = if j ∈ vs ∧ j < st.length then some none else st[j]?
  | [], j => by simp [wipe]
  | v :: vs, j => by
    unfold wipe
    have ih := wipe_get st vs j
    have hl := wipe_length st vs
    by_cases h : v = j
    · subst h
      by_cases hv : v < st.length
      · rw [List.getElem?_set_self (by rw [hl]; exact hv), if_pos ⟨List.mem_cons_self, hv⟩]
      · rw [List.getElem?_eq_none (by rw [List.length_set, hl]; omega), if_neg (fun z => hv z.2), List.getElem?_eq_none (by omega)]
    · rw [List.getElem?_set_ne h, ih]
      have : (j ∈ v :: vs) ↔ (j ∈ vs) := by simp [Ne.symm h]
      simp only [this]
theorem wipe_set (st : St) {i : Nat} {x : Option V} {vs : List Nat} (h : i ∈ vs) : wipe (st.set i x) vs = wipe st vs := by
  apply List.ext_getElem?
  intro j
  rw [wipe_get, wipe_get, List.length_set]
  by_cases hj : i = j
  · subst hj
    by_cases hl : i < st.length
    · rw [if_pos ⟨h, hl⟩, if_pos ⟨h, hl⟩]
    · rw [if_neg (fun z => hl z.2), if_neg (fun z => hl z.2), List.getElem?_eq_none (by rw [List.length_set]; omega), List.getElem?_eq_none (by omega)]
  · rw [List.getElem?_set_ne hj]
def nameG (i : Nat) : MG := fun d sd => some (sd.set i (some d))
open Classical in
noncomputable def forGo (chk : MS → Prop) (g : MG) (body : MST) : List D → SD → MS → SRes
  | [], sd, M => if chk M then .nx sd M else .stuck
  | d :: r, sd, M => if chk M then (match g d sd with
    | none => .stuck
    | some sd1 => match body sd1 M with
      | .nx sd2 M2 => forGo chk g body r sd2 M2
      | .ct sd2 M2 => forGo chk g body r sd2 M2
      | .brk sd2 M2 => .nx sd2 M2
      | .ret v M2 => .ret v M2
      | .exc C ns ds sd2 M2 => .exc C ns ds sd2 M2
      | .stuck => .stuck) else .stuck
noncomputable def forS (it : MI) (g : MG) (body : MST) : MST := fun sd M => SRes.ofE (it sd M) sd fun i M1 => forGo i.chk g body i.ds sd M1
section
variable {X : Cx} {W : WX} {tg iter : Expr} {pos : Pos} {body : List Stmt} {mi : MI} {g : MG} {ix : List Nat} {sb : MST} {c : Expr} {tc : MB}
theorem ds_for (cx : Ctx X W) (hi : DI X W tg iter mi) (hg : DG X tg g ix) (hb : DSs X W body sb) (hs : ∀ x, foldedSetIterable iter X.env x = pure x := by intro _; rfl) : DS X W (.For tg iter body [] pos) (forS mi g sb) := by
  refine ⟨⟨fun pins s st H D0 I q => (ps_for cx.po cx.calm hi.pi hg.pg hb.ps hs).run pins s st H D0 I ?_⟩⟩
  obtain ⟨ro, sd, M, R, S, P⟩ := q
  refine ⟨ro, sd, M, R, S, (PostS.ofE P S).imp fun J H1 ⟨ro1, M1, it, R1, P1, J1, q1⟩ => ?_⟩
  -- the invariant: what is left of the run
  refine ⟨fun i m st' H' => m = it.ds.length - i ∧ i ≤ it.ds.length ∧ ∃ ro' sd' M', RelS X.K X.mg ro' M' H' ∧ RepSt X.K X.mg ro' H' sd' st' ∧ Pres ro1 H1 ro' H' ∧ PostS X.K X.mg W ro' H' D0 (forGo it.chk g sb (it.ds.drop i) sd' M'),
    ⟨_, rfl, Nat.zero_le _, ro1, sd, M1, R1, S.mono P1, Pres.refl _ _, q1⟩, ?_⟩
  rintro i m st' H' ⟨rfl, hle, ro', sd', M', R', S', P', q'⟩
  by_cases hlt : i < it.ds.length
  · have hd : it.ds.drop i = it.ds[i] :: it.ds.drop (i + 1) := List.drop_eq_getElem_cons hlt
    rw [hd] at q'
    unfold forGo at q'
    by_cases hc : it.chk M'
    · rw [if_pos hc] at q'
      obtain ⟨_, hJ⟩ := J1 ro' H' M' R' P'.w hc
      obtain ⟨hgo, hy⟩ := hJ i _ (List.getElem?_eq_getElem hlt)
      refine .inr ⟨hgo, fun st2 H2 => ∃ ro2 sd2 M2, RelS X.K X.mg ro2 M2 H2 ∧ RepSt X.K X.mg ro2 H2 sd2 st2 ∧ Pres ro1 H1 ro2 H2 ∧ PostS X.K X.mg W ro2 H2 D0 (forGo it.chk g sb (it.ds.drop (i + 1)) sd2 M2),
        fun st2 H2 ⟨ro2, sd2, M2, R2, S2, P2, q2⟩ => ⟨it.ds.length - (i + 1), by omega, rfl, hlt, ro2, sd2, M2, R2, S2, P2, q2⟩, fun x H'' y => ?_⟩
      obtain ⟨hgrow, hrep⟩ := hy x H'' y
      obtain ⟨R'', P''⟩ := R'.grow hgrow
      cases hgd : g it.ds[i] sd' with
      | none => rw [hgd] at q'; exact q'.elim
      | some sd1 =>
        rw [hgd] at q'
        refine ⟨ro', sd', M', _, R'', S'.mono P'', hrep, sd1, hgd, fun st1 S1 _ => ?_⟩
        refine ⟨ro', sd1, M', R'', S1, ?_⟩
        have q' := q'
        dsimp only at q'
        cases hbd : sb sd1 M' with
        | nx sd2 M2 => rw [hbd] at q'; exact fun ro2 H2 st2 R2 P2 S2 => ⟨ro2, sd2, M2, R2, S2, (P'.trans P'').trans P2, PostS.moves q' (P''.trans P2)⟩
        | ct sd2 M2 => rw [hbd] at q'; exact fun ro2 H2 st2 R2 P2 S2 => ⟨ro2, sd2, M2, R2, S2, (P'.trans P'').trans P2, PostS.moves q' (P''.trans P2)⟩
        | brk sd2 M2 => rw [hbd] at q'; exact fun ro2 H2 st2 R2 P2 S2 => q' ro2 H2 st2 R2 (P''.trans P2) S2
        | ret v M2 => rw [hbd] at q'; exact fun ro2 H2 st2 R2 P2 S2 => q' ro2 H2 st2 R2 (P''.trans P2) S2
        | exc C ns ds sd2 M2 => rw [hbd] at q'; exact fun ro2 H2 st2 cls dd R2 P2 S2 r => q' ro2 H2 st2 cls dd R2 (P''.trans P2) S2 r
        | stuck => rw [hbd] at q'; exact q'
    · rw [if_neg hc] at q'; exact q'.elim
  · have e : i = it.ds.length := by omega
    subst e
    rw [List.drop_length] at q'
    unfold forGo at q'
    by_cases hc : it.chk M'
    · rw [if_pos hc] at q'
      exact .inl ⟨(J1 ro' H' M' R' P'.w hc).1, q' ro' H' st' R' (Pres.refl _ _) S'⟩
    · rw [if_neg hc] at q'; exact q'.elim
/-- targets -/
theorem dg_name {i : Nat} {x : Str} (hN : X.N.Nodup) (hi : X.N[i]? = some x := by rfl) (hx : Loc X.env.scope x := by first | exact Or.inl rfl | exact Or.inr rfl) (hf : X.fn x = true ∨ X.env.scope.names.lookup x = some .local := by first | exact .inl rfl | exact .inr rfl | assumption) : DG X (.Name x pos) (nameG i) [i] := by
  refine ⟨⟨fun pins s st H v u Q I r h => (pg_name hN hi hx hf).run pins s st H v u Q I r ?_⟩⟩
  obtain ⟨ro, sd, M, d, R, S, rd, sd', e, q⟩ := h
  cases e
  exact q _ (S.set rd) fun vs h => wipe_set st (h i List.mem_cons_self)
end
abbrev FM := List D → MS → Res D
/-- a def's promise by its function over data -/
def spD (K : PySem.W.Frag) (mg : Str → Option Value) (n : Nat) (F : FM) : Sp := fun vs H Q E => vs.length = n ∧ ∃ ro ds M, RelS K mg ro M H ∧ Reps K mg ro H ds vs ∧ PostD K mg E ro H Q (F ds M)
def startD (n : Nat) (ds : List D) : SD := ds.map some ++ List.replicate (n - ds.length) none
/-- a body's end as a call's end -/
def SRes.res : SRes → Res D
  | .nx _ M => .ok .non M
  | .ret d M => .ok d M
  | .exc C ns ds _ M => .exc C ns ds M
  | _ => .stuck
def runD (n : Nat) (body : MST) : FM := fun ds M => (body (startD n ds) M).res
theorem repSt_start {K : PySem.W.Frag} {mg : Str → Option Value} {ro : Pl} {H : Hp} {ds : List D} {vs : List V} {N : List Str} (r : Reps K mg ro H ds vs) : RepSt K mg ro H (startD N.length ds) (L2.start N vs) := by
  have hl := r.len
  refine ⟨by simp [startD, L2.start, hl], fun i d e => ?_⟩
  unfold startD at e
  by_cases hi : i < ds.length
  · rw [List.getElem?_append_left (by simpa using hi), List.getElem?_map] at e
    cases q : ds[i]? with
    | none => rw [q] at e; cases e
    | some x =>
      rw [q] at e; cases e
      obtain ⟨v, hv, rv⟩ := r.get q
      refine ⟨v, ?_, rv⟩
      unfold L2.start
      rw [List.getElem?_append_left (by simpa [← hl] using hi), List.getElem?_map, hv]
      rfl
  · rw [List.getElem?_append_right (by simpa using hi), List.getElem?_replicate] at e
    split at e <;> cases e
section
variable {P : Program} {w : World} {K : PySem.W.Frag} {mg : Str → Option Value} {base : Heap}
abbrev DOk (P : Program) (w : World) (K : PySem.W.Frag) (mg : Str → Option Value) (base : Heap) (k : Nat) (f : Addr) (fd : FuncData) (ps : List Str) (F : FM) : Prop :=
  FnOk P w K mg base (L2.CX P w) k f fd ps (spD K mg ps.length F)
end
end DL
namespace DL
open PySem PySem.Spec L2
open PyProof.Rows hiding St
variable [HashW]
section
variable {X : Cx}
theorem OpS.or {fv : Value → Value → Sem Value} {f g : D → D → MS → Res D} (hf : OpS X fv f) (hg : OpS X fv g) (h : D → D → MS → Bool) : OpS X fv (fun d e M => if h d e M = true then f d e M else g d e M) := by
  obtain ⟨r, h1, h2⟩ := hf
  obtain ⟨r', h1', h2'⟩ := hg
  refine ⟨_, OpR.or h1 h1', fun ro H M d e x y E Q R rx ry P => ?_⟩
  dsimp only at P
  by_cases hc : h d e M = true
  · rw [if_pos hc] at P; exact .inl (h2 ro H M d e x y E Q R rx ry P)
  · rw [if_neg hc] at P; exact .inr (h2' ro H M d e x y E Q R rx ry P)
theorem opS_int {fv : Value → Value → Sem Value} {C : Int → Int → Prop} {k : Int → Int → D} {kv : Int → Int → V} (ho : OpR X fv (rI C kv)) (hk : ∀ i j ro H, Rep X.K X.mg ro H (k i j) (kv i j)) {f : D → D → MS → Res D}
    (hf : ∀ d e M, f d e M ≠ .stuck → ∃ i j, d = .int i ∧ e = .int j ∧ C i j ∧ f d e M = .ok (k i j) M) : OpS X fv f := by
  refine ⟨_, ho, fun ro H M d e x y E Q R rx ry P => ?_⟩
  obtain ⟨i, j, rfl, rfl, hc, ef⟩ := hf d e M fun z => by rw [z] at P; exact P
  rw [ef] at P
  cases (show x = V.int i from rx)
  cases (show y = V.int j from ry)
  exact ⟨i, j, rfl, rfl, hc, PostD.pure R (hk i j ro H) P⟩
theorem opS_int0 {fv : Value → Value → Sem Value} {k : Int → Int → D} {kv : Int → Int → V} (ho : OpR X fv (rI0 kv)) (hk : ∀ i j ro H, Rep X.K X.mg ro H (k i j) (kv i j)) {f : D → D → MS → Res D}
    (hf : ∀ d e M, f d e M ≠ .stuck → ∃ i j, d = .int i ∧ e = .int j ∧ f d e M = .ok (k i j) M) : OpS X fv f := by
  refine ⟨_, ho, fun ro H M d e x y E Q R rx ry P => ?_⟩
  obtain ⟨i, j, rfl, rfl, ef⟩ := hf d e M fun z => by rw [z] at P; exact P
  rw [ef] at P
  cases (show x = V.int i from rx)
  cases (show y = V.int j from ry)
  exact ⟨i, j, rfl, rfl, PostD.pure R (hk i j ro H) P⟩
end
def isI2 : D → D → MS → Bool := fun d e _ => match d, e with
  | .int _, .int _ => true
  | _, _ => false
def isS2 : D → D → MS → Bool := fun d e _ => match d, e with
  | .str _, .str _ => true
  | _, _ => false
def isT2 : D → D → MS → Bool := fun d e _ => match d, e with
  | .tup _, .tup _ => true
  | _, _ => false
def addI (d e : D) (M : MS) : Res D := match d, e with
  | .int i, .int j => .ok (.int (i + j)) M
  | _, _ => .stuck
def addS (d e : D) (M : MS) : Res D := match d, e with
  | .str x, .str y => if x.length + y.length ≤ 1000000 then .ok (.str (x ++ y)) M else .stuck
  | _, _ => .stuck
def addL (d e : D) (M : MS) : Res D := match lstOf M d, lstOf M e with
  | some xs, some ys => if xs.length + ys.length ≤ 1000000 then .ok (.lst (xs ++ ys)) M else .stuck
  | _, _ => .stuck
def addT (d e : D) (M : MS) : Res D := match d, e with
  | .tup xs, .tup ys => if xs.length + ys.length ≤ 1000000 then .ok (.tup (xs ++ ys)) M else .stuck
  | _, _ => .stuck
def addD : D → D → MS → Res D := fun d e M => if isI2 d e M = true then addI d e M else if isS2 d e M = true then addS d e M else if isT2 d e M = true then addT d e M else addL d e M
theorem Str.tx_append (x y : List Nat) : tx x ++ tx y = tx (x ++ y) := by
  show (⟨x.toArray ++ y.toArray⟩ : Str) = ⟨(x ++ y).toArray⟩
  simp
section
variable {X : Cx}
theorem opS_addI : OpS X (binaryOp .Add) addI := opS_int0 (k := fun i j => .int (i + j)) op_add (fun _ _ _ _ => rfl) fun d e M h => by
  cases d <;> cases e <;> first | exact absurd rfl h | exact ⟨_, _, rfl, rfl, rfl⟩
theorem opS_addS : OpS X (binaryOp .Add) addS := by
  refine ⟨_, op_add_str, fun ro H M d e x y E Q R rx ry P => ?_⟩
  cases d <;> cases e <;> try exact P.elim
  rename_i a b
  cases (show x = V.str (tx a) from rx)
  cases (show y = V.str (tx b) from ry)
  simp only [addS] at P
  split at P
  · rename_i hl
    refine ⟨_, _, rfl, rfl, by simp only [Str.length, List.size_toArray]; exact line_le hl, ?_⟩
    rw [Str.tx_append]
    exact PostD.pure (d := .str (a ++ b)) R rfl P
  · exact P.elim
theorem opS_addL : OpS X (binaryOp .Add) addL := by
  refine ⟨_, op_cat, fun ro H M d e x y E Q R rx ry P => ?_⟩
  unfold addL at P
  split at P
  · rename_i xs ys h1 h2
    obtain ⟨a, vs, rfl, ha, qa⟩ := lst_of R rx h1
    obtain ⟨b, ws, rfl, hb, qb⟩ := lst_of R ry h2
    split at P
    · rename_i hl
      exact ⟨a, b, vs, ws, rfl, rfl, ha, hb, by rw [← qa.len, ← qb.len]; exact line_le hl, PostD.newL R (qa.append qb) P⟩
    · exact P.elim
  · exact P.elim
theorem opS_addT : OpS X (binaryOp .Add) addT := by
  refine ⟨_, op_catA, fun ro H M d e x y E Q R rx ry P => ?_⟩
  cases d <;> cases e <;> try exact P.elim
  rename_i xs ys
  obtain ⟨a, vs, rfl, ha, qa⟩ := id rx
  obtain ⟨b, ws, rfl, hb, qb⟩ := id ry
  simp only [addT] at P
  split at P
  · rename_i hl
    refine ⟨a, b, vs, ws, rfl, rfl, ha.sq, hb.sq, by rw [← qa.len, ← qb.len]; exact line_le hl, fun e => ?_, fun _ e => ?_, fun _ _ => PostD.newT R (qa.append qb) P⟩
    · have : xs = [] := by have := qa.len; rw [e] at this; simpa using this
      subst this
      exact PostD.pure R ry P
    · have : ys = [] := by have := qb.len; rw [e] at this; simpa using this
      subst this
      rw [List.append_nil] at P
      exact PostD.pure R rx P
  · exact P.elim
theorem opS_add : OpS X (binaryOp .Add) addD := OpS.or opS_addI (OpS.or opS_addS (OpS.or opS_addT opS_addL isT2) isS2) isI2
end
def subI (d e : D) (M : MS) : Res D := match d, e with
  | .int i, .int j => .ok (.int (i - j)) M
  | _, _ => .stuck
def mulI (d e : D) (M : MS) : Res D := match d, e with
  | .int i, .int j => if (-(2 ^ 64) < i ∧ i < 2 ^ 64) ∨ (-(2 ^ 64) < j ∧ j < 2 ^ 64) then .ok (.int (i * j)) M else .stuck
  | _, _ => .stuck
def mulL (d e : D) (M : MS) : Res D := match lstOf M d, e with
  | some xs, .int k => if -1000 ≤ k ∧ k ≤ 1000 ∧ xs.length * k.toNat ≤ 1000000 then .ok (.lst (List.replicate k.toNat xs).flatten) M else .stuck
  | _, _ => .stuck
def fdivI (d e : D) (M : MS) : Res D := match d, e with
  | .int i, .int j => if 0 < j ∧ j < 1073741824 then .ok (.int (i / j)) M else .stuck
  | _, _ => .stuck
def modI (d e : D) (M : MS) : Res D := match d, e with
  | .int i, .int j => if 0 < j then .ok (.int (i % j)) M else .stuck
  | _, _ => .stuck
def powI (d e : D) (M : MS) : Res D := match d, e with
  | .int i, .int j => if 0 ≤ j ∧ j ≤ 1000000 ∧ i.natAbs < 2 ^ 64 then .ok (.int (i ^ j.toNat)) M else .stuck
  | _, _ => .stuck
def mulD : D → D → MS → Res D := fun d e M => if isI2 d e M = true then mulI d e M else mulL d e M
section
variable {X : Cx}
theorem opS_sub : OpS X (binaryOp .Sub) subI := opS_int0 (k := fun i j => .int (i - j)) op_sub (fun _ _ _ _ => rfl) fun d e M h => by
  cases d <;> cases e <;> first | exact absurd rfl h | exact ⟨_, _, rfl, rfl, rfl⟩
theorem opS_mulI : OpS X (binaryOp .Mult) mulI := opS_int (k := fun i j => .int (i * j)) op_mul (fun _ _ _ _ => rfl) fun d e M h => by
  cases d <;> cases e <;> try exact absurd rfl h
  simp only [mulI] at h ⊢
  split at h
  · rename_i c; exact ⟨_, _, rfl, rfl, c, if_pos c⟩
  · exact absurd rfl h
theorem opS_mulL : OpS X (binaryOp .Mult) mulL := by
  refine ⟨_, op_rep, fun ro H M d e x y E Q R rx ry P => ?_⟩
  unfold mulL at P
  split at P
  · rename_i xs k h1
    obtain ⟨a, vs, rfl, ha, qa⟩ := lst_of R rx h1
    cases (show y = V.int k from ry)
    split at P
    · rename_i hl
      exact ⟨a, k, vs, rfl, rfl, ha, by omega, by omega, by rw [← qa.len]; exact line_le hl.2.2, PostD.newL R (qa.flatten_replicate _) P⟩
    · exact P.elim
  · exact P.elim
theorem opS_mul : OpS X (binaryOp .Mult) mulD := OpS.or opS_mulI opS_mulL isI2
theorem opS_fdiv : OpS X (binaryOp .FloorDiv) fdivI := opS_int (k := fun i j => .int (i / j)) op_fdiv (fun _ _ _ _ => rfl) fun d e M h => by
  cases d <;> cases e <;> try exact absurd rfl h
  simp only [fdivI] at h ⊢
  split at h
  · rename_i c; exact ⟨_, _, rfl, rfl, c, if_pos c⟩
  · exact absurd rfl h
theorem opS_mod : OpS X (binaryOp .Mod) modI := opS_int (k := fun i j => .int (i % j)) op_mod (fun _ _ _ _ => rfl) fun d e M h => by
  cases d <;> cases e <;> try exact absurd rfl h
  simp only [modI] at h ⊢
  split at h
  · rename_i c; exact ⟨_, _, rfl, rfl, c, if_pos c⟩
  · exact absurd rfl h
theorem opS_pow : OpS X (binaryOp .Pow) powI := opS_int (k := fun i j => .int (i ^ j.toNat)) op_pow (fun _ _ _ _ => rfl) fun d e M h => by
  cases d <;> cases e <;> try exact absurd rfl h
  simp only [powI] at h ⊢
  split at h
  · rename_i c; exact ⟨_, _, rfl, rfl, c, if_pos c⟩
  · exact absurd rfl h
end
def cmpI (p : Int → Int → Bool) (d e : D) (M : MS) : Res D := match d, e with
  | .int i, .int j => .ok (.bl (p i j)) M
  | _, _ => .stuck
def cmpT (p : List Nat → List Nat → Bool) (d e : D) (M : MS) : Res D := match d, e with
  | .str x, .str y => .ok (.bl (p x y)) M
  | _, _ => .stuck
def ltD : D → D → MS → Res D := fun d e M => if isI2 d e M = true then cmpI (fun i j => decide (i < j)) d e M else cmpT (fun x y => decide (x < y)) d e M
def geD : D → D → MS → Res D := fun d e M => if isI2 d e M = true then cmpI (fun i j => decide (j ≤ i)) d e M else cmpT (fun x y => !decide (x < y)) d e M
section
variable {X : Cx}
theorem opS_cmpI {op : CmpOp} {p : Int → Int → Bool} (ho : OpR X (compareOp op) (rI0 fun i j => .bl (p i j))) : OpS X (compareOp op) (cmpI p) := opS_int0 (k := fun i j => .bl (p i j)) ho (fun _ _ _ _ => rfl) fun d e M h => by
  cases d <;> cases e <;> first | exact absurd rfl h | exact ⟨_, _, rfl, rfl, rfl⟩
theorem opS_cmpT {op : CmpOp} {p : List Nat → List Nat → Bool} (ho : OpR X (compareOp op) (fun x y H Q => ∃ i j, x = .str i ∧ y = .str j ∧ Q (.bl (p i.cps.toList j.cps.toList)) H)) : OpS X (compareOp op) (cmpT p) := by
  refine ⟨_, ho, fun ro H M d e x y E Q R rx ry P => ?_⟩
  cases d <;> cases e <;> try exact P.elim
  rename_i a b
  cases (show x = V.str (tx a) from rx)
  cases (show y = V.str (tx b) from ry)
  exact ⟨_, _, rfl, rfl, PostD.pure (d := .bl (p a b)) R rfl P⟩
theorem opS_lt : OpS X (compareOp .Lt) ltD := OpS.or (opS_cmpI op_lt) (opS_cmpT op_lt_str) isI2
theorem opS_ge : OpS X (compareOp .GtE) geD := OpS.or (opS_cmpI op_ge) (opS_cmpT op_ge_str) isI2
end
def ixD (o i : D) (M : MS) : Res D := match i with
  | .int k => (match o with
    | .str x => if x.length ≤ 1000000 then (match atI x k with
      | some c => .ok (.str [c]) M
      | none => .stuck) else .stuck
    | _ => match seqOf M o with
      | some ds => (match atI ds k with
        | some d => .ok d M
        | none => .stuck)
      | none => .stuck)
  | _ => .stuck
theorem Reps.atI {K : PySem.W.Frag} {mg : Str → Option Value} {ro : Pl} {H : Hp} {ds : List D} {vs : List V} {k : Int} {d : D} (h : Reps K mg ro H ds vs) (e : L2.atI ds k = some d) : ∃ v, L2.atI vs k = some v ∧ Rep K mg ro H d v := by
  unfold L2.atI at e ⊢
  rw [← h.len]
  cases q : ixN ds.length k with
  | none => rw [q] at e; cases e
  | some j =>
    rw [q] at e
    exact h.get e
section
variable {X : Cx}
theorem ixS_any : IxS X ixD := by
  refine ⟨_, ix_seq, fun ro H M d e x y E Q R rx ry P => ?_⟩
  cases e <;> try exact P.elim
  rename_i k
  cases (show y = V.int k from ry)
  unfold ixD at P
  dsimp only at P
  split at P
  · rename_i z
    cases (show x = V.str (tx z) from rx)
    split at P
    · rename_i hl
      split at P
      · rename_i c hc
        refine .inr (.inr ⟨tx z, k, c, rfl, rfl, by simp only [Str.length, List.size_toArray]; exact line_le hl, hc, ?_⟩)
        exact PostD.pure (d := .str [c]) R rfl P
      · exact P.elim
    · exact P.elim
  · split at P
    · rename_i ds hs
      split at P
      · rename_i g hg
        obtain ⟨a, vs, rfl, ha, q⟩ := seq_of R rx hs
        obtain ⟨v, hv, rv⟩ := q.atI hg
        rcases ha with ha | ha
        · exact .inl ⟨a, vs, k, v, rfl, rfl, ha, hv, PostD.pure R rv P⟩
        · exact .inr (.inl ⟨a, vs, k, v, rfl, rfl, ha, hv, PostD.pure R rv P⟩)
      · exact P.elim
    · exact P.elim
end
def lenF (ds : List D) (M : MS) : Res D := match ds with
  | [.str x] => if x.length ≤ 1000000 then .ok (.int x.length) M else .stuck
  | [.cell n] => (match M[n]? with
    | some (.lst es) => .ok (.int es.length) M
    | some (.dic ks _) => .stuck
    | _ => .stuck)
  | [d] => (match seqOf M d with
    | some es => .ok (.int es.length) M
    | none => .stuck)
  | _ => .stuck
def absF (ds : List D) (M : MS) : Res D := match ds with
  | [.int i] => .ok (.int (if i < 0 then -i else i)) M
  | _ => .stuck
def intF (ds : List D) (M : MS) : Res D := match ds with
  | [.int i] => .ok (.int i) M
  | [.bl k] => .ok (.int (if k then 1 else 0)) M
  | _ => .stuck
theorem reps1 {K : PySem.W.Frag} {mg : Str → Option Value} {ro : Pl} {H : Hp} {d : D} {vs : List V} (h : Reps K mg ro H [d] vs) : ∃ v, vs = [v] ∧ Rep K mg ro H d v := by
  obtain ⟨v, r, rfl, q, t⟩ := h
  cases (show r = [] from t)
  exact ⟨v, rfl, q⟩
theorem reps2 {K : PySem.W.Frag} {mg : Str → Option Value} {ro : Pl} {H : Hp} {d e : D} {vs : List V} (h : Reps K mg ro H [d, e] vs) : ∃ v w, vs = [v, w] ∧ Rep K mg ro H d v ∧ Rep K mg ro H e w := by
  obtain ⟨v, r, rfl, q, t⟩ := h
  obtain ⟨w, rfl, q'⟩ := reps1 t
  exact ⟨v, w, rfl, q, q'⟩
section
variable {X : Cx}
theorem callS_len : CallS X (.builtin "len") lenF := by
  refine ⟨_, call_len, fun ro H M ds xs E Q R rs P => ?_⟩
  have seqs : ∀ (d : D) (es : List D), ds = [d] → seqOf M d = some es → PostD X.K X.mg E ro H Q (.ok (.int es.length) M) → ∃ x n, xs = [x] ∧ LenV X.K x H n ∧ Q (.int n) H := fun d es hd he P' => by
    subst hd
    obtain ⟨v, rfl, q⟩ := reps1 rs
    obtain ⟨a, vs, rfl, ha, q'⟩ := seq_of R q he
    refine ⟨_, vs.length, rfl, ?_, by rw [← q'.len]; exact PostD.pure (d := .int es.length) R rfl P'⟩
    rcases ha with ha | ha
    · exact .inl ⟨vs, ha, rfl⟩
    · exact .inr ⟨vs, ha, rfl⟩
  unfold lenF at P
  split at P
  · rename_i x
    obtain ⟨v, rfl, q⟩ := reps1 rs
    cases (show v = V.str (tx x) from q)
    split at P
    · rename_i hl
      exact ⟨_, x.length, rfl, ⟨by simp only [Str.length, List.size_toArray]; exact line_le hl, by simp [Str.length]⟩, PostD.pure (d := .int x.length) R rfl P⟩
    · exact P.elim
  · rename_i n
    split at P
    · rename_i es hm
      exact seqs _ es rfl (by simp [seqOf, hm]) P
    · exact P.elim
    · exact P.elim
  · rename_i d _ _
    split at P
    · rename_i es he
      exact seqs d es rfl he P
    · exact P.elim
  · exact P.elim
theorem callS_abs : CallS X (.builtin "abs") absF := by
  refine ⟨_, call_abs, fun ro H M ds xs E Q R rs P => ?_⟩
  unfold absF at P
  split at P
  · obtain ⟨v, rfl, q⟩ := reps1 rs
    cases (show v = V.int _ from q)
    exact ⟨_, rfl, PostD.pure (d := .int _) R rfl P⟩
  · exact P.elim
theorem callS_int : CallS X (.type "int") intF := by
  refine ⟨_, call_int1, fun ro H M ds xs E Q R rs P => ?_⟩
  unfold intF at P
  split at P
  · obtain ⟨v, rfl, q⟩ := reps1 rs
    cases (show v = V.int _ from q)
    exact .inl ⟨_, rfl, PostD.pure (d := .int _) R rfl P⟩
  · obtain ⟨v, rfl, q⟩ := reps1 rs
    cases (show v = V.bl _ from q)
    exact .inr ⟨_, rfl, PostD.pure (d := .int _) R rfl P⟩
  · exact P.elim
end
end DL
namespace DL
open PySem PySem.Spec L2
open PyProof.Rows hiding St
variable [HashW]
def itD (M : MS) (d : D) : Option ItD := match d with
  | .str x => some ⟨x.map fun c => .str [c], fun _ => True⟩
  | .tup ds => some ⟨ds, fun _ => True⟩
  | .lst ds => some ⟨ds, fun _ => True⟩
  | .flst ds => some ⟨ds, fun _ => True⟩
  | .cell n => match M[n]? with
    | some (.lst ds) => some ⟨ds, fun M' => M'[n]? = some (.lst ds)⟩
    | _ => none
  | _ => none
def anyI (m : ME) : MI := fun sd M => (m sd M).bind fun d M1 => match itD M1 d with
  | some it => .ok it M1
  | none => .stuck
def isTup : D → Bool
  | .tup _ => true
  | _ => false
section
variable {K : PySem.W.Frag} {mg : Str → Option Value} {ro : Pl} {H : Hp} {M : MS}
theorem Reps.at_ {ds : List D} {vs : List V} (h : Reps K mg ro H ds vs) {i : Nat} {d : D} (e : ds[i]? = some d) {x : V} (ex : vs[i]? = some x) : Rep K mg ro H d x := by
  obtain ⟨v, hv, r⟩ := h.get e
  rw [ex] at hv; cases hv
  exact r
end
section
variable {X : Cx} {W : WX} {tg e : Expr} {m : ME}
theorem PI.or {X : Cx} {tg iter : Expr} {w w' : TI} (h : PI X tg iter w) (h' : PI X tg iter w') : PI X tg iter (fun st H R => w st H R ∨ w' st H R) :=
  ⟨fun pins s st H R I q => q.elim (h.run pins s st H R I) (h'.run pins s st H R I)⟩
def intsI (xs : List Int) : ItD := ⟨xs.map D.int, fun _ => True⟩
theorem iterOk_ints {K : PySem.W.Frag} {mg : Str → Option Value} {ro : Pl} {H : Hp} (lo c : Int) (n : Nat) : IterOk K mg ro H (intsI ((List.range n).map fun (k : Nat) => lo + k * c)) (Itc lo c n) := fun ro' H' M' R' P' _ => by
  refine ⟨by show n ≤ _; simp [intsI], fun i d hd => ⟨?_, fun y H'' hy => ?_⟩⟩
  · have := (List.getElem?_eq_some_iff.mp hd).1
    show i < n
    simpa [intsI] using this
  · obtain ⟨rfl, rfl⟩ := hy
    refine ⟨fun _ _ h => h, ?_⟩
    have hi := (List.getElem?_eq_some_iff.mp hd).1
    simp [intsI] at hi hd
    obtain ⟨w, hw, hd⟩ := hd
    rw [List.getElem?_range hi] at hw
    cases hw
    rw [← hd]
    rfl
theorem itr_itc (lo : Int) (n : Nat) : Itr lo n = Itc lo 1 n := by
  unfold Itr Itc
  simp
def rangeN (lo hi : Int) : List Int := (List.range (hi - lo).toNat).map fun (k : Nat) => lo + k * 1
def range1I (a : MA) : MI := fun sd M => (a sd M).bind fun ds M1 => match ds with
  | [.int j] => if -1000000000 ≤ j ∧ j ≤ 1000000000 then .ok (intsI (rangeN 0 j)) M1 else .stuck
  | _ => .stuck
def range2I (a : MA) : MI := fun sd M => (a sd M).bind fun ds M1 => match ds with
  | [.int i, .int j] => if -1000000000 ≤ i ∧ i ≤ 1000000000 ∧ -1000000000 ≤ j ∧ j ≤ 1000000000 then .ok (intsI (rangeN i j)) M1 else .stuck
  | _ => .stuck
/-- steps upward -/
def rangeC (lo hi c : Int) : List Int := (List.range (if lo < hi then ((hi - lo - 1) / c + 1).toNat else 0)).map fun (k : Nat) => lo + k * c
def range3I (a : MA) : MI := fun sd M => (a sd M).bind fun ds M1 => match ds with
  | [.int i, .int j, .int c] => if -1000000000 ≤ i ∧ i ≤ 1000000000 ∧ -1000000000 ≤ j ∧ j ≤ 1000000000 ∧ 0 < c ∧ c ≤ 1000000000 then .ok (intsI (rangeC i j c)) M1 else .stuck
  | _ => .stuck
theorem di_range1 {a : Expr} {p pos : Pos} {ma : MA} (hg : Gl X "range") (hm : X.mg "range" = none) (ha : DA X W [a] ma) (hs : starEach [a] X.env = [(false, eval a X.env)] := by rfl) : DI X W tg (.Call (.Name "range" p) [a] [] pos) (range1I ma) := by
  refine ⟨⟨fun pins s st H Q I q => (pi_range1 hg hm ha.pa hs).run pins s st H Q I ?_⟩⟩
  obtain ⟨ro, sd, M, R, S, P⟩ := q
  refine ⟨ro, sd, M, R, S, (Post.bind P).imp fun xs H1 ⟨ro1, M1, ds, R1, P1, r1, q1⟩ => ?_⟩
  split at q1
  · rename_i j
    obtain ⟨v, rfl, r⟩ := reps1 r1
    cases (show v = V.int j from r)
    split at q1
    · rename_i hj
      refine ⟨j, rfl, by omega, by omega, q1 ro1 H1 _ R1 (Pres.refl _ _) ?_⟩
      rw [itr_itc]
      have := iterOk_ints (K := X.K) (mg := X.mg) (ro := ro1) (H := H1) 0 1 (j - 0).toNat
      rw [Int.sub_zero] at this
      unfold rangeN
      rw [Int.sub_zero]
      exact this
    · exact q1.elim
  · exact q1.elim
end
def Res.ne {A : Type} : Res A → Res A
  | .ok a M => .ok a M
  | _ => .stuck
@[simp] theorem Res.ne_ok {A : Type} (a : A) (M : MS) : (Res.ok a M).ne = .ok a M := rfl
def yesB : MB := fun _ M => .ok true M
structure DTs (X : Cx) (W : WX) (ifs : List Expr) (m : MB) : Prop where
  pts : PTs X ifs (liftB X.K X.mg W m)
def wipeD (sd : SD) : List Nat → SD
  | [] => sd
  | v :: vs => (wipeD sd vs).set v none
open Classical in
noncomputable def lcGo (chk : MS → Prop) (g : MG) (tt : MB) (te : ME) (w : SD) : List D → List D → MS → Res (List D)
  | [], acc, M => if chk M then .ok acc M else .stuck
  | d :: r, acc, M => if chk M then (match g d w with
    | none => .stuck
    | some sd1 => (tt sd1 M).ne.bind fun b M1 => if b = true then (te sd1 M1).ne.bind fun y M2 => if acc.length < 1000000 then lcGo chk g tt te w r (acc ++ [y]) M2 else .stuck else lcGo chk g tt te w r acc M1) else .stuck
noncomputable def lcE (mi : MI) (g : MG) (tt : MB) (te : ME) (vs : List Nat) : ME := fun sd M => (mi sd M).bind fun it M1 => (lcGo it.chk g tt te (wipeD sd vs) it.ds [] M1).ne.bind fun ds M2 => .ok (.lst ds) M2
/-- the list will be changed -/
noncomputable def lcC (mi : MI) (g : MG) (tt : MB) (te : ME) (vs : List Nat) : ME := fun sd M => (mi sd M).bind fun it M1 => (lcGo it.chk g tt te (wipeD sd vs) it.ds [] M1).ne.bind fun ds M2 => .ok (.cell M2.length) (M2 ++ [.lst ds])
section
variable {K : PySem.W.Frag} {mg : Str → Option Value}
theorem RepSt.wipe {ro : Pl} {H : Hp} {sd : SD} {st : St} (h : RepSt K mg ro H sd st) : ∀ vs, RepSt K mg ro H (wipeD sd vs) (L2.wipe st vs)
  | [] => h
  | v :: vs => (RepSt.wipe h vs).unset
theorem Post.ne {A B : Type} {R : Pl → Hp → A → B → Prop} {E : XK} {ro : Pl} {H : Hp} {Q : B → Hp → Prop} {x : Res A} {A' B' : Type} {R' : Pl → Hp → A' → B' → Prop} {E' : XK} {Q' : B' → Hp → Prop} {k : A → MS → Res A'} (h : Post R' K mg E' ro H Q' (x.ne.bind k)) :
    Post R K mg E ro H (fun v H1 => ∃ ro1 M1 a, RelS K mg ro1 M1 H1 ∧ Pres ro H ro1 H1 ∧ R ro1 H1 a v ∧ Post R' K mg E' ro1 H1 Q' (k a M1)) x := by
  cases x with
  | ok a M => exact Post.bind (x := .ok a M) h
  | exc C ns ds M => exact h.elim
  | stuck => exact h.elim
/-- the places that are looked through, as they stand within a comprehension -/
structure Within (ro1 : Pl) (H1 : Hp) (p : Addr) (ro' : Pl) (H' : Hp) : Prop where
  hid : ro'.hid = p :: ro1.hid
  pre : ∃ t, ro'.ro = ro1.ro ++ t
  keep : ∀ a o, H1 a = some o → a ∉ ro1.ro → H' a = some o
  new : ∀ a, a ∈ ro'.ro → a ∈ ro1.ro ∨ H1 a = none
theorem Within.out {ro1 ro' : Pl} {H1 H' : Hp} {p : Addr} (w : Within ro1 H1 p ro' H') : Pres ro1 H1 ⟨ro'.ro, ro1.hid⟩ H' := ⟨w.pre, rfl, w.keep, w.new⟩
theorem Within.w {ro1 ro' : Pl} {H1 H' : Hp} {p : Addr} (w : Within ro1 H1 p ro' H') (hp : H1 p = none) : PresW ro1 H1 ro' H' := ⟨w.pre, fun a o h n => w.keep a o h (Pl.out_ro n), fun a h => by
  rcases List.mem_append.mp h with h | h
  · rcases w.new a h with z | z
    · exact .inl (List.mem_append_left _ z)
    · exact .inr z
  · rw [w.hid] at h
    rcases List.mem_cons.mp h with h | h
    · exact .inr (h ▸ hp)
    · exact .inl (List.mem_append_right _ h)⟩
theorem Within.step {ro1 ro' ro2 : Pl} {H1 H' H2 : Hp} {p : Addr} (w : Within ro1 H1 p ro' H') (q : Pres ro' H' ro2 H2) : Within ro1 H1 p ro2 H2 := by
  have t := Pres.trans (r0 := ro1) (H0 := H1) (r1 := ⟨ro'.ro, ro1.hid⟩) (H1 := H') (r2 := ⟨ro2.ro, ro1.hid⟩) (H2 := H2) w.out ⟨q.pre, rfl, q.keep, q.new⟩
  exact ⟨q.hid.trans w.hid, t.pre, t.keep, t.new⟩
theorem Within.put {ro1 ro' : Pl} {H1 H' : Hp} {p : Addr} {o : HO} (w : Within ro1 H1 p ro' H') (hp : H1 p = none) : Within ro1 H1 p ro' (upd H' p o) :=
  ⟨w.hid, w.pre, fun a u h hn => by rw [upd_ne (ne_of_none h hp)]; exact w.keep a u h hn, w.new⟩
theorem RelS.shown' {ro1 ro' : Pl} {p : Addr} {M : MS} {H : Hp} (R : RelS K mg ro' M H) (e : ro'.hid = p :: ro1.hid) : RelS K mg ⟨ro'.ro, ro1.hid⟩ M H :=
  ⟨R.len, R.nd, fun a ha => R.live a (by rw [e]; exact List.mem_cons_of_mem _ ha), fun a ha hb => R.dis a ha (by rw [e]; exact List.mem_cons_of_mem _ hb), fun i mo a e1 e2 => let ⟨ho, e3, m⟩ := R.at_ i mo a e1 e2; ⟨ho, e3, MRel.less (ro := ro') (ro' := ⟨ro'.ro, ro1.hid⟩) rfl (fun x (h : x ∈ ro1.hid) => by rw [e]; exact List.mem_cons_of_mem _ h) m⟩⟩
end
section
variable {X : Cx} {W : WX}
theorem dts_nil : DTs X W [] yesB := by
  refine ⟨⟨fun pins s st H Q I q => pts_nil.run pins s st H Q I ?_⟩⟩
  obtain ⟨ro, sd, M, R, S, P⟩ := q
  exact P ro H true R (Pres.refl _ _) rfl
/-- one run of the block, from the heap H1 on -/
theorem lc_turns {K : PySem.W.Frag} {mg : Str → Option Value} {it : ItD} {J : It} {ro1 : Pl} {H1 : Hp} {M1 : MS} {sd : SD} {st : St} {g : MG} {ix vs : List Nat} {tt : MB} {te : ME} {Q : VK} (hix : ∀ i, i ∈ ix → i ∈ vs)
    (R1 : RelS K mg ro1 M1 H1) (S1 : RepSt K mg ro1 H1 sd st) (J1 : IterOk K mg ro1 H1 it J) {p : Addr} (hp : H1 p = none)
    (fin : ∃ ds M2, lcGo it.chk g tt te (wipeD sd vs) it.ds [] M1 = .ok ds M2 ∧ ∀ ro' H' us, RelS K mg ro' M2 H' → Within ro1 H1 p ro' H' → H' p = some (.lst us) → Reps K mg ro' H' ds us → Q (.ref p) H') :
    ∃ Wv : Nat → Nat → Hp → Prop, (∃ m, Wv 0 m (upd H1 p (.lst []))) ∧ ∀ i m H, Wv i m H →
      (J.stop i H ∧ Q (.ref p) H) ∨ (J.go i H ∧ ∃ Nx : Hp → Prop, (∀ H', Nx H' → ∃ m', m' < m ∧ Wv (i + 1) m' H') ∧ ∀ x H', J.yld i H x H' → liftG K mg g ix x (wipe st vs) H' fun s2 H2 => wipe s2 vs = wipe st vs ∧ liftB K mg W0 tt s2 H2 fun b H3 =>
        if b = true then liftE K mg W0 te s2 H3 fun y H4 => ∃ acc, H4 p = some (.lst acc) ∧ acc.length < sizeLine ∧ Nx (upd H4 p (.lst (acc ++ [y]))) else Nx H3) := by
  obtain ⟨ds, M2, hrun, fin⟩ := fin
  refine ⟨fun i m H' => m = it.ds.length - i ∧ i ≤ it.ds.length ∧ ∃ ro' M' acc us, RelS K mg ro' M' H' ∧ Within ro1 H1 p ro' H' ∧ H' p = some (.lst us) ∧ Reps K mg ro' H' acc us ∧ lcGo it.chk g tt te (wipeD sd vs) (it.ds.drop i) acc M' = .ok ds M2,
    ⟨_, rfl, Nat.zero_le _, ro1.hide p, M1, [], [], R1.hide hp, ⟨rfl, ⟨[], by simp⟩, fun a o h _ => upd_grow hp a o h, fun a h => .inl h⟩, upd_same, rfl, hrun⟩, ?_⟩
  rintro i m H' ⟨rfl, hle, ro', M', acc, us, R', Wi, hpl, ra, hr⟩
  have mem : p ∈ ro'.hid := by rw [Wi.hid]; exact List.mem_cons_self
  by_cases hlt : i < it.ds.length
  · have hd : it.ds.drop i = it.ds[i] :: it.ds.drop (i + 1) := List.drop_eq_getElem_cons hlt
    rw [hd] at hr
    unfold lcGo at hr
    by_cases hc : it.chk M'
    · rw [if_pos hc] at hr
      obtain ⟨_, hJ⟩ := J1 ro' H' M' R' (Wi.w hp) hc
      obtain ⟨hgo, hy⟩ := hJ i _ (List.getElem?_eq_getElem hlt)
      refine .inr ⟨hgo, fun H2 => ∃ ro2 M3 acc us, RelS K mg ro2 M3 H2 ∧ Within ro1 H1 p ro2 H2 ∧ H2 p = some (.lst us) ∧ Reps K mg ro2 H2 acc us ∧ lcGo it.chk g tt te (wipeD sd vs) (it.ds.drop (i + 1)) acc M3 = .ok ds M2,
        fun H2 ⟨ro2, M3, acc, us, a, b, c, d, e⟩ => ⟨it.ds.length - (i + 1), by omega, rfl, hlt, ro2, M3, acc, us, a, b, c, d, e⟩, fun x H'' y => ?_⟩
      obtain ⟨hgrow, hrep⟩ := hy x H'' y
      obtain ⟨R'', P''⟩ := R'.grow hgrow
      cases hgd : g it.ds[i] (wipeD sd vs) with
      | none => rw [hgd] at hr; cases hr
      | some sd1 =>
        rw [hgd] at hr
        dsimp only at hr
        have S'' : RepSt K mg ro' H'' (wipeD sd vs) (wipe st vs) := ((S1.monoW (Wi.w hp)).mono P'').wipe vs
        refine ⟨ro', wipeD sd vs, M', _, R'', S'', hrep, sd1, hgd, fun st1 Sd1 hw => ⟨by rw [hw vs hix]; exact (List.ext_getElem? fun j => by rw [wipe_get, wipe_get, wipe_length]; split <;> rfl), ?_⟩⟩
        refine ⟨ro', sd1, M', R'', Sd1, ?_⟩
        cases ht : tt sd1 M' with
        | exc C ns ds M3 => rw [ht] at hr; cases hr
        | stuck => rw [ht] at hr; cases hr
        | ok b M3 =>
          rw [ht, Res.ne_ok, Res.bind_ok] at hr
          rintro ro3 H3 b' R3 P3 rfl
          have W3 := (Wi.step P'').step P3
          have ra3 := Reps.mono P3 _ _ (Reps.mono P'' _ _ ra)
          have hp3 : H3 p = some (.lst us) := P3.keep p _ (P''.keep p _ hpl fun z => R'.dis p z mem) fun z => R''.dis p z mem
          cases b' with
          | false =>
            rw [if_neg Bool.false_ne_true] at hr ⊢
            exact ⟨ro3, M3, acc, us, R3, W3, hp3, ra3, hr⟩
          | true =>
            rw [if_pos rfl] at hr ⊢
            refine ⟨ro3, sd1, M3, R3, Sd1.mono P3, ?_⟩
            cases hte : te sd1 M3 with
            | exc C ns ds M4 => rw [hte] at hr; cases hr
            | stuck => rw [hte] at hr; cases hr
            | ok y M4 =>
              rw [hte, Res.ne_ok, Res.bind_ok] at hr
              intro ro4 H4 yv R4 P4 ry
              split at hr
              · rename_i hl
                have mem4 : p ∈ ro4.hid := by rw [P4.hid, P3.hid]; exact mem
                have hp4 : H4 p = some (.lst us) := P4.keep p _ hp3 fun z => R3.dis p z (by rw [P3.hid]; exact mem)
                have ra4 := Reps.mono P4 _ _ ra3
                refine ⟨us, hp4, by rw [← ra4.len]; exact line_lt hl, ro4, M4, acc ++ [y], us ++ [yv], R4.unseen mem4, (W3.step P4).put hp, upd_same, ?_, hr⟩
                exact Reps.unseen mem4 _ _ (ra4.append (Reps.one ry))
              · cases hr
    · rw [if_neg hc] at hr; cases hr
  · have e : i = it.ds.length := by omega
    subst e
    rw [List.drop_length] at hr
    unfold lcGo at hr
    by_cases hc : it.chk M'
    · rw [if_pos hc] at hr
      cases hr
      exact .inl ⟨(J1 ro' H' _ R' (Wi.w hp) hc).1, fin ro' H' us R' Wi hpl ra⟩
    · rw [if_neg hc] at hr; cases hr
section
variable {elt tg iter : Expr} {ifs : List Expr} {scope : Scope} {own : List (Str × Nat)} {pos spos : Pos} {mi : MI} {g : MG} {ix : List Nat} {tt : MB} {te : ME}
theorem lc_tree {st : St} {H : Hp} {Q : VK} {vs : List Nat} (hix : ∀ i, i ∈ ix → i ∈ vs) (q : liftE X.K X.mg W (lcE mi g tt te vs) st H Q) : tLc (liftI X.K X.mg W mi) (liftG X.K X.mg g ix) (liftB X.K X.mg W0 tt) (liftE X.K X.mg W0 te) vs st H Q := by
  obtain ⟨ro, sd, M, R, S, P⟩ := q
  refine ⟨ro, sd, M, R, S, (Post.bind P).imp fun J H1 ⟨ro1, M1, it, R1, P1, J1, q1⟩ => fun p hp => ?_⟩
  refine lc_turns hix R1 (S.mono P1) J1 hp ?_
  cases hrun : lcGo it.chk g tt te (wipeD sd vs) it.ds [] M1 with
  | stuck => rw [hrun] at q1; exact q1.elim
  | exc C ns ds M2 => rw [hrun] at q1; exact q1.elim
  | ok ds M2 =>
    rw [hrun, Res.ne_ok, Res.bind_ok] at q1
    refine ⟨ds, M2, rfl, fun ro' H' us R' Wi hpl ra => ?_⟩
    have mem : p ∈ ro'.hid := by rw [Wi.hid]; exact List.mem_cons_self
    refine q1 _ H' (.ref p) (R'.shown' Wi.hid) Wi.out ⟨p, us, rfl, hpl, fun m => ?_, Reps.less (ro := ro') (ro' := ⟨ro'.ro, ro1.hid⟩) rfl (fun x (h : x ∈ ro1.hid) => by rw [Wi.hid]; exact List.mem_cons_of_mem _ h) _ _ ra⟩
    rcases List.mem_append.mp m with m | m
    · exact R'.dis p m mem
    · exact R1.liveN p m hp
variable (hc : X.calm = true) (hN : X.N.Nodup) (hi : DI X W tg iter mi) (ok : BlkOk X.N X.env.scope scope own) (hix : ∀ i, i ∈ ix → i ∈ own.map (·.2))
    (hg : ∀ (s : Shared) (H : Hp) (C : Addr) (cl : List (Str × Addr)) (fp : List Addr), DG (X.blk s H scope (compEnvC scope cl C X.env) fp) tg g ix) (ht : ∀ (s : Shared) (H : Hp) (C : Addr) (cl : List (Str × Addr)) (fp : List Addr), DTs (X.blk s H scope (compEnvC scope cl C X.env) fp) W0 ifs tt)
    (he : ∀ (s : Shared) (H : Hp) (C : Addr) (cl : List (Str × Addr)) (fp : List Addr), DE (X.blk s H scope (compEnvC scope cl C X.env) fp) W0 elt te)
include hc hN hi ok hix hg ht he
theorem de_lc (hs : ∀ x, foldedSetIterable iter X.env x = pure x := by intro _; rfl) : DE X W (.ListComp elt [⟨tg, iter, ifs, 0⟩] scope pos) (lcE mi g tt te (own.map (·.2))) :=
  ⟨⟨fun pins s st H Q I q => (pe_lc hc hN hi.pi ok (fun a b c d e => (hg a b c d e).pg) (fun a b c d e => (ht a b c d e).pts) (fun a b c d e => (he a b c d e).pe) hs).run pins s st H Q I (lc_tree hix q)⟩⟩
end
end
end DL
namespace DL
open PySem PySem.Spec L2
open PyProof.Rows hiding St
variable [HashW]
theorem ofString_inj {s t : String} (h : Str.ofString s = Str.ofString t) : s = t := by
  rw [Str.ofString_eq_toList, Str.ofString_eq_toList] at h
  have h1 : s.toList.map Char.toNat = t.toList.map Char.toNat := by
    have := congrArg (fun z : Str => z.cps.toList) h
    simpa using this
  have h2 : s.toList = t.toList := List.map_inj_right (fun a b e => Char.ext (UInt32.toNat_inj.mp e)) |>.mp h1
  exact String.toList_inj.mp h2
def lookF : List String → List D → String → Option D
  | n :: ns, d :: ds, f => if f = n then some d else lookF ns ds f
  | _, _, _ => none
def putN : List String → List D → String → D → List String × List D
  | n :: ns, d :: ds, f, e => if n = f then (n :: ns, e :: ds) else ((n :: (putN ns ds f e).1), (d :: (putN ns ds f e).2))
  | _, _, f, e => ([f], [e])
section
variable {K : PySem.W.Frag} {mg : Str → Option Value} {ro : Pl} {H : Hp}
theorem lookF_some : ∀ {ns : List String} {ds : List D} {vs : List V} {f : String} {d : D}, Reps K mg ro H ds vs → lookF ns ds f = some d → ∃ v, (zipF ns vs).lookup (Str.ofString f) = some v ∧ Rep K mg ro H d v
  | [], ds, vs, f, d, r, e => by cases ds <;> cases e
  | n :: ns, [], vs, f, d, r, e => by cases e
  | n :: ns, x :: ds, vs, f, d, ⟨v, rs, ev, q, t⟩, e => by
    subst ev
    show ∃ w, List.lookup (Str.ofString f) ((Str.ofString n, v) :: zipF ns rs) = some w ∧ _
    unfold lookF at e
    split at e
    · rename_i h
      cases e
      subst h
      exact ⟨v, by simp [List.lookup], q⟩
    · rename_i h
      have hb : (Str.ofString f == Str.ofString n) = false := beq_eq_false_iff_ne.mpr fun z => h (ofString_inj z)
      obtain ⟨w, hw, rw'⟩ := lookF_some t e
      exact ⟨w, by simp only [List.lookup, hb]; exact hw, rw'⟩
end
def callE (n : Nat) (F : FM) (g : List D → List D) (a : MA) : ME := fun sd M => (a sd M).bind fun ds M1 => if (g ds).length = n then F (g ds) M1 else .stuck
section
variable {X : Cx} {W : WX}
theorem run_DA {A : Around} {k : Nat} {f : Addr} {fd : FuncData} {ps : List Str} {F : FM} {pins : List (Addr × Obj)} {st : St} {H : Hp} {s : Shared} {Q : VK} {args : Args} {us : List Value} {vs : List V} {ro : Pl} {ds : List D} {M : MS}
    (hF : DOk X.prog X.w X.K X.mg X.base k f fd ps F) (hA : A.frames = X.A.frames) (hr : Room k A) (tk : Takes X W) (hb : BindsTo s fd args (ps.zip us)) (I : Inv X pins st H s) (r : Vals vs us) (R : RelS X.K X.mg ro M H) (rs : Reps X.K X.mg ro H ds vs) (hl : ds.length = ps.length)
    (P : PostD X.K X.mg (fun c d H' => W c d st H') ro H Q (F ds M)) : wpAny (model X.prog X.w) A (call (.ref f) args.pos args.kw) (EP X pins st Q) X.xe s := by
  have e0 : Env0 X.prog X.w X.K X.mg X.base A X.stack s H := by
    have e := I.env0
    exact ⟨by rw [hA]; exact e.frames, e.mod, e.bs, e.bsz, e.funs, e.frf, e.hok, e.bare⟩
  refine wpAny_call (codeAny_mono (hF.run A X.stack s H args us vs Q (WE W st) hr e0 hb r ⟨by rw [← rs.len]; exact hl, ro, ds, M, R, rs, P⟩) fun r s' hq => ?_)
  cases r with
  | error e => exact passAt tk st pins H s e s' I hq
  | ok fl =>
    cases fl with
    | ret u => exact I.after hq
    | next => exact False.elim hq
    | brk => exact False.elim hq
    | cont => exact False.elim hq
theorem run_D {k : Nat} {f : Addr} {fd : FuncData} {ps : List Str} {F : FM} {pins : List (Addr × Obj)} {st : St} {H : Hp} {s : Shared} {Q : VK} {args : Args} {us : List Value} {vs : List V} {ro : Pl} {ds : List D} {M : MS}
    (hF : DOk X.prog X.w X.K X.mg X.base k f fd ps F) (hr : Room k X.A) (tk : Takes X W) (hb : BindsTo s fd args (ps.zip us)) (I : Inv X pins st H s) (r : Vals vs us) (R : RelS X.K X.mg ro M H) (rs : Reps X.K X.mg ro H ds vs) (hl : ds.length = ps.length)
    (P : PostD X.K X.mg (fun c d H' => W c d st H') ro H Q (F ds M)) : wpAny (model X.prog X.w) X.A (call (.ref f) args.pos args.kw) (EP X pins st Q) X.xe s := run_DA hF rfl hr tk hb I r R rs hl P
variable {k : Nat} {f : Addr} {fd : FuncData} {ps : List Str} {F : FM} {x m : Str} {p pos apos : Pos} {e o : Expr} {es : List Expr} {kws : List Keyword} {ma : MA} {mo : ME} {dfl : List D} {dvs : List V} {dV : List Value}
/-- the defaults that fill up -/
structure Dfl (X : Cx) (fd : FuncData) (ps : List Str) (n : Nat) (dfl : List D) : Prop where
  ex : ∃ (dvs : List V) (dV : List Value), Binds X.K fd ps dV ∧ Vals dvs dV ∧ ∀ ro H, Reps X.K X.mg ro H dfl dvs
theorem Dfl.none {fd : FuncData} {ps : List Str} {n : Nat} (h : Binds X.K fd ps []) : Dfl X fd ps n [] := ⟨[], [], h, .nil, fun _ _ => rfl⟩
theorem de_call (hF : DOk X.prog X.w X.K X.mg X.base k f fd ps F) (hr : Room k X.A) (tk : Takes X W) (hg : Gl X x) (hm : X.mg x = some (.ref f)) (hk : PySem.W.keepIn X.K (.ref f) = true) (hd : Dfl X fd ps 0 dfl) (ha : DA X W (e :: es) ma)
    (hdb : (x == ("__debug__" : Str)) = false := by decide) (he : starEach (e :: es) X.env = (false, eval e X.env) :: starEach es X.env := by rfl) (hpl : (backTo pos (starEach es X.env)).any (·.1) = false := by rfl) :
    DE X W (.Call (.Name x p) (e :: es) [] pos) (callE ps.length F (· ++ dfl) ma) := by
  obtain ⟨dvs, dV, hb, hv, hdf⟩ := hd.ex
  refine ⟨⟨fun pins s st H Q I q => ?_⟩⟩
  obtain ⟨ro, sd, M, R, S, P⟩ := q
  refine wpAny_Call_Name_kw (ld_glob I hg hm ?_ hdb)
  refine PySem.W.callWith_K (h₀ := X.base) I.ok.mod.kin hk (thn (ha.pa.run pos pins s st H _ I ⟨ro, sd, M, R, S, Post.bind P⟩) fun us s1 ⟨vs, H1, I1, r, ro1, M1, ds, R1, P1, r1, q1⟩ => ⟨I1.kIn, ?_⟩) he hpl
  dsimp only at q1
  split at q1
  · rename_i hl
    have r2 := r.append hv
    have rs := r1.append (hdf ro1 H1)
    exact run_D (args := ⟨us, []⟩) hF hr tk (hb s1 us I1.kIn (by rw [← r2.length, ← rs.len]; exact hl)) I1 r2 R1 rs hl q1
  · exact q1.elim
def callKE (n np nk : Nat) (F : FM) (gD : List D → List D → List D) (a b : MA) : ME := fun sd M => (a sd M).bind fun ds M1 => (b sd M1).bind fun es M2 => if ds.length = np ∧ es.length = nk ∧ (gD ds es).length = n then F (gD ds es) M2 else .stuck
/-- o.f = e, o a changeable instance -/
def setFldD (cs : List String) (f : String) (M : MS) (o v : D) : Option MS := match o with
  | .cell n => (match M[n]? with
    | some (.obj C ns ds) => if C ∈ cs ∧ ns.length < 900 ∧ ns.length = ds.length then some (M.set n (.obj C (putN ns ds f v).1 (putN ns ds f v).2)) else none
    | _ => none)
  | _ => none
def setFldS (cs : List String) (f : String) (mo m : ME) : MST := fun sd M => SRes.ofE (m sd M) sd fun v M1 => SRes.ofE (mo sd M1) sd fun o M2 => match setFldD cs f M2 o v with
  | some M3 => .nx sd M3
  | none => .stuck
/-- o.m(..) -/
def insOf (M : MS) (C m : String) : D → Bool
  | .obj C' ns _ => decide (C' = C) && !ns.contains m
  | .cell n => match M[n]? with
    | some (.obj C' ns _) => decide (C' = C) && !ns.contains m
    | _ => false
  | _ => false
def methE (C m : String) (n : Nat) (F : FM) (g : List D → List D) (o : ME) (a : MA) : ME := fun sd M => (o sd M).bind fun d M1 => if insOf M1 C m d = true then (a sd M1).bind fun ds M2 => if (g (d :: ds)).length = n then F (g (d :: ds)) M2 else .stuck else .stuck
end
end DL
namespace DL
open PySem PySem.Spec L2
open PyProof.Rows hiding St
variable [HashW]
def mapO {A B : Type} (f : A → Option B) : List A → Option (List B)
  | [] => some []
  | a :: r => match f a, mapO f r with
    | some b, some bs => some (b :: bs)
    | _, _ => none
def pyN : Nat → MS → D → Option PyData
  | 0, _, _ => none
  | n + 1, M, d => match d with
    | .non => some .none
    | .bl b => some (.bool b)
    | .int i => some (.int i)
    | .str x => some (.str (tx x))
    | .tup ds => (mapO (pyN n M) ds).map .tuple
    | .lst ds => (mapO (pyN n M) ds).map .list
    | .flst ds => (mapO (pyN n M) ds).map .list
    | .cell k => match M[k]? with
      | some (.lst ds) => (mapO (pyN n M) ds).map .list
      | _ => none
    | _ => none
abbrev pyD (M : MS) (d : D) : Option PyData := pyN 30 M d
section
variable {K : PySem.W.Frag} {mg : Str → Option Value} {ro : Pl} {H : Hp} {M : MS}
theorem dpAll_of {n : Nat} (ih : ∀ d v p, pyN n M d = some p → Rep K mg ro H d v → Dp K H v p) : ∀ (ds : List D) (vs : List V) (ps : List PyData), mapO (pyN n M) ds = some ps → Reps K mg ro H ds vs → DpAll K H vs ps
  | [], vs, ps, e, r => by cases e; cases (show vs = [] from r); exact .nil
  | d :: ds, vs, ps, e, ⟨v, w, ev, q, t⟩ => by
    subst ev
    unfold mapO at e
    cases h1 : pyN n M d with
    | none => rw [h1] at e; cases e
    | some p =>
      cases h2 : mapO (pyN n M) ds with
      | none => rw [h1, h2] at e; cases e
      | some qs =>
        rw [h1, h2] at e; cases e
        exact .cons (ih d v p h1 q) (dpAll_of ih ds w qs h2 t)
theorem dp_of (R : RelS K mg ro M H) : ∀ (n : Nat) (d : D) (v : V) (p : PyData), pyN n M d = some p → Rep K mg ro H d v → Dp K H v p
  | 0, _, _, _, e, _ => by cases e
  | n + 1, d, v, p, e, r => by
    have ih := dp_of R n
    cases d with
    | non => cases e; cases (show v = V.non from r); exact .non
    | bl b => cases e; cases (show v = V.bl b from r); exact .bl b
    | int i => cases e; cases (show v = V.int i from r); exact .int i
    | str x => cases e; cases (show v = V.str (tx x) from r); exact .str _
    | tup ds =>
      have e : (mapO (pyN n M) ds).map PyData.tuple = some p := e
      obtain ⟨ps, h1, rfl⟩ := Option.map_eq_some_iff.mp e
      obtain ⟨a, vs, rfl, q, rs⟩ := r
      exact .tup q.sq (dpAll_of ih ds vs ps h1 rs)
    | lst ds =>
      have e : (mapO (pyN n M) ds).map PyData.list = some p := e
      obtain ⟨ps, h1, rfl⟩ := Option.map_eq_some_iff.mp e
      obtain ⟨a, vs, rfl, q, _, rs⟩ := r
      exact .lst (SqL.of q) (dpAll_of ih ds vs ps h1 rs)
    | flst ds =>
      have e : (mapO (pyN n M) ds).map PyData.list = some p := e
      obtain ⟨ps, h1, rfl⟩ := Option.map_eq_some_iff.mp e
      obtain ⟨a, vs, rfl, q, rs⟩ := r
      exact .lst q.sq (dpAll_of ih ds vs ps h1 rs)
    | cell k =>
      have e : (match M[k]? with | some (.lst ds) => (mapO (pyN n M) ds).map PyData.list | _ => none) = some p := e
      cases hm : M[k]? with
      | none => rw [hm] at e; cases e
      | some mo =>
        rw [hm] at e
        cases mo with
        | lst ds =>
          obtain ⟨ps, h1, rfl⟩ := Option.map_eq_some_iff.mp e
          obtain ⟨a, ho, rfl, _, hH, vs, rfl, rs⟩ := R.cellAt r hm
          exact .lst (SqL.of hH) (dpAll_of ih ds vs ps h1 rs)
        | _ => cases e
    | _ => cases e
end
/-- == of two of none, truth values, ints, texts; not a truth value with an int -/
def eqSc : D → D → Option Bool
  | .non, .non => some true
  | .bl a, .bl b => some (a == b)
  | .int a, .int b => some (a == b)
  | .str a, .str b => some (a == b)
  | .non, .int _ => some false
  | .int _, .non => some false
  | .non, .str _ => some false
  | .str _, .non => some false
  | .non, .bl _ => some false
  | .bl _, .non => some false
  | .int _, .str _ => some false
  | .str _, .int _ => some false
  | .bl _, .str _ => some false
  | .str _, .bl _ => some false
  | _, _ => none
def eqS (neg : Bool) (d e : D) (M : MS) : Res D := match eqSc d e with
  | some b => .ok (.bl (b != neg)) M
  | none => .stuck
def eqP (neg : Bool) (d e : D) (M : MS) : Res D := match pyD M d, pyD M e with
  | some p, some q => if SeqAt.shaped p = true ∧ SeqAt.shaped q = true then .ok (.bl (PyData.eqv p q != neg)) M else .stuck
  | _, _ => .stuck
def eqD (neg : Bool) : D → D → MS → Res D := fun d e M => if (eqSc d e).isSome = true then eqS neg d e M else eqP neg d e M
section
variable {X : Cx}
theorem tx_inj {x y : List Nat} : tx x = tx y ↔ x = y := by
  constructor
  · intro h
    have := congrArg (fun z : Str => z.cps.toList) h
    simpa using this
  · rintro rfl; rfl
theorem eqSc_scal {K : PySem.W.Frag} {mg : Str → Option Value} {ro : Pl} {H : Hp} {d e : D} {x y : V} {b : Bool} (h : eqSc d e = some b) (rx : Rep K mg ro H d x) (ry : Rep K mg ro H e y) : scal x y = true ∧ decide (x = y) = b := by
  cases d <;> cases e <;> first | cases h | skip
  all_goals (cases (show x = _ from rx); cases (show y = _ from ry))
  all_goals refine ⟨rfl, ?_⟩
  all_goals simp [tx_inj]
  all_goals first | rfl | exact Bool.eq_iff_iff.mpr (by simp)
theorem opS_eqS (neg : Bool) : OpS X (compareOp (if neg then .NotEq else .Eq)) (eqS neg) := by
  cases neg with
  | false =>
    refine ⟨_, op_eq, fun ro H M d e x y E Q R rx ry P => ?_⟩
    unfold eqS at P
    split at P
    · rename_i b h
      obtain ⟨h1, h2⟩ := eqSc_scal h rx ry
      exact ⟨h1, by rw [h2]; simpa using PostD.pure (d := .bl (b != false)) R rfl P⟩
    · exact P.elim
  | true =>
    refine ⟨_, op_ne, fun ro H M d e x y E Q R rx ry P => ?_⟩
    unfold eqS at P
    split at P
    · rename_i b h
      obtain ⟨h1, h2⟩ := eqSc_scal h rx ry
      exact ⟨h1, by rw [h2]; simpa using PostD.pure (d := .bl (b != true)) R rfl P⟩
    · exact P.elim
theorem opS_eqP (neg : Bool) (hu : X.A.units + 64 < cLine) : OpS X (compareOp (if neg then .NotEq else .Eq)) (eqP neg) := by
  cases neg with
  | false =>
    refine ⟨_, op_eqD hu, fun ro H M d e x y E Q R rx ry P => ?_⟩
    unfold eqP at P
    split at P
    · rename_i p q h1 h2
      split at P
      · rename_i hs
        exact ⟨p, q, dp_of R 30 d x p h1 rx, dp_of R 30 e y q h2 ry, hs.1, hs.2, by simpa using PostD.pure (d := .bl (PyData.eqv p q != false)) R rfl P⟩
      · exact P.elim
    · exact P.elim
  | true =>
    refine ⟨_, op_neD hu, fun ro H M d e x y E Q R rx ry P => ?_⟩
    unfold eqP at P
    split at P
    · rename_i p q h1 h2
      split at P
      · rename_i hs
        exact ⟨p, q, dp_of R 30 d x p h1 rx, dp_of R 30 e y q h2 ry, hs.1, hs.2, by simpa using PostD.pure (d := .bl (PyData.eqv p q != true)) R rfl P⟩
      · exact P.elim
    · exact P.elim
theorem opS_eq (hu : X.A.units + 64 < cLine) : OpS X (compareOp .Eq) (eqD false) := OpS.or (opS_eqS false) (opS_eqP false hu) fun d e _ => (eqSc d e).isSome
theorem opS_ne (hu : X.A.units + 64 < cLine) : OpS X (compareOp .NotEq) (eqD true) := OpS.or (opS_eqS true) (opS_eqP true hu) fun d e _ => (eqSc d e).isSome
end
def subIn (x y : List Nat) : Bool := !(Builtin.Str.occurrences (tx y) (tx x) 0 (tx y).length 1).isEmpty
def inS (neg : Bool) (d e : D) (M : MS) : Res D := match d, e with
  | .str x, .str y => .ok (.bl (subIn x y != neg)) M
  | _, _ => .stuck
def inP (neg : Bool) (d e : D) (M : MS) : Res D := match pyD M d, pyD M e with
  | some p, some (.list qs) => if SeqAt.shaped p = true ∧ SeqAt.shaped (.list qs) = true then .ok (.bl ((qs.any fun z => PyData.eqv z p) != neg)) M else .stuck
  | _, _ => .stuck
def inD (neg : Bool) : D → D → MS → Res D := fun d e M => if isS2 d e M = true then inS neg d e M else inP neg d e M
def isIns (M : MS) (C : String) : D → Bool
  | .obj C' _ _ => decide (C' = C)
  | .cell n => match M[n]? with
    | some (.obj C' _ _) => decide (C' = C)
    | _ => false
  | _ => false
end DL
namespace DL
open PySem PySem.Spec L2
open PyProof.Rows hiding St
variable [HashW]
inductive TN where
  | b (n : String)
  | c (C : String)
/-- a dict whose keys are no tuples -/
def dicT : List D → Option TN
  | .non :: _ => none
  | _ => some (.b "dict")
theorem dicT_k {ks : List D} {a : TN} {kl : KLs} (h : dicT ks = some a) (g : keysG ks = some kl) : a = .b "dict" ∧ ∃ k, kl = .k k := by
  unfold dicT at h
  split at h
  · cases h
  · rename_i hn
    cases h
    refine ⟨rfl, ?_⟩
    unfold keysG at g
    split at g
    · exact absurd rfl (hn _)
    · obtain ⟨k, _, e⟩ := Option.map_eq_some_iff.mp g
      exact ⟨k, e.symm⟩
def tnD (M : MS) : D → Option TN
  | .non => some (.b "NoneType")
  | .bl _ => some (.b "bool")
  | .int _ => some (.b "int")
  | .str _ => some (.b "str")
  | .tup _ => some (.b "tuple")
  | .lst _ => some (.b "list")
  | .flst _ => some (.b "list")
  | .dic ks _ => dicT ks
  | .obj C _ _ => some (.c C)
  | .cell k => match M[k]? with
    | some (.lst _) => some (.b "list")
    | some (.dic _ _) => some (.b "dict")
    | some (.obj C _ _) => some (.c C)
    | some (.tab ..) => none
    | none => none
  | _ => none
def tnC : D → Option TN
  | .ty n => some (.b n)
  | .glo C => some (.c C)
  | _ => none
def okTN (cs : List String) : TN → Bool
  | .c C => decide (C ∈ cs)
  | .b _ => true
def isiF (cs : List String) (tbl : TN → TN → Option Bool) (ds : List D) (M : MS) : Res D := match ds with
  | [d, t] => (match tnD M d, tnC t with
    | some a, some b => if okTN cs a = true then (match tbl a b with
      | some k => .ok (.bl k) M
      | none => .stuck) else .stuck
    | _, _ => .stuck)
  | _ => .stuck
/-- two built-in types -/
def tblB : TN → TN → Option Bool
  | .b a, .b n => kitB a n
  | _, _ => none
section
variable {X : Cx}
/-- a built-in type, a built-in function as a value -/
theorem de_ty {W : WX} {x : Str} {pos : Pos} {T : String} (hg : Gl X x) (hm : X.mg x = none) (hv : bootBuiltins x = some (.type T)) (hn : x ≠ "__name__" := by decide) (hd : (x == ("__debug__" : Str)) = false := by decide) : DE X W (.Name x pos) (constE (.ty T)) :=
  de_constV (pe_bltn (v := .ty T) hg hm hv rfl hn hd) fun _ _ => rfl
end
def tyvD (M : MS) (T : String) : D → Bool
  | .str _ => decide (T = "str")
  | .int _ => decide (T = "int")
  | .lst _ => decide (T = "list")
  | .flst _ => decide (T = "list")
  | .dic ks _ => decide (T = "dict") && (dicT ks).isSome
  | .cell k => match M[k]? with
    | some (.lst _) => decide (T = "list")
    | some (.dic _ _) => decide (T = "dict")
    | _ => false
  | _ => false
def bmE (T : String) (f : D → List D → MS → Res D) (mo : ME) (ma : MA) : ME := fun sd M => (mo sd M).bind fun d M1 => if tyvD M1 T d = true then (ma sd M1).bind fun ds M2 => f d ds M2 else .stuck
section
variable {X : Cx} {W : WX} {o e : Expr} {es : List Expr} {mo : ME} {ma : MA} {name : Str} {apos cpos : Pos} {T id : String} {f : D → List D → MS → Res D}
theorem tyv_of {K : PySem.W.Frag} {mg : Str → Option Value} {ro : Pl} {H : Hp} {M : MS} (R : RelS K mg ro M H) {d : D} {v : V} (r : Rep K mg ro H d v) (h : tyvD M T d = true) : tyV K T v H := by
  cases d with
  | str x =>
    cases (show v = V.str (tx x) from r)
    have h : T = "str" := of_decide_eq_true h
    exact h
  | int i =>
    cases (show v = V.int i from r)
    have h : T = "int" := of_decide_eq_true h
    exact h
  | lst ds =>
    obtain ⟨p, vs, rfl, q, _, rs⟩ := r
    exact .inl ⟨of_decide_eq_true h, vs, SqL.of q⟩
  | flst ds =>
    obtain ⟨p, vs, rfl, q, rs⟩ := r
    exact .inl ⟨of_decide_eq_true h, vs, q.sq⟩
  | dic ks ds =>
    obtain ⟨p, kl, vs, rfl, g, l, q, _, rs⟩ := r
    have h : (decide (T = "dict") && (dicT ks).isSome) = true := h
    obtain ⟨h1, h2⟩ := Bool.and_eq_true_iff.mp h
    obtain ⟨a, ha⟩ := Option.isSome_iff_exists.mp h2
    obtain ⟨_, k, rfl⟩ := dicT_k ha g
    exact .inr (.inr (.inl ⟨of_decide_eq_true h1, .inl ⟨_, q⟩⟩))
  | cell k =>
    have h : (match M[k]? with | some (.lst _) => decide (T = "list") | some (.dic _ _) => decide (T = "dict") | _ => false) = true := h
    cases hm : M[k]? with
    | none => rw [hm] at h; cases h
    | some mo =>
      rw [hm] at h
      obtain ⟨p, ho, rfl, _, hH, m⟩ := R.cellAt r hm
      cases mo with
      | lst ds => obtain ⟨vs, rfl, _⟩ := m; exact .inl ⟨of_decide_eq_true h, vs, SqL.of hH⟩
      | dic ks ds => obtain ⟨kl, vs, rfl, _⟩ := m; exact .inr (.inr (.inl ⟨of_decide_eq_true h, .inl ⟨_, hH⟩⟩))
      | obj C ns ds => cases h
      | tab i C m => cases h
  | _ => cases h
theorem de_bm (hf : MtS X T id f) (pa : PlainAttrs T) (slot : Slot T name id) (hty : typeOf (.builtin id) = pure (.type "method_descriptor")) (ho : DE X W o mo) (ha : DA X W (e :: es) ma)
    (hbase : attributeBase o name X.env (eval o X.env) = eval o X.env := by rfl)
    (hfew : ((backTo cpos (starEach (e :: es) X.env)).all (fun x => !x.1) && (backToKw cpos (keywordEach [] X.env)).all (fun x => x.1.isSome)
      && decide ((e :: es).length + ([] : List Keyword).length + (if ([] : List Keyword).isEmpty then 0 else 1) < 30)) = true := by rfl)
    (hline : (apos.endLine == cpos.line) = true := by rfl) (hs : starEach (e :: es) X.env = (false, eval e X.env) :: starEach es X.env := by rfl) (hplain : (backTo cpos (starEach es X.env)).any (·.1) = false := by rfl) :
    DE X W (.Call (.Attribute o name apos) (e :: es) [] cpos) (bmE T f mo ma) := by
  obtain ⟨r, h1, h2⟩ := hf
  refine ⟨⟨fun pins s st H Q I q => (pe_bm pa slot hty h1 ho.pe ha.pa hbase hfew hline hs hplain).run pins s st H Q I ?_⟩⟩
  obtain ⟨ro, sd, M, R, S, P⟩ := q
  refine ⟨ro, sd, M, R, S, (Post.bind P).imp fun x H1 ⟨ro1, M1, d, R1, P1, r1, q1⟩ => ?_⟩
  split at q1
  · rename_i ht
    refine ⟨tyv_of R1 r1 ht, ro1, sd, M1, R1, S.mono P1, (Post.bind q1).imp fun xs H2 ⟨ro2, M2, ds, R2, P2, r2, q2⟩ => ?_⟩
    exact h2 ro2 H2 M2 d ds x xs _ Q R2 (Rep.mono P2 _ _ r1) r2 q2
  · exact q1.elim
end
def strsOf : List D → Option (List (List Nat))
  | [] => some []
  | .str x :: r => (strsOf r).map (x :: ·)
  | _ => none
@[simp] theorem strsOf_map (xs : List (List Nat)) : strsOf (xs.map D.str) = some xs := by
  induction xs with
  | nil => rfl
  | cons x xs ih => simp [strsOf, ih]
def appendF (d : D) (ds : List D) (M : MS) : Res D := match d, ds with
  | .cell n, [e] => (match M[n]? with
    | some (.lst xs) => if xs.length < 1000000 then .ok .non (M.set n (.lst (xs ++ [e]))) else .stuck
    | _ => .stuck)
  | _, _ => .stuck
section
variable {X : Cx}
theorem mtS_append : MtS X "list" "list.append" appendF := by
  refine ⟨_, mt_append, fun ro H M d ds x xs E Q R r rs P => ?_⟩
  unfold appendF at P
  split at P
  · rename_i n e
    split at P
    · rename_i ys hm
      split at P
      · rename_i hl
        obtain ⟨v, rfl, rv⟩ := reps1 rs
        obtain ⟨a, ho, rfl, g, h, vs, rfl, q⟩ := R.cellAt r hm
        obtain ⟨R', P'⟩ := R.change (o := .lst (vs ++ [v])) (mo := .lst (ys ++ [e])) g ⟨_, rfl, q.append (Reps.one rv)⟩
        exact ⟨a, vs, v, rfl, rfl, h, by rw [← q.len]; exact line_lt hl, P ro _ _ R' P' rfl⟩
      · exact P.elim
    · exact P.elim
  · exact P.elim
end
section
variable {P : Program} {w : World} {K : PySem.W.Frag} {mg : Str → Option Value} {base : Heap}
abbrev FnP (K : PySem.W.Frag) (x qual : Str) (st : Stmt) (dvs : List V) (kws : List (Str × V)) (f : Addr) (fd : FuncData) : Prop := FunD K x qual (defArgs st) (defBody st) (defScope st) dvs kws f fd
theorem funD_ok {x qual : Str} {st : Stmt} {dvs : List V} {kws : List (Str × V)} {f : Addr} {fd : FuncData} {N ps : List Str} {k : Nat} {body : MST} (Fn : FnP K x qual st dvs kws f fd) (S : FnScope N ps (defScope st))
    (hbody : ∀ (cdv : Value) (A : Around) (outer : List Env) (s : Shared) (H : Hp) (E : XK), Room k (A.deeper (envOfC qual (defScope st) s.heap.objs.size f cdv)) →
      Ctx (cxOf (L2.CX P w) P w K mg base N qual (defScope st) f cdv A outer s H E) (fun cls d _ H' => E cls d H') →
      DSs (cxOf (L2.CX P w) P w K mg base N qual (defScope st) f cdv A outer s H E) (fun cls d _ H' => E cls d H') (defBody st) body) : DOk P w K mg base (k + 1) f fd ps (runD N.length body) := by
  refine Fn.ok S (fun vs H Q E h => h.1) fun cdv A outer s H vs Q E hr h => ?_
  obtain ⟨hl, ro, ds, M, R, rs, Po⟩ := h
  have hc : Ctx (cxOf (L2.CX P w) P w K mg base N qual (defScope st) f cdv A outer s H E) (fun cls d _ H' => E cls d H') := ⟨takes_of rfl rfl rfl rfl, passes_of rfl, rfl⟩
  refine ⟨_, (hbody cdv A outer s H E hr hc).ps, ro, startD N.length ds, M, R, repSt_start rs, ?_⟩
  unfold runD at Po
  cases e : body (startD N.length ds) M with
  | nx sd M' => rw [e] at Po; exact fun ro' H' st rs q r => Po ro' H' .non rs q rfl
  | ret d M' => rw [e] at Po; exact Po
  | exc C ns ds' sd M' => rw [e] at Po; exact fun ro' H' st cls dd rs q _ r => Po ro' H' cls dd rs q r
  | brk sd M' => rw [e] at Po; exact Po.elim
  | ct sd M' => rw [e] at Po; exact Po.elim
  | stuck => rw [e] at Po; exact Po
theorem DOk.imp {k : Nat} {f : Addr} {fd : FuncData} {ps : List Str} {F G : FM} (h : DOk P w K mg base k f fd ps F) (hG : ∀ (ro : Pl) (H : Hp) (E : XK) (Q : VK) (ds : List D) (M : MS), RelS K mg ro M H → PostD K mg E ro H Q (G ds M) → PostD K mg E ro H Q (F ds M)) : DOk P w K mg base k f fd ps G :=
  FnOk.imp h fun vs H Q E ⟨hl, ro, ds, M, R, rs, Po⟩ => ⟨hl, ro, ds, M, R, rs, hG ro H E Q ds M R Po⟩
/-- what fills up -/
abbrev DflK (K : PySem.W.Frag) (mg : Str → Option Value) (fd : FuncData) (ps : List Str) (dfl : List D) : Prop := ∃ (dvs : List V) (dV : List Value), Binds K fd ps dV ∧ Vals dvs dV ∧ ∀ ro H, Reps K mg ro H dfl dvs
theorem dflK_none {fd : FuncData} {ps : List Str} (h : Binds K fd ps []) : DflK K mg fd ps [] := ⟨[], [], h, .nil, fun _ _ => rfl⟩
end
end DL
namespace DL
open PySem PySem.Spec L2
open PyProof.Rows hiding St
variable [HashW]
section
variable {K : PySem.W.Frag} {mg : Str → Option Value}
theorem fnP_mk {x qual : Str} {st : Stmt} {f : Addr} {oc : Value} {od an : Option Addr} {osl : Array (Option Value)} {kV doc pm cdv ct : Value} (l : K.lookup f = some ⟨oc, od, .func (PySem.W.fnOf x qual (defArgs st) (defBody st) (defScope st) .none kV doc pm an cdv ct), osl⟩)
    (c : PySem.W.codeIn K cdv qual = true) (k : PySem.W.keepIn K (.ref f) = true) : FnP K x qual st [] [] f (PySem.W.fnOf x qual (defArgs st) (defBody st) (defScope st) .none kV doc pm an cdv ct) := ⟨⟨oc, od, .none, kV, doc, pm, an, cdv, ct, osl, rfl, l, c, .inl ⟨rfl, rfl⟩, .inl rfl⟩, k⟩
/-- the law's promise -/
def spLaw (K : PySem.W.Frag) : Sp := fun vs H Q _ => ∃ (a : Addr) (ns : List Int), vs = [.ref a] ∧ SqL K H a (ns.map V.int) ∧ ns.length ≤ 63 ∧ ∀ H', Q (.bl true) H'
theorem reps_ints {ro : Pl} {H : Hp} : ∀ ns : List Int, Reps K mg ro H (ns.map D.int) (ns.map V.int)
  | [] => rfl
  | n :: ns => ⟨_, _, rfl, rfl, reps_ints ns⟩
theorem dok_law {P : Program} {w : World} {base : Heap} {k : Nat} {f : Addr} {fd : FuncData} {x : Str} {F : FM} (h : DOk P w K mg base k f fd [x] F) (hlaw : ∀ ns : List Int, ns.length ≤ 63 → ∃ M', F [.flst (ns.map D.int)] [] = .ok (.bl true) M') : FnOk P w K mg base (L2.CX P w) k f fd [x] (spLaw K) :=
  FnOk.imp h fun vs H Q E ⟨a, ns, hv, hS, hl, q⟩ => by
    subst hv
    obtain ⟨M', e⟩ := hlaw ns hl
    refine ⟨rfl, ⟨[], []⟩, [.flst (ns.map D.int)], [], ⟨rfl, List.nodup_nil, fun a h => (by cases h), fun a h => (by cases h), fun i mo a h => (by simp at h)⟩, ?_, ?_⟩
    · refine Reps.one ⟨a, ns.map V.int, rfl, ?_, reps_ints ns⟩
      rcases hS with hS | ⟨o, its, n, h1, h2, h3, h4, h5, h6⟩
      · exact .inl ⟨hS, by simp [Pl.all]⟩
      · exact .inr ⟨o, its, n, h1, h2, h3, h4, h5, h6⟩
    · rw [e]
      intro ro' H' v _ _ r
      cases (show v = V.bl true from r)
      exact q H'
end
theorem walkD {l : PySem.W.OpenLaw} {q : Program} {loose : List Str} {XP : (Str → Option Value) → Heap → Prop} {YP : World → Heap → Prop} {d : DefRec} {K : Params → PySem.W.Frag} (x : Str) (k : Nat) (hn : l.most = some 63) (hdf : d.params.defaults = []) (hk : Room k callerA)
    (hY : ∀ (w : World) (h : Heap), YP w h → (K w.params).In h)
    (F : ∀ (w : World) (mg : Str → Option Value) (fa : Addr) (h : Heap), (K w.params).In h → h.Ns mainGlobals mg → mg d.name = some (.ref fa) →
      ∃ fd : FuncData, (∀ (s : Shared) (u : Value), BindsTo s fd ⟨[u], []⟩ [(x, u)]) ∧ ∀ base : Heap, (K w.params).In base → base.Ns mainGlobals mg → FnOk l.prog w (K w.params) mg base (L2.CX l.prog w) k fa fd [x] (spLaw (K w.params))) :
    PySem.W.WalkO q loose XP YP l.row.toRowW d [] (fun f vs => PySem.call f vs) :=
  L2.walk_of (n := 63) (k := k) (x := x) (CX := fun w => L2.CX l.prog w) (sp := fun w => spLaw (K w.params)) hn (by decide) hdf hk hY F (fun _ _ a ns hl _ hS => ⟨a, ns, rfl, hS, hl, fun _ => rfl⟩) fun _ _ _ _ _ ⟨_, _, _, _, _, _, _, _, _, _, _, _, z⟩ => z
end DL
namespace DL
open PySem PySem.Spec L2
open PyProof.Rows hiding St
variable [HashW]
theorem na_nil {K : PySem.W.Frag} {c : Addr} : ∀ f, f ∈ ([] : List String) → NoAttr K c (Str.ofString f) := fun f h => by cases h
theorem na_cons {K : PySem.W.Frag} {c : Addr} {a : String} {as : List String} (h : NoAttr K c (Str.ofString a)) (r : ∀ f, f ∈ as → NoAttr K c (Str.ofString f)) : ∀ f, f ∈ a :: as → NoAttr K c (Str.ofString f) := fun f hf => by
  rcases List.mem_cons.mp hf with e | hf
  · rw [e]; exact h
  · exact r f hf
end DL
namespace DL
open PySem PySem.Spec L2
open PyProof.Rows hiding St
variable [HashW]
section
variable {sd : SD} {M : MS} {a b : ME} {ta tb tc : MB} {sa sb : MST} {ms mk : MA} {f : D → D → MS → Res D} {d e : D} {ds es : List D}
def setK (sd : SD) (i : Nat) : D → MS → SRes := fun d M1 => .nx (sd.set i (some d)) M1
def exprK (sd : SD) : D → MS → SRes := fun _ M1 => .nx sd M1
def retK : D → MS → SRes := fun d M1 => .ret d M1
def ifK (sa sb : MST) (sd : SD) : Bool → MS → SRes := fun k M1 => if k = true then sa sd M1 else sb sd M1
def putK1 (mo mi : ME) (sd : SD) : D → MS → SRes := fun v M1 => SRes.ofE (mo sd M1) sd fun o M2 => SRes.ofE (mi sd M2) sd fun i M3 => match setItemD M3 o i v with
  | some M4 => .nx sd M4
  | none => .stuck
def putK2 (mi : ME) (sd : SD) (v : D) : D → MS → SRes := fun o M2 => SRes.ofE (mi sd M2) sd fun i M3 => match setItemD M3 o i v with
  | some M4 => .nx sd M4
  | none => .stuck
def putK3 (sd : SD) (v o : D) : D → MS → SRes := fun i M3 => match setItemD M3 o i v with
  | some M4 => .nx sd M4
  | none => .stuck
def augK1 (sd : SD) (i : Nat) (f : D → D → MS → Res D) (a : ME) : D → MS → SRes := fun x M1 => SRes.ofE (a sd M1) sd fun y M2 => SRes.ofE (f x y M2) sd fun d M3 => .nx (sd.set i (some d)) M3
def augK2 (sd : SD) (i : Nat) (f : D → D → MS → Res D) (x : D) : D → MS → SRes := fun y M2 => SRes.ofE (f x y M2) sd fun d M3 => .nx (sd.set i (some d)) M3
noncomputable def forK (g : MG) (sb : MST) (sd : SD) : ItD → MS → SRes := fun i M1 => forGo i.chk g sb i.ds sd M1
def binK (f : D → D → MS → Res D) (b : ME) (sd : SD) : D → MS → Res D := fun d M1 => (b sd M1).bind fun e M2 => f d e M2
def binK2 (f : D → D → MS → Res D) (d : D) : D → MS → Res D := fun e M2 => f d e M2
def andK (b : ME) (sd : SD) : D → MS → Res D := fun d M1 => match d with
  | .bl true => b sd M1
  | .bl false => .ok (.bl false) M1
  | _ => .stuck
def orK (b : ME) (sd : SD) : D → MS → Res D := fun d M1 => match d with
  | .bl true => .ok (.bl true) M1
  | .bl false => b sd M1
  | _ => .stuck
def notK : D → MS → Res D := fun d M1 => match d with
  | .bl c => .ok (.bl (!c)) M1
  | _ => .stuck
def ifEK (a b : ME) (sd : SD) : Bool → MS → Res D := fun k M1 => if k = true then a sd M1 else b sd M1
def valK : D → MS → Res Bool := fun d M1 => match d with
  | .bl c => .ok c M1
  | _ => .stuck
def truK : D → MS → Res Bool := fun d M1 => match truD M1 d with
  | some c => .ok c M1
  | none => .stuck
def andBK (tb : MB) (sd : SD) : Bool → MS → Res Bool := fun c M1 => if c = true then tb sd M1 else .ok false M1
def orBK (tb : MB) (sd : SD) : Bool → MS → Res Bool := fun c M1 => if c = true then .ok true M1 else tb sd M1
def notBK : Bool → MS → Res Bool := fun c M1 => .ok (!c) M1
def consK (ms : MA) (sd : SD) : D → MS → Res (List D) := fun d M1 => (ms sd M1).bind fun ds M2 => .ok (d :: ds) M2
def consK2 (d : D) : List D → MS → Res (List D) := fun ds M2 => .ok (d :: ds) M2
def tupK : List D → MS → Res D := fun ds M1 => if ds.length ≤ 1000000 then .ok (.tup ds) M1 else .stuck
def lstK : List D → MS → Res D := fun ds M1 => if ds.length ≤ 1000000 then .ok (.lst ds) M1 else .stuck
def celK : List D → MS → Res D := fun ds M1 => if ds.length ≤ 1000000 then .ok (.cell M1.length) (M1 ++ [.lst ds]) else .stuck
def callK (n : Nat) (F : FM) (g : List D → List D) : List D → MS → Res D := fun ds M1 => if (g ds).length = n then F (g ds) M1 else .stuck
def callKK (n np nk : Nat) (F : FM) (g : List D → List D → List D) (mk : MA) (sd : SD) : List D → MS → Res D := fun ds M1 => (mk sd M1).bind fun es M2 => if ds.length = np ∧ es.length = nk ∧ (g ds es).length = n then F (g ds es) M2 else .stuck
def callKK2 (n np nk : Nat) (F : FM) (g : List D → List D → List D) (ds : List D) : List D → MS → Res D := fun es M2 => if ds.length = np ∧ es.length = nk ∧ (g ds es).length = n then F (g ds es) M2 else .stuck
def bmK (T : String) (f : D → List D → MS → Res D) (ms : MA) (sd : SD) : D → MS → Res D := fun d M1 => if tyvD M1 T d = true then (ms sd M1).bind fun ds M2 => f d ds M2 else .stuck
def bmK2 (f : D → List D → MS → Res D) (d : D) : List D → MS → Res D := fun ds M2 => f d ds M2
def methK (C m : String) (n : Nat) (F : FM) (g : List D → List D) (ms : MA) (sd : SD) : D → MS → Res D := fun d M1 => if insOf M1 C m d = true then (ms sd M1).bind fun ds M2 => if (g (d :: ds)).length = n then F (g (d :: ds)) M2 else .stuck else .stuck
def itK : D → MS → Res ItD := fun d M1 => match itD M1 d with
  | some it => .ok it M1
  | none => .stuck
noncomputable def lcK (g : MG) (ta : MB) (a : ME) (vs : List Nat) (sd : SD) : ItD → MS → Res D := fun it M1 => (lcGo it.chk g ta a (wipeD sd vs) it.ds [] M1).ne.bind fun ds M2 => .ok (.lst ds) M2
noncomputable def lcCK (g : MG) (ta : MB) (a : ME) (vs : List Nat) (sd : SD) : ItD → MS → Res D := fun it M1 => (lcGo it.chk g ta a (wipeD sd vs) it.ds [] M1).ne.bind fun ds M2 => .ok (.cell M2.length) (M2 ++ [.lst ds])
def lstK' : List D → MS → Res D := fun ds M2 => .ok (.lst ds) M2
def celK' : List D → MS → Res D := fun ds M2 => .ok (.cell M2.length) (M2 ++ [.lst ds])
def r1K : List D → MS → Res ItD := fun ds M1 => match ds with
  | [.int j] => if -1000000000 ≤ j ∧ j ≤ 1000000000 then .ok (intsI (rangeN 0 j)) M1 else .stuck
  | _ => .stuck
def r2K : List D → MS → Res ItD := fun ds M1 => match ds with
  | [.int i, .int j] => if -1000000000 ≤ i ∧ i ≤ 1000000000 ∧ -1000000000 ≤ j ∧ j ≤ 1000000000 then .ok (intsI (rangeN i j)) M1 else .stuck
  | _ => .stuck
def r3K : List D → MS → Res ItD := fun ds M1 => match ds with
  | [.int i, .int j, .int c] => if -1000000000 ≤ i ∧ i ≤ 1000000000 ∧ -1000000000 ≤ j ∧ j ≤ 1000000000 ∧ 0 < c ∧ c ≤ 1000000000 then .ok (intsI (rangeC i j c)) M1 else .stuck
  | _ => .stuck
def sfK1 (cs : List String) (f : String) (mo : ME) (sd : SD) : D → MS → SRes := fun v M1 => SRes.ofE (mo sd M1) sd fun o M2 => match setFldD cs f M2 o v with
  | some M3 => .nx sd M3
  | none => .stuck
def sfK2 (cs : List String) (f : String) (sd : SD) (v : D) : D → MS → SRes := fun o M2 => match setFldD cs f M2 o v with
  | some M3 => .nx sd M3
  | none => .stuck
@[simp] theorem seqS_ap : seqS sa sb sd M = (sa sd M).seq sb := rfl
@[simp] theorem setS_ap {i : Nat} : setS i a sd M = SRes.ofE (a sd M) sd (setK sd i) := rfl
@[simp] theorem setK_ap {i : Nat} : setK sd i d M = .nx (sd.set i (some d)) M := rfl
@[simp] theorem exprS_ap : exprS a sd M = SRes.ofE (a sd M) sd (exprK sd) := rfl
@[simp] theorem exprK_ap : exprK sd d M = .nx sd M := rfl
@[simp] theorem retS_ap : retS a sd M = SRes.ofE (a sd M) sd retK := rfl
@[simp] theorem retK_ap : retK d M = .ret d M := rfl
@[simp] theorem passS_ap : passS sd M = .nx sd M := rfl
@[simp] theorem ifS_ap : ifS tc sa sb sd M = SRes.ofE (tc sd M) sd (ifK sa sb sd) := rfl
@[simp] theorem ifK_t : ifK sa sb sd true M = sa sd M := rfl
@[simp] theorem ifK_f : ifK sa sb sd false M = sb sd M := rfl
@[simp] theorem putS_ap {mo mi m : ME} : putS mo mi m sd M = SRes.ofE (m sd M) sd (putK1 mo mi sd) := rfl
@[simp] theorem putK1_ap {mo mi : ME} : putK1 mo mi sd d M = SRes.ofE (mo sd M) sd (putK2 mi sd d) := rfl
@[simp] theorem putK2_ap {mi : ME} : putK2 mi sd d e M = SRes.ofE (mi sd M) sd (putK3 sd d e) := rfl
@[simp] theorem augS_ap {i : Nat} : augS i f a sd M = SRes.ofE (nameE i sd M) sd (augK1 sd i f a) := rfl
@[simp] theorem augK1_ap {i : Nat} : augK1 sd i f a d M = SRes.ofE (a sd M) sd (augK2 sd i f d) := rfl
@[simp] theorem augK2_ap {i : Nat} : augK2 sd i f d e M = SRes.ofE (f d e M) sd (setK sd i) := rfl
@[simp] theorem forS_ap {it : MI} {g : MG} : forS it g sb sd M = SRes.ofE (it sd M) sd (forK g sb sd) := rfl
@[simp] theorem forK_ap {g : MG} {i : ItD} : forK g sb sd i M = forGo i.chk g sb i.ds sd M := rfl
@[simp] theorem SRes.res_nx : (SRes.nx sd M).res = .ok .non M := rfl
@[simp] theorem SRes.res_ret : (SRes.ret d M).res = .ok d M := rfl
@[simp] theorem SRes.res_exc {C : String} {ns : List String} : (SRes.exc C ns ds sd M).res = .exc C ns ds M := rfl
@[simp] theorem nameE_0 {o : D} {r : SD} : nameE 0 (some o :: r) M = .ok o M := rfl
@[simp] theorem nameE_s {i : Nat} {o : Option D} {r : SD} : nameE (i + 1) (o :: r) M = nameE i r M := by unfold nameE; simp
@[simp] theorem constE_ap : constE d sd M = .ok d M := rfl
@[simp] theorem binE_ap : binE f a b sd M = (a sd M).bind (binK f b sd) := rfl
@[simp] theorem binK_ap : binK f b sd d M = (b sd M).bind (binK2 f d) := rfl
@[simp] theorem binK2_ap : binK2 f d e M = f d e M := rfl
@[simp] theorem unE_ap {h : D → MS → Res D} : unE h a sd M = (a sd M).bind h := rfl
@[simp] theorem andE_ap : andE a b sd M = (a sd M).bind (andK b sd) := rfl
@[simp] theorem andK_t : andK b sd (.bl true) M = b sd M := rfl
@[simp] theorem andK_f : andK b sd (.bl false) M = .ok (.bl false) M := rfl
@[simp] theorem orE_ap : orE a b sd M = (a sd M).bind (orK b sd) := rfl
@[simp] theorem orK_t : orK b sd (.bl true) M = .ok (.bl true) M := rfl
@[simp] theorem orK_f : orK b sd (.bl false) M = b sd M := rfl
@[simp] theorem notE_ap : notE a sd M = (a sd M).bind notK := rfl
@[simp] theorem notK_ap {c : Bool} : notK (.bl c) M = .ok (.bl (!c)) M := rfl
@[simp] theorem ifE_ap : ifE tc a b sd M = (tc sd M).bind (ifEK a b sd) := rfl
@[simp] theorem ifEK_t : ifEK a b sd true M = a sd M := rfl
@[simp] theorem ifEK_f : ifEK a b sd false M = b sd M := rfl
@[simp] theorem valB_ap : valB a sd M = (a sd M).bind valK := rfl
@[simp] theorem valK_ap {c : Bool} : valK (.bl c) M = .ok c M := rfl
@[simp] theorem truB_ap : truB a sd M = (a sd M).bind truK := rfl
@[simp] theorem truK_bl {c : Bool} : truK (.bl c) M = .ok c M := rfl
@[simp] theorem truK_non : truK .non M = .ok false M := rfl
@[simp] theorem truK_int {i : Int} : truK (.int i) M = .ok (i != 0) M := rfl
@[simp] theorem truK_lst : truK (.lst ds) M = .ok (!ds.isEmpty) M := rfl
@[simp] theorem truK_flst : truK (.flst ds) M = .ok (!ds.isEmpty) M := rfl
@[simp] theorem truK_tup : truK (.tup ds) M = .ok (!ds.isEmpty) M := rfl
@[simp] theorem andB_ap : andB ta tb sd M = (ta sd M).bind (andBK tb sd) := rfl
@[simp] theorem andBK_t : andBK tb sd true M = tb sd M := rfl
@[simp] theorem andBK_f : andBK tb sd false M = .ok false M := rfl
@[simp] theorem orB_ap : orB ta tb sd M = (ta sd M).bind (orBK tb sd) := rfl
@[simp] theorem orBK_t : orBK tb sd true M = .ok true M := rfl
@[simp] theorem orBK_f : orBK tb sd false M = tb sd M := rfl
@[simp] theorem notB_ap : notB ta sd M = (ta sd M).bind notBK := rfl
@[simp] theorem notBK_ap {c : Bool} : notBK c M = .ok (!c) M := rfl
@[simp] theorem yesB_ap : yesB sd M = .ok true M := rfl
@[simp] theorem nilA_ap : nilA sd M = .ok [] M := rfl
@[simp] theorem consA_ap : consA a ms sd M = (a sd M).bind (consK ms sd) := rfl
@[simp] theorem consK_ap : consK ms sd d M = (ms sd M).bind (consK2 d) := rfl
@[simp] theorem consK2_ap : consK2 d ds M = .ok (d :: ds) M := rfl
@[simp] theorem tupE_ap : tupE ms sd M = (ms sd M).bind tupK := rfl
theorem tupK_ap (h : ds.length ≤ 1000000) : tupK ds M = .ok (.tup ds) M := if_pos h
@[simp] theorem lstE_ap : lstE ms sd M = (ms sd M).bind lstK := rfl
theorem lstK_ap (h : ds.length ≤ 1000000) : lstK ds M = .ok (.lst ds) M := if_pos h
@[simp] theorem celE_ap : celE ms sd M = (ms sd M).bind celK := rfl
theorem celK_ap (h : ds.length ≤ 1000000) : celK ds M = .ok (.cell M.length) (M ++ [.lst ds]) := if_pos h
@[simp] theorem appE_ap {h : List D → MS → Res D} : appE h ms sd M = (ms sd M).bind h := rfl
@[simp] theorem callE_ap {n : Nat} {F : FM} {g : List D → List D} : callE n F g ms sd M = (ms sd M).bind (callK n F g) := rfl
theorem callK_ap {n : Nat} {F : FM} {g : List D → List D} (h : (g ds).length = n) : callK n F g ds M = F (g ds) M := if_pos h
@[simp] theorem callKE_ap {n np nk : Nat} {F : FM} {g : List D → List D → List D} : callKE n np nk F g ms mk sd M = (ms sd M).bind (callKK n np nk F g mk sd) := rfl
@[simp] theorem callKK_ap {n np nk : Nat} {F : FM} {g : List D → List D → List D} : callKK n np nk F g mk sd ds M = (mk sd M).bind (callKK2 n np nk F g ds) := rfl
@[simp] theorem bmE_ap {T : String} {h : D → List D → MS → Res D} : bmE T h a ms sd M = (a sd M).bind (bmK T h ms sd) := rfl
theorem bmK_ap {T : String} {h : D → List D → MS → Res D} (ht : tyvD M T d = true) : bmK T h ms sd d M = (ms sd M).bind (bmK2 h d) := if_pos ht
@[simp] theorem bmK2_ap {h : D → List D → MS → Res D} : bmK2 h d ds M = h d ds M := rfl
@[simp] theorem methE_ap {C m : String} {n : Nat} {F : FM} {g : List D → List D} : methE C m n F g a ms sd M = (a sd M).bind (methK C m n F g ms sd) := rfl
@[simp] theorem anyI_ap : anyI a sd M = (a sd M).bind itK := rfl
@[simp] theorem itK_str {x : List Nat} : itK (.str x) M = .ok ⟨x.map fun c => .str [c], fun _ => True⟩ M := rfl
@[simp] theorem itK_tup : itK (.tup ds) M = .ok ⟨ds, fun _ => True⟩ M := rfl
@[simp] theorem itK_lst : itK (.lst ds) M = .ok ⟨ds, fun _ => True⟩ M := rfl
@[simp] theorem itK_flst : itK (.flst ds) M = .ok ⟨ds, fun _ => True⟩ M := rfl
@[simp] theorem lcE_ap {mi : MI} {g : MG} {vs : List Nat} : lcE mi g ta a vs sd M = (mi sd M).bind (lcK g ta a vs sd) := rfl
@[simp] theorem lcK_ap {g : MG} {vs : List Nat} {it : ItD} : lcK g ta a vs sd it M = (lcGo it.chk g ta a (wipeD sd vs) it.ds [] M).ne.bind lstK' := rfl
@[simp] theorem lstK'_ap : lstK' ds M = .ok (.lst ds) M := rfl
@[simp] theorem lcC_ap {mi : MI} {g : MG} {vs : List Nat} : lcC mi g ta a vs sd M = (mi sd M).bind (lcCK g ta a vs sd) := rfl
@[simp] theorem lcCK_ap {g : MG} {vs : List Nat} {it : ItD} : lcCK g ta a vs sd it M = (lcGo it.chk g ta a (wipeD sd vs) it.ds [] M).ne.bind celK' := rfl
@[simp] theorem celK'_ap : celK' ds M = .ok (.cell M.length) (M ++ [.lst ds]) := rfl
@[simp] theorem range1I_ap : range1I ms sd M = (ms sd M).bind r1K := rfl
theorem r1K_ap {j : Int} (h : -1000000000 ≤ j ∧ j ≤ 1000000000) : r1K [.int j] M = .ok (intsI (rangeN 0 j)) M := if_pos h
@[simp] theorem range2I_ap : range2I ms sd M = (ms sd M).bind r2K := rfl
@[simp] theorem range3I_ap : range3I ms sd M = (ms sd M).bind r3K := rfl
/-- values -/
@[simp] theorem addD_int {i j : Int} : addD (.int i) (.int j) M = .ok (.int (i + j)) M := rfl
@[simp] theorem subI_int {i j : Int} : subI (.int i) (.int j) M = .ok (.int (i - j)) M := rfl
theorem mulD_int {i j : Int} (h : (-(2 ^ 64) < i ∧ i < 2 ^ 64) ∨ (-(2 ^ 64) < j ∧ j < 2 ^ 64)) : mulD (.int i) (.int j) M = .ok (.int (i * j)) M := if_pos h
theorem fdivI_int {i j : Int} (h : 0 < j ∧ j < 1073741824) : fdivI (.int i) (.int j) M = .ok (.int (i / j)) M := if_pos h
theorem modI_int {i j : Int} (h : 0 < j) : modI (.int i) (.int j) M = .ok (.int (i % j)) M := if_pos h
theorem powI_int {i j : Int} (h : 0 ≤ j ∧ j ≤ 1000000 ∧ i.natAbs < 2 ^ 64) : powI (.int i) (.int j) M = .ok (.int (i ^ j.toNat)) M := if_pos h
@[simp] theorem ltD_int {i j : Int} : ltD (.int i) (.int j) M = .ok (.bl (decide (i < j))) M := rfl
@[simp] theorem geD_int {i j : Int} : geD (.int i) (.int j) M = .ok (.bl (decide (j ≤ i))) M := rfl
@[simp] theorem ltD_str {x y : List Nat} : ltD (.str x) (.str y) M = .ok (.bl (decide (x < y))) M := rfl
@[simp] theorem eqD_int {n : Bool} {i j : Int} : eqD n (.int i) (.int j) M = .ok (.bl ((i == j) != n)) M := rfl
@[simp] theorem eqD_str {n : Bool} {x y : List Nat} : eqD n (.str x) (.str y) M = .ok (.bl ((x == y) != n)) M := rfl
@[simp] theorem eqD_bl {n : Bool} {x y : Bool} : eqD n (.bl x) (.bl y) M = .ok (.bl ((x == y) != n)) M := rfl
@[simp] theorem inD_str {n : Bool} {x y : List Nat} : inD n (.str x) (.str y) M = .ok (.bl (subIn x y != n)) M := rfl
theorem ixD_lst {k : Int} (e : L2.atI ds k = some d) : ixD (.lst ds) (.int k) M = .ok d M := by unfold ixD; simp [seqOf, e]
theorem ixD_flst {k : Int} (e : L2.atI ds k = some d) : ixD (.flst ds) (.int k) M = .ok d M := by unfold ixD; simp [seqOf, e]
theorem ixD_cell {n : Nat} {k : Int} (hm : M[n]? = some (.lst ds)) (e : L2.atI ds k = some d) : ixD (.cell n) (.int k) M = .ok d M := by unfold ixD; simp [seqOf, hm, e]
theorem ixN_nat {n j : Nat} (h : j < n) : ixN n (j : Int) = some j := by
  unfold ixN
  rw [if_pos (by omega), if_pos (by omega)]
  simp
theorem atI_of {α : Type} {l : List α} {j : Nat} {x : α} (h : l[j]? = some x) : L2.atI l (j : Int) = some x := by
  unfold L2.atI
  rw [ixN_nat (List.getElem?_eq_some_iff.mp h).1]
  exact h
@[simp] theorem lenF_flst : lenF [.flst ds] M = .ok (.int ds.length) M := rfl
@[simp] theorem lenF_lst : lenF [.lst ds] M = .ok (.int ds.length) M := rfl
@[simp] theorem lenF_tup : lenF [.tup ds] M = .ok (.int ds.length) M := rfl
@[simp] theorem absF_int {i : Int} : absF [.int i] M = .ok (.int (if i < 0 then -i else i)) M := rfl
@[simp] theorem intF_int {i : Int} : intF [.int i] M = .ok (.int i) M := rfl
@[simp] theorem intF_bl {i : Bool} : intF [.bl i] M = .ok (.int (if i then 1 else 0)) M := rfl
@[simp] theorem setFldS_ap {cs : List String} {g : String} {mo m : ME} : setFldS cs g mo m sd M = SRes.ofE (m sd M) sd (sfK1 cs g mo sd) := rfl
@[simp] theorem sfK1_ap {cs : List String} {g : String} {mo : ME} : sfK1 cs g mo sd d M = SRes.ofE (mo sd M) sd (sfK2 cs g sd d) := rfl
end
section
variable {sd : SD} {M : MS} {sa : MST}
theorem runD_ap {n : Nat} {ds : List D} : runD n sa ds M = (sa (startD n ds) M).res := rfl
end
open Classical in
/-- a for whose turns all go on -/
theorem forGo_go {chk : MS → Prop} {g : MG} {body : MST} (I : Nat → SD → MS → Prop) : ∀ (ds : List D) (k : Nat) (sd : SD) (M : MS), I k sd M →
    (∀ i d sd M, ds[i]? = some d → I (k + i) sd M → chk M ∧ ∃ sd1, g d sd = some sd1 ∧ ∃ sd2 M2, (body sd1 M = .nx sd2 M2 ∨ body sd1 M = .ct sd2 M2) ∧ I (k + i + 1) sd2 M2) → (∀ sd M, I (k + ds.length) sd M → chk M) →
    ∃ sd' M', forGo chk g body ds sd M = .nx sd' M' ∧ I (k + ds.length) sd' M'
  | [], k, sd, M, h, _, hc => ⟨sd, M, by unfold forGo; rw [if_pos (hc sd M h)], h⟩
  | d :: ds, k, sd, M, h, ht, hc => by
    obtain ⟨c, sd1, e1, sd2, M2, e2, h2⟩ := ht 0 d sd M rfl h
    have h2 : I (k + 1) sd2 M2 := h2
    have el : k + (d :: ds).length = k + 1 + ds.length := by simp; omega
    obtain ⟨sd', M', e3, h3⟩ := forGo_go I ds (k + 1) sd2 M2 h2 (fun i d' sd M hi hI => by
      have := ht (i + 1) d' sd M (by simpa using hi) (by rw [show k + (i + 1) = k + 1 + i from by omega]; exact hI)
      rw [show k + (i + 1) = k + 1 + i from by omega] at this
      exact this) (fun sd M hI => hc sd M (by rw [el]; exact hI))
    refine ⟨sd', M', ?_, by rw [el]; exact h3⟩
    unfold forGo
    rw [if_pos c, e1]
    rcases e2 with e2 | e2
    · simp only [e2]; exact e3
    · simp only [e2]; exact e3
theorem get_rangeN {lo hi : Int} {i : Nat} {d : D} (h : (intsI (rangeN lo hi)).ds[i]? = some d) : d = .int (lo + i) ∧ lo + i < hi := by
  simp only [intsI, rangeN, List.getElem?_map] at h
  by_cases hi' : i < (hi - lo).toNat
  · rw [List.getElem?_range hi'] at h
    simp at h
    exact ⟨h.symm, by omega⟩
  · rw [List.getElem?_eq_none (by simp; omega)] at h
    simp at h
theorem len_rangeN {lo hi : Int} : (intsI (rangeN lo hi)).ds.length = (hi - lo).toNat := by simp [intsI, rangeN]
end DL
namespace DL
open PySem PySem.Spec L2
open PyProof.Rows hiding St
end DL
namespace DL
open PySem PySem.Spec L2
open PyProof.Rows hiding St
end DL
namespace DL
open PySem PySem.Spec L2
open PyProof.Rows hiding St
variable [HashW]
section
variable {X : Cx} {k : Nat} {f c : Addr} {fd : FuncData} {ps : List Str} {F : FM}
/-- truth of an instance by its __bool__ -/
def truO (C : String) (F : FM) (d : D) (M : MS) : Res Bool := if isIns M C d = true then (F [d] M).ne.bind fun r M1 => match r with
  | .bl b => .ok b M1
  | _ => .stuck else .stuck
def truOB (C : String) (F : FM) (a : ME) : MB := fun sd M => (a sd M).bind fun d M1 => truO C F d M1
end
end DL
namespace DL
open PySem PySem.Spec L2
open PyProof.Rows hiding St
variable [HashW]
section
variable {X : Cx} {k : Nat} {f c : Addr} {fd : FuncData} {ps : List Str} {F : FM}
def notTE (t : MB) : ME := fun sd M => (t sd M).bind fun b M1 => .ok (.bl (!b)) M1
def cutL {α : Type} (xs : List α) (lo hi : Option Int) : List α := (xs.drop (HT.sIx xs.length 0 lo)).take (HT.sIx xs.length xs.length hi - HT.sIx xs.length 0 lo)
abbrev MO' := SD → MS → Res (Option Int)
def soO (m : ME) : MO' := fun sd M => (m sd M).bind fun d M1 => match d with
  | .int i => .ok (some i) M1
  | _ => .stuck
def sliceD (d : D) (lo hi : Option Int) (M : MS) : Res D := match d with
  | .str x => if x.length ≤ 1000000 then .ok (.str (cutL x lo hi)) M else .stuck
  | .tup ds => .ok (.tup (cutL ds lo hi)) M
  | d => match seqOf M d with
    | some ds => .ok (.lst (cutL ds lo hi)) M
    | none => .stuck
def slE (mo : ME) (lo hi : MO') : ME := fun sd M => (mo sd M).bind fun d M1 => (lo sd M1).bind fun l M2 => (hi sd M2).bind fun h M3 => sliceD d l h M3
theorem CallS.or {fv : Value} {f g : List D → MS → Res D} (hf : CallS X fv f) (hg : CallS X fv g) (h : List D → MS → Bool) : CallS X fv (fun ds M => if h ds M = true then f ds M else g ds M) := by
  obtain ⟨r, h1, h2⟩ := hf
  obtain ⟨r', h1', h2'⟩ := hg
  refine ⟨_, CallR.or h1 h1', fun ro H M ds xs E Q R rs P => ?_⟩
  dsimp only at P
  by_cases hc : h ds M = true
  · rw [if_pos hc] at P; exact .inl (h2 ro H M ds xs E Q R rs P)
  · rw [if_neg hc] at P; exact .inr (h2' ro H M ds xs E Q R rs P)
def unpS (g : MG) (m : ME) : MST := fun sd M => SRes.ofE (m sd M) sd fun d M1 => match g d sd with
  | some sd' => .nx sd' M1
  | none => .stuck
def enumD : Nat → List D → List D
  | _, [] => []
  | i, d :: r => .tup [.int (i : Int), d] :: enumD (i + 1) r
def lchk (M : MS) (d : D) : MS → Prop := fun M' => seqOf M' d = seqOf M d
end
end DL
namespace DL
open PySem PySem.Spec L2
open PyProof.Rows hiding St
variable [HashW]
section
variable {X : Cx} {W : WX}
theorem cx_false {P : Program} {w : World} {outer : List Env} {H : Hp} {s : Shared} {u : Value} {s' : Shared} (h : L2.CX P w outer H s (fun _ _ _ => False) u s') : False := by
  obtain ⟨_, _, _, _, _, _, _, _, _, _, _, _, z⟩ := h
  exact z
theorem pass_false {X : Cx} : Passes (L2.CX X.prog X.w) X (fun _ _ _ => False) := fun _ _ _ _ _ _ _ c => (cx_false c).elim
/-- an own class whose __init__ is ValueError's -/
structure BaseX (K : PySem.W.Frag) (B : Addr) : Prop where
  rd : PySem.W.readsIn K B (.type "type") = true
  ga : PySem.W.specialIn K (.ref B) "__getattribute__" = some (some (.builtin "type.__getattribute__"))
  vV : PySem.W.findCls K (.ref B) (.type "type") "__init__" = some (.val (.builtin "ValueError.__init__"))
/-- B.__init__(self, ..), B an own class below ValueError -/
theorem pe_binit {B : Addr} {x : Str} {e : Expr} {es : List Expr} {ta : TA} {p1 p2 pos : Pos} {pl : Sem Bool} (hg : Gl X x) (hm : X.mg x = some (.ref B)) (b : BaseX X.K B) (ha : PA X (e :: es) ta) (hdb : (x == ("__debug__" : Str)) = false := by decide)
    (hc : eval (.Call (.Attribute (.Name x p1) "__init__" p2) (e :: es) [] pos) X.env = (do
      let ov ← eval (.Name x p1) X.env
      standAt p2.atName
      let (f, first) ← holding [ov] (getMethod ov "__init__" pl)
      callWith pos f first (backTo pos (starEach (e :: es) X.env)) (backToKw pos (keywordEach [] X.env))) := by rfl)
    (he : starEach (e :: es) X.env = (false, eval e X.env) :: starEach es X.env := by rfl) (hpl : (backTo pos (starEach es X.env)).any (·.1) = false := by rfl) :
    PE X (.Call (.Attribute (.Name x p1) "__init__" p2) (e :: es) [] pos) (tVeI X.K ta) := by
  refine ⟨fun pins s σ H Q I h => ?_⟩
  refine PySem.W.methodCall_KW (ld_glob I hg hm ?_ hdb) hc
  refine PySem.W.method_cls I.kIn b.ga (PySem.W.cls_value I.kIn b.rd b.vV (by decide +kernel) ?_)
  show wpAny _ _ (callWith pos (Value.builtin "ValueError.__init__") [] (backTo pos (starEach (e :: es) X.env)) []) _ _ _
  refine PyProof.Rows.callWith_method1 (thn (ha.run pos pins _ σ H _ (I.tok _) h) fun us s1 ⟨vs, H1, I1, r1, a, C, ws, ev, hl, T, ea, q⟩ => ?_) he hpl
  subst ev
  cases r1 with
  | @cons _ u0 _ ur ra rw' =>
    obtain rfl : u0 = Value.ref a := ra
    have hlen : ur.length ≤ sizeLine := by
      rw [← Paired.length rw', sizeLine_eq]
      omega
    exact oinit_ok T I1 ea hlen fun s' J => ⟨.non, H1, J, rfl, q⟩
end
def spI1 (K : PySem.W.Frag) (C : Addr) (f : Str) : Sp := fun vs H Q _ => ∃ a y, vs = [.ref a, y] ∧ H a = some (exo a C none) ∧ OexC K C ∧ PySem.W.findIn K (.ref C) f = some none ∧
  ∀ dx, H dx = none → dx ≠ a → Q .non (upd (upd H dx (exd dx [(f, y)])) a (exo a C (some dx)))
def spI2 (K : PySem.W.Frag) (C : Addr) (f g : Str) : Sp := fun vs H Q _ => ∃ a y z, vs = [.ref a, y, z] ∧ H a = some (exo a C none) ∧ OexC K C ∧ PySem.W.findIn K (.ref C) f = some none ∧ PySem.W.findIn K (.ref C) g = some none ∧
  ∀ dx, H dx = none → dx ≠ a → Q .non (upd (upd (upd H dx (exd dx [(f, y)])) a (exo a C (some dx))) dx (exd dx [(g, z), (f, y)]))
section
variable {P : Program} {w : World} {K : PySem.W.Frag} {mg : Str → Option Value} {base : Heap}
theorem init1_ok {x qual : Str} {st : Stmt} {f C B : Addr} {fd : FuncData} {bn fld sn pn : Str} {m : Str} {j : Nat} {p1 p2 p3 p4 p5 p6 p7 p8 p9 p10 : Pos} (Fn : FnP K x qual st [] [] f fd) (S : FnScope [sn, pn] [sn, pn] (defScope st))
    (hB : mg bn = some (.ref B)) (b : BaseX K B) (hdb : (bn == ("__debug__" : Str)) = false := by decide)
    (hbody : defBody st = [.Expr (.Call (.Attribute (.Name bn p1) "__init__" p2) [.Name sn p3, .Constant (.str m) j p4] [] p5) p6, .Assign [.Attribute (.Name sn p7) fld p8] (.Name pn p9) p10] := by rfl)
    (hg : ∀ (cdv : Value) (A : Around) (outer : List Env) (s : Shared) (H : Hp) (E : XK), Gl (cxOf (L2.CX P w) P w K mg base [sn, pn] qual (defScope st) f cdv A outer s H E) bn := by intros; rfl)
    (hc : ∀ (cdv : Value) (A : Around) (outer : List Env) (s : Shared) (H : Hp) (E : XK), ∃ pl, eval (.Call (.Attribute (.Name bn p1) "__init__" p2) [.Name sn p3, .Constant (.str m) j p4] [] p5) (cxOf (L2.CX P w) P w K mg base [sn, pn] qual (defScope st) f cdv A outer s H E).env = (do
      let ov ← eval (.Name bn p1) (cxOf (L2.CX P w) P w K mg base [sn, pn] qual (defScope st) f cdv A outer s H E).env
      standAt p2.atName
      let (f', first) ← holding [ov] (getMethod ov "__init__" pl)
      callWith p5 f' first (backTo p5 (starEach [.Name sn p3, .Constant (.str m) j p4] (cxOf (L2.CX P w) P w K mg base [sn, pn] qual (defScope st) f cdv A outer s H E).env)) (backToKw p5 (keywordEach [] (cxOf (L2.CX P w) P w K mg base [sn, pn] qual (defScope st) f cdv A outer s H E).env))) := by intros; exact ⟨_, rfl⟩)
    (v1 : Vis (defScope st) sn := by exact Or.inl rfl) (v2 : Vis (defScope st) pn := by exact Or.inl rfl) (d1 : (sn == ("__debug__" : Str)) = false := by decide) (d2 : (pn == ("__debug__" : Str)) = false := by decide) (c1 : (sn == ("__classdict__" : Str)) = false := by decide) (c2 : (pn == ("__classdict__" : Str)) = false := by decide) :
    FnOk P w K mg base (L2.CX P w) 1 f fd [sn, pn] (spI1 K C fld) := by
  refine FunD.ok (k := 0) Fn S (fun vs H Q E h => ?_) fun cdv A outer s H vs Q E hr h => ?_
  · obtain ⟨a, y, rfl, _⟩ := h; rfl
  · obtain ⟨a, y, rfl, ea, T, hno, q⟩ := h
    rw [hbody]
    obtain ⟨pl, hc⟩ := hc cdv A outer s H E
    refine ⟨_, pss_cons (ps_expr (pe_binit (pl := pl) (hg cdv A outer s H E) hB b (pa_cons (pe_var (i := 0) rfl v1 d1 c1) (pa_cons pe_str pa_nil)) hdb hc)) (pss_one (ps_ost (pe_var (i := 0) rfl v1 d1 c1) (pe_var (i := 1) rfl v2 d2 c2))), ?_⟩
    refine ⟨_, rfl, a, C, [_], rfl, by simp, T, ea, ?_⟩
    exact ⟨_, rfl, _, rfl, a, C, rfl, T, hno, .inl ⟨ea, fun dx n ne => q dx n ne⟩⟩
theorem init2_ok {x qual : Str} {st : Stmt} {f C B : Addr} {fd : FuncData} {bn fld gld sn pn qn : Str} {m : Str} {j : Nat} {p1 p2 p3 p4 p5 p6 p7 p8 p9 p10 p11 p12 p13 p14 : Pos} (Fn : FnP K x qual st [] [] f fd) (S : FnScope [sn, pn, qn] [sn, pn, qn] (defScope st))
    (hB : mg bn = some (.ref B)) (b : BaseX K B) (hdb : (bn == ("__debug__" : Str)) = false := by decide)
    (hbody : defBody st = [.Expr (.Call (.Attribute (.Name bn p1) "__init__" p2) [.Name sn p3, .Constant (.str m) j p4] [] p5) p6, .Assign [.Attribute (.Name sn p7) fld p8] (.Name pn p9) p10, .Assign [.Attribute (.Name sn p11) gld p12] (.Name qn p13) p14] := by rfl)
    (hg : ∀ (cdv : Value) (A : Around) (outer : List Env) (s : Shared) (H : Hp) (E : XK), Gl (cxOf (L2.CX P w) P w K mg base [sn, pn, qn] qual (defScope st) f cdv A outer s H E) bn := by intros; rfl)
    (hc : ∀ (cdv : Value) (A : Around) (outer : List Env) (s : Shared) (H : Hp) (E : XK), ∃ pl, eval (.Call (.Attribute (.Name bn p1) "__init__" p2) [.Name sn p3, .Constant (.str m) j p4] [] p5) (cxOf (L2.CX P w) P w K mg base [sn, pn, qn] qual (defScope st) f cdv A outer s H E).env = (do
      let ov ← eval (.Name bn p1) (cxOf (L2.CX P w) P w K mg base [sn, pn, qn] qual (defScope st) f cdv A outer s H E).env
      standAt p2.atName
      let (f', first) ← holding [ov] (getMethod ov "__init__" pl)
      callWith p5 f' first (backTo p5 (starEach [.Name sn p3, .Constant (.str m) j p4] (cxOf (L2.CX P w) P w K mg base [sn, pn, qn] qual (defScope st) f cdv A outer s H E).env)) (backToKw p5 (keywordEach [] (cxOf (L2.CX P w) P w K mg base [sn, pn, qn] qual (defScope st) f cdv A outer s H E).env))) := by intros; exact ⟨_, rfl⟩)
    (v1 : Vis (defScope st) sn := by exact Or.inl rfl) (v2 : Vis (defScope st) pn := by exact Or.inl rfl) (v3 : Vis (defScope st) qn := by exact Or.inl rfl) (d1 : (sn == ("__debug__" : Str)) = false := by decide) (d2 : (pn == ("__debug__" : Str)) = false := by decide) (d3 : (qn == ("__debug__" : Str)) = false := by decide)
    (c1 : (sn == ("__classdict__" : Str)) = false := by decide) (c2 : (pn == ("__classdict__" : Str)) = false := by decide) (c3 : (qn == ("__classdict__" : Str)) = false := by decide) :
    FnOk P w K mg base (L2.CX P w) 1 f fd [sn, pn, qn] (spI2 K C fld gld) := by
  refine FunD.ok (k := 0) Fn S (fun vs H Q E h => ?_) fun cdv A outer s H vs Q E hr h => ?_
  · obtain ⟨a, y, z, rfl, _⟩ := h; rfl
  · obtain ⟨a, y, z, rfl, ea, T, hno, hno2, q⟩ := h
    rw [hbody]
    obtain ⟨pl, hc⟩ := hc cdv A outer s H E
    refine ⟨_, pss_cons (ps_expr (pe_binit (pl := pl) (hg cdv A outer s H E) hB b (pa_cons (pe_var (i := 0) rfl v1 d1 c1) (pa_cons pe_str pa_nil)) hdb hc)) (pss_cons (ps_ost (pe_var (i := 0) rfl v1 d1 c1) (pe_var (i := 1) rfl v2 d2 c2)) (pss_one (ps_ost (pe_var (i := 0) rfl v1 d1 c1) (pe_var (i := 2) rfl v3 d3 c3)))), ?_⟩
    refine ⟨_, rfl, a, C, [_], rfl, by simp, T, ea, ?_⟩
    refine ⟨_, rfl, _, rfl, a, C, rfl, T, hno, .inl ⟨ea, fun dx n ne => ?_⟩⟩
    refine ⟨_, rfl, _, rfl, a, C, rfl, T, hno2, .inr ⟨dx, [(fld, y)], upd_same, ?_, by simp, q dx n ne⟩⟩
    rw [upd_ne ne, upd_same]
end
def excS (C : String) (ns : List String) (ma : MA) : MST := fun sd M => SRes.ofE (ma sd M) sd fun ds M1 => if ds.length = ns.length then .exc C ns ds.reverse sd M1 else .stuck
/-- what of the text an own exception class is -/
structure ExC (K : PySem.W.Frag) (mg : Str → Option Value) (C : String) (c fI : Addr) (fs : List String) : Prop where
  mgC : mg (Str.ofString C) = some (.ref c)
  ox : OexC K c
  ini : PySem.W.findIn K (.ref c) "__init__" = some (some (.ref fI))
  ity : PySem.W.typeIn K (.ref fI) = some (.type "function")
  no : ∀ f, f ∈ fs → PySem.W.findIn K (.ref c) (Str.ofString f) = some none
section
variable {X : Cx} {W : WX} {C f g : String} {c fI : Addr} {fd : FuncData} {ps : List Str} {e : Expr} {es : List Expr} {ma : MA} {p pos pos2 : Pos}
theorem ds_raise1 (cx : Ctx X W) (T : ExC X.K X.mg C c fI [f]) (F1 : FnOk X.prog X.w X.K X.mg X.base (L2.CX X.prog X.w) 1 fI fd ps (spI1 X.K c (Str.ofString f))) (hr : Room 2 X.A) (hb : Binds X.K fd ps []) (hg : Gl X (Str.ofString C)) (ha : DA X W [e] ma)
    (hdb : (Str.ofString C == ("__debug__" : Str)) = false := by decide) (he : starEach [e] X.env = (false, eval e X.env) :: starEach [] X.env := by rfl) (hpl : (backTo pos (starEach [] X.env)).any (·.1) = false := by rfl) :
    DS X W (.Raise (some (.Call (.Name (Str.ofString C) p) [e] [] pos)) none pos2) (excS C [f] ma) := by
  refine ⟨⟨fun pins s st H D0 I q => (ps_raise cx.calm cx.tk (pmk_oex (ds := []) (dvs := []) T.ox T.ini T.ity F1 hr hb .nil pass_false hg T.mgC ha.pa hdb he hpl)).run pins s st H D0 I ?_⟩⟩
  obtain ⟨ro, sd, M, R, S, P⟩ := q
  refine ⟨ro, sd, M, R, S, (PostS.ofE P S).imp fun xs H1 ⟨ro1, M1, ds, R1, P1, r1, q1⟩ => ?_⟩
  split at q1
  · rename_i hl
    match ds, hl with
    | [d], _ =>
      obtain ⟨y, rfl, ry⟩ := reps1 r1
      refine ⟨by simp, fun a na => ⟨a, y, rfl, upd_same, T.ox, T.no f (by simp), fun dx ndx nda => ⟨rfl, dx, [(Str.ofString f, y)], upd_same, ?_, ?_, ?_⟩⟩⟩
      · rw [upd_ne nda, upd_same]
      · rw [upd_ne nda] at ndx; exact ndx
      · have nd : H1 dx = none := by rw [upd_ne nda] at ndx; exact ndx
        have eH : upd (del (upd (upd (upd H1 a (exo a c none)) dx (exd dx [(Str.ofString f, y)])) a (exo a c (some dx))) a) dx (.xd [(Str.ofString f, y)]) = upd H1 dx (.xd [(Str.ofString f, y)]) := by
          funext b
          by_cases h1 : b = dx
          · subst h1; rw [upd_same, upd_same]
          · rw [upd_ne h1, upd_ne h1]
            by_cases h2 : b = a
            · subst h2; rw [del_same, na]
            · rw [del_ne h2, upd_ne h2, upd_ne h1, upd_ne h2]
        rw [eH]
        obtain ⟨R2, P2⟩ := R1.alloc (o := .xd [(Str.ofString f, y)]) nd
        exact q1 ro1 _ st (.ref c) (some dx) R2 P2 ((S.mono P1).mono P2) ⟨c, rfl, T.mgC, .inr ⟨dx, [y], ⟨rfl, by simp⟩, upd_same, R1.fresh nd, rfl, Reps.mono P2 _ _ (Reps.one ry)⟩⟩
  · exact q1.elim
theorem ds_raise2 (cx : Ctx X W) (T : ExC X.K X.mg C c fI [f, g]) (F1 : FnOk X.prog X.w X.K X.mg X.base (L2.CX X.prog X.w) 1 fI fd ps (spI2 X.K c (Str.ofString f) (Str.ofString g))) (hr : Room 2 X.A) (hb : Binds X.K fd ps []) (hg : Gl X (Str.ofString C)) (ha : DA X W (e :: es) ma)
    (hdb : (Str.ofString C == ("__debug__" : Str)) = false := by decide) (he : starEach (e :: es) X.env = (false, eval e X.env) :: starEach es X.env := by rfl) (hpl : (backTo pos (starEach es X.env)).any (·.1) = false := by rfl) :
    DS X W (.Raise (some (.Call (.Name (Str.ofString C) p) (e :: es) [] pos)) none pos2) (excS C [g, f] ma) := by
  refine ⟨⟨fun pins s st H D0 I q => (ps_raise cx.calm cx.tk (pmk_oex (ds := []) (dvs := []) T.ox T.ini T.ity F1 hr hb .nil pass_false hg T.mgC ha.pa hdb he hpl)).run pins s st H D0 I ?_⟩⟩
  obtain ⟨ro, sd, M, R, S, P⟩ := q
  refine ⟨ro, sd, M, R, S, (PostS.ofE P S).imp fun xs H1 ⟨ro1, M1, ds, R1, P1, r1, q1⟩ => ?_⟩
  split at q1
  · rename_i hl
    match ds, hl with
    | [d, d2], _ =>
      obtain ⟨y, z, rfl, ry, rz⟩ := reps2 r1
      refine ⟨by simp, fun a na => ⟨a, y, z, rfl, upd_same, T.ox, T.no f (by simp), T.no g (by simp), fun dx ndx nda => ⟨rfl, dx, [(Str.ofString g, z), (Str.ofString f, y)], ?_, upd_same, ?_, ?_⟩⟩⟩
      · rw [upd_ne (Ne.symm nda), upd_same]
      · rw [upd_ne nda] at ndx; exact ndx
      · have nd : H1 dx = none := by rw [upd_ne nda] at ndx; exact ndx
        have eH : upd (del (upd (upd (upd (upd H1 a (exo a c none)) dx (exd dx [(Str.ofString f, y)])) a (exo a c (some dx))) dx (exd dx [(Str.ofString g, z), (Str.ofString f, y)])) a) dx (.xd [(Str.ofString g, z), (Str.ofString f, y)]) = upd H1 dx (.xd [(Str.ofString g, z), (Str.ofString f, y)]) := by
          funext b
          by_cases h1 : b = dx
          · subst h1; rw [upd_same, upd_same]
          · rw [upd_ne h1, upd_ne h1]
            by_cases h2 : b = a
            · subst h2; rw [del_same, na]
            · rw [del_ne h2, upd_ne h1, upd_ne h2, upd_ne h1, upd_ne h2]
        rw [eH]
        obtain ⟨R2, P2⟩ := R1.alloc (o := .xd [(Str.ofString g, z), (Str.ofString f, y)]) nd
        exact q1 ro1 _ st (.ref c) (some dx) R2 P2 ((S.mono P1).mono P2) ⟨c, rfl, T.mgC, .inr ⟨dx, [z, y], ⟨rfl, by simp⟩, upd_same, R1.fresh nd, rfl, ⟨_, _, rfl, Rep.mono P2 _ _ rz, Reps.one (Rep.mono P2 _ _ ry)⟩⟩⟩
  · exact q1.elim
end
def finS (i : Nat) : SRes → SRes
  | .nx sd M => .nx (sd.set i none) M
  | .brk sd M => .brk (sd.set i none) M
  | .ct sd M => .ct (sd.set i none) M
  | .ret d M => .ret d M
  | _ => .stuck
def exSlot (C : String) (ns : List String) (ds : List D) (a d : Addr) : Option D := if ns = [] then some (.exn C [] [] a d) else some (.exn C ns ds a d)
structure ExM (K : PySem.W.Frag) (mg : Str → Option Value) (c : Value) (exm : String → Option Bool) : Prop where
  ok : ∀ C b, exm C = some b → ∀ cc, mg (Str.ofString C) = some (.ref cc) → PySem.W.exmOne K (.ref cc) c = some b
section
variable {X : Cx} {W : WX} {x n : Str} {c : Value} {i : Nat} {body suite : List Stmt} {b₀ : Stmt} {np pos pos' : Pos} {mb : MST} {ms : Addr → Option Addr → MST} {m1 : MST} {exm : String → Option Bool}
/-- e.f, e the exception that the suite holds -/
def xfE (a : Addr) (d : Option Addr) (f : String) (m : ME) : ME := fun sd M => (m sd M).bind fun e M1 => match e with
  | .exn _ ns ds x y => if x = a ∧ some y = d then (match lookF ns ds f with
    | some r => .ok r M1
    | none => .stuck) else .stuck
  | _ => .stuck
end
end DL
namespace DL
open PySem PySem.Spec L2
open PyProof.Rows hiding St
variable [HashW]
section
variable {K : PySem.W.Frag} {mg : Str → Option Value}
/-- except by a table -/
def exmL (l : List (String × Bool)) : String → Option Bool := fun C => match l with
  | [] => none
  | (B, b) :: r => if B = C then some b else exmL r C
theorem exmL_nil {c : Value} : ExM K mg c (exmL []) := ⟨fun C b h => by cases h⟩
theorem exmL_cons {c : Value} {B : String} {cB : Addr} {b : Bool} {l : List (String × Bool)} (hm : mg (Str.ofString B) = some (.ref cB)) (h : PySem.W.exmOne K (.ref cB) c = some b) (r : ExM K mg c (exmL l)) : ExM K mg c (exmL ((B, b) :: l)) := ⟨fun C k e cc hc => by
  unfold exmL at e
  split at e
  · rename_i q
    cases e
    subst q
    rw [hm] at hc; cases hc
    exact h
  · exact r.ok C k e cc hc⟩
theorem oexC_mk {C : Addr} {nm q : Str} {N : Addr} {bs bm : List Value} {sn : List Str} {sub : List Value} {ab : Bool} {col : Option Bool} {dd : Option Addr} {k0 k1 k2 k3 k5 : Option Value} (l : K.lookup C = some (excClassObj nm q C N bs bm true sn sub ab col dd k0 k1 k2 k3 k5 "ValueError.__new__")) (r : PySem.HandSPX.refsVE bm = true)
    (sa : PySem.W.findIn K (.ref C) "__setattr__" = some (some (.builtin "object.__setattr__"))) (ex : PySem.W.subIn K (.ref C) (.type "BaseException") = some true) (ty : PySem.W.typeIn K (.ref C) = some (.type "type")) (kc : PySem.W.keepIn K (.ref C) = true) : OexC K C :=
  ⟨⟨nm, q, N, bs, bm, sn, sub, ab, col, dd, k0, k1, k2, k3, k5, l, r⟩, sa, ex, ty, kc⟩
end
end DL
namespace DL
open PySem PySem.Spec L2
open PyProof.Rows hiding St
end DL
namespace DL
open PySem PySem.Spec L2
open PyProof.Rows hiding St
end DL
namespace DL
open PySem PySem.Spec L2
open PyProof.Rows hiding St
variable [HashW]
section
variable {K : PySem.W.Frag}
theorem kitCls_own {t : Value} {C : Addr} {b : Bool} (h1 : PySem.W.isClsIn K C = true) (h2 : PySem.W.typeIn K (.ref C) = some (.type "type")) (h3 : PySem.W.subIn K t (.ref C) = some b) : PySem.W.kitCls K t (.ref C) = some b := by
  unfold PySem.W.kitCls
  unfold PySem.W.isClsIn at h1
  simp [h1, h2, h3]
theorem exm_own {t : Value} {C : Addr} {b : Bool} (h0 : PySem.W.subIn K (.ref C) (.type "BaseException") = some true) (h1 : PySem.W.isClsIn K C = true) (h2 : PySem.W.typeIn K (.ref C) = some (.type "type")) (h3 : PySem.W.subIn K t (.ref C) = some b) : PySem.W.exmOne K t (.ref C) = some b := by
  unfold PySem.W.exmOne
  rw [h0]
  exact kitCls_own h1 h2 h3
theorem kit_own {t : Value} {C : Addr} {b : Bool} (h0 : (t == Value.ref C) = false ∨ b = true) (h1 : PySem.W.isClsIn K C = true) (h2 : PySem.W.typeIn K (.ref C) = some (.type "type")) (h3 : PySem.W.subIn K t (.ref C) = some b) : PySem.W.kitOne K t (.ref C) = some b := by
  unfold PySem.W.kitOne
  rcases h0 with h0 | rfl
  · rw [h0]; exact kitCls_own h1 h2 h3
  · split
    · rfl
    · exact kitCls_own h1 h2 h3
theorem kit_bt {C : Addr} {T : String} {b : Bool} (h1 : PySem.W.kitMeta T = true) (h3 : PySem.W.subIn K (.ref C) (.type T) = some b) : PySem.W.kitOne K (.ref C) (.type T) = some b := by
  unfold PySem.W.kitOne
  have e : ((Value.ref C) == (Value.type T)) = false := rfl
  rw [e, if_neg (by decide)]
  unfold PySem.W.kitCls
  simp [h1, h3]
end
end DL
namespace DL
open PySem PySem.Spec L2
open PyProof.Rows hiding St
variable [HashW]
section
variable {sd w : SD} {M : MS} {d : D} {ds : List D} {i : Nat} {b : MST} {tt : MB} {te : ME}
@[simp] theorem nameG_ap : nameG i d sd = some (sd.set i (some d)) := rfl
@[simp] theorem intsI_chk {xs : List Int} : (intsI xs).chk = fun _ => True := rfl
/-- what one turn gives goes on -/
def SRes.loop (r : SRes) (k : SD → MS → SRes) : SRes := match r with
  | .nx sd M => k sd M
  | .ct sd M => k sd M
  | .brk sd M => .nx sd M
  | .ret v M => .ret v M
  | .exc C ns ds sd M => .exc C ns ds sd M
  | .stuck => .stuck
@[simp] theorem SRes.loop_nx {k : SD → MS → SRes} : (SRes.nx sd M).loop k = k sd M := rfl
@[simp] theorem SRes.loop_ct {k : SD → MS → SRes} : (SRes.ct sd M).loop k = k sd M := rfl
@[simp] theorem SRes.loop_brk {k : SD → MS → SRes} : (SRes.brk sd M).loop k = .nx sd M := rfl
@[simp] theorem SRes.loop_ret {k : SD → MS → SRes} : (SRes.ret d M).loop k = .ret d M := rfl
@[simp] theorem SRes.loop_exc {k : SD → MS → SRes} {C : String} {ns : List String} : (SRes.exc C ns ds sd M).loop k = .exc C ns ds sd M := rfl
@[simp] theorem forGo_nil {g : MG} : forGo (fun _ => True) g b [] sd M = .nx sd M := by unfold forGo; simp
@[simp] theorem forGo_cons : forGo (fun _ => True) (nameG i) b (d :: ds) sd M = (b (sd.set i (some d)) M).loop (forGo (fun _ => True) (nameG i) b ds) := by
  conv => lhs; unfold forGo
  simp
  unfold SRes.loop
  cases b (sd.set i (some d)) M <;> rfl
/-- a comprehension over a typed list that changes nothing -/
theorem lc_typed {α : Type} {g : α → D} {p : α → Bool} {f : α → D} {xs : List α} (hl : xs.length ≤ 1000000) (h : ∀ x, x ∈ xs → tt (w.set i (some (g x))) M = .ok (p x) M ∧ (p x = true → te (w.set i (some (g x))) M = .ok (f x) M)) :
    lcGo (fun _ => True) (nameG i) tt te w (xs.map g) [] M = .ok ((xs.filter p).map f) M := by
  have key : ∀ (xs : List α) (acc : List D), acc.length + xs.length ≤ 1000000 → (∀ x, x ∈ xs → tt (w.set i (some (g x))) M = .ok (p x) M ∧ (p x = true → te (w.set i (some (g x))) M = .ok (f x) M)) →
      lcGo (fun _ => True) (nameG i) tt te w (xs.map g) acc M = .ok (acc ++ (xs.filter p).map f) M := by
    intro xs
    induction xs with
    | nil => intro acc _ _; simp [lcGo]
    | cons x xs ih =>
      intro acc hl h
      obtain ⟨h1, h2⟩ := h x List.mem_cons_self
      have h3 : ∀ y, y ∈ xs → _ := fun y hy => h y (List.mem_cons_of_mem _ hy)
      rw [List.map_cons]
      unfold lcGo
      rw [if_pos trivial, nameG_ap]
      dsimp only
      rw [h1, Res.ne_ok, Res.bind_ok]
      cases hp : p x with
      | false => simp only [Bool.false_eq_true, if_false]; rw [ih acc (by simp at hl; omega) h3]; simp [hp]
      | true =>
        rw [if_pos rfl, h2 hp, Res.ne_ok, Res.bind_ok, if_pos (by simp at hl; omega), ih (acc ++ [f x]) (by simp at hl ⊢; omega) h3]
        simp [hp]
  have := key xs [] (by simpa using hl) h
  simpa using this
theorem lc_map {α : Type} {g : α → D} {f : α → D} {xs : List α} (hl : xs.length ≤ 1000000) (h : ∀ x, x ∈ xs → te (w.set i (some (g x))) M = .ok (f x) M) :
    lcGo (fun _ => True) (nameG i) yesB te w (xs.map g) [] M = .ok (xs.map f) M := by
  have := lc_typed (tt := yesB) (te := te) (p := fun _ => true) (f := f) (M := M) (w := w) (i := i) (g := g) hl fun x hx => ⟨rfl, fun _ => h x hx⟩
  rwa [List.filter_eq_self.mpr (fun _ _ => rfl)] at this
end
mutual
def toP : D → PyData
  | .bl b => .bool b
  | .int i => .int i
  | .str x => .str (tx x)
  | .tup ds => .tuple (toPs ds)
  | .lst ds => .list (toPs ds)
  | .flst ds => .list (toPs ds)
  | _ => .none
def toPs : List D → List PyData
  | [] => []
  | d :: ds => toP d :: toPs ds
end
abbrev okC (x : List Nat) : Prop := ∀ c, c ∈ x → c < 1114112
mutual
/-- no objects, n levels at most -/
def plN : Nat → D → Prop
  | n, .non => True
  | n, .bl _ => True
  | n, .int _ => True
  | n, .str x => okC x
  | 0, .tup _ => False
  | 0, .lst _ => False
  | 0, .flst _ => False
  | n + 1, .tup ds => plNs n ds
  | n + 1, .lst ds => plNs n ds
  | n + 1, .flst ds => plNs n ds
  | _, _ => False
def plNs : Nat → List D → Prop
  | _, [] => True
  | n, d :: ds => plN n d ∧ plNs n ds
end
theorem toP_str {x : List Nat} (h : okC x) : PyData.canLay0 (.str (tx x)) = true := by
  simpa [PyData.canLay0, PyData.strOk] using h
mutual
theorem pl_py {M : MS} : ∀ (n m : Nat) (d : D), plN n d → n ≤ m → pyN (m + 1) M d = some (toP d) ∧ PyData.canLay0 (toP d) = true ∧ PyData.depth (toP d) ≤ n
  | n, m, .non, _, _ => ⟨rfl, rfl, by simp [toP, PyData.depth]⟩
  | n, m, .bl _, _, _ => ⟨rfl, rfl, by simp [toP, PyData.depth]⟩
  | n, m, .int _, _, _ => ⟨rfl, rfl, by simp [toP, PyData.depth]⟩
  | n, m, .str x, h, _ => ⟨rfl, toP_str (by cases n <;> exact h), by simp [toP, PyData.depth]⟩
  | 0, _, .tup _, h, _ => h.elim
  | 0, _, .lst _, h, _ => h.elim
  | 0, _, .flst _, h, _ => h.elim
  | n + 1, 0, .tup _, _, h => absurd h (by omega)
  | n + 1, 0, .lst _, _, h => absurd h (by omega)
  | n + 1, 0, .flst _, _, h => absurd h (by omega)
  | n + 1, m + 1, .tup ds, h, hm => by
    obtain ⟨h1, h2, h3⟩ := pls_py (M := M) n m ds h (by omega)
    refine ⟨?_, h2, ?_⟩
    · show (mapO (pyN (m + 1) M) ds).map PyData.tuple = _
      rw [h1]; rfl
    · simp only [toP, PyData.depth]; omega
  | n + 1, m + 1, .lst ds, h, hm => by
    obtain ⟨h1, h2, h3⟩ := pls_py (M := M) n m ds h (by omega)
    refine ⟨?_, h2, ?_⟩
    · show (mapO (pyN (m + 1) M) ds).map PyData.list = _
      rw [h1]; rfl
    · simp only [toP, PyData.depth]; omega
  | n + 1, m + 1, .flst ds, h, hm => by
    obtain ⟨h1, h2, h3⟩ := pls_py (M := M) n m ds h (by omega)
    refine ⟨?_, h2, ?_⟩
    · show (mapO (pyN (m + 1) M) ds).map PyData.list = _
      rw [h1]; rfl
    · simp only [toP, PyData.depth]; omega
  | n, m, .obj .., h, _ => by cases n <;> exact h.elim
  | n, m, .dic .., h, _ => by cases n <;> exact h.elim
  | n, m, .glo .., h, _ => by cases n <;> exact h.elim
  | n, m, .ty .., h, _ => by cases n <;> exact h.elim
  | n, m, .exn .., h, _ => by cases n <;> exact h.elim
  | n, m, .cell .., h, _ => by cases n <;> exact h.elim
theorem pls_py {M : MS} : ∀ (n m : Nat) (ds : List D), plNs n ds → n ≤ m → mapO (pyN (m + 1) M) ds = some (toPs ds) ∧ PyData.canLayAll0 (toPs ds) = true ∧ PyData.depthAll (toPs ds) ≤ n
  | n, m, [], _, _ => ⟨rfl, rfl, by simp [toPs, PyData.depthAll]⟩
  | n, m, d :: ds, h, hm => by
    obtain ⟨h1, h2, h3⟩ := pl_py (M := M) n m d h.1 hm
    obtain ⟨g1, g2, g3⟩ := pls_py (M := M) n m ds h.2 hm
    refine ⟨?_, ?_, ?_⟩
    · simp only [mapO, h1, g1, toPs]
    · simp [toPs, PyData.canLayAll0, h2, g2]
    · simp only [toPs, PyData.depthAll]; omega
end
/-- the laws' == -/
def eqvD (d e : D) : Bool := PyData.eqv (toP d) (toP e)
theorem eqSc_v {d e : D} {b : Bool} (h : eqSc d e = some b) : eqvD d e = b := by
  cases d <;> cases e <;> first | cases h | skip
  all_goals first | rfl | skip
  simp only [eqvD, toP, PyData.eqv]
  rename_i x y
  by_cases hxy : x = y
  · subst hxy; simp
  · have : ¬ tx x = tx y := fun z => hxy (tx_inj.mp z)
    rw [beq_eq_false_iff_ne.mpr this, beq_eq_false_iff_ne.mpr hxy]
theorem eqD_plN {neg : Bool} {d e : D} {M : MS} (n : Nat) (hn : n ≤ 29) (hd : plN n d) (he : plN n e) : eqD neg d e M = .ok (.bl (eqvD d e != neg)) M := by
  unfold eqD
  split
  · rename_i h
    obtain ⟨b, hb⟩ := Option.isSome_iff_exists.mp h
    unfold eqS
    rw [hb, eqSc_v hb]
  · obtain ⟨h1, h2, h3⟩ := pl_py (M := M) n 29 d hd (by omega)
    obtain ⟨g1, g2, g3⟩ := pl_py (M := M) n 29 e he (by omega)
    unfold eqP pyD
    rw [h1, g1]
    have s1 : SeqAt.shaped (toP d) = true := by unfold SeqAt.shaped; simp [h2]; omega
    have s2 : SeqAt.shaped (toP e) = true := by unfold SeqAt.shaped; simp [g2]; omega
    simp only [s1, s2, and_self, if_true]
    rfl
theorem eqD_pl {neg : Bool} {d e : D} {M : MS} (hd : plN 7 d) (he : plN 7 e) : eqD neg d e M = .ok (.bl (eqvD d e != neg)) M := eqD_plN 7 (by omega) hd he
mutual
theorem eqv_refl : ∀ p : PyData, PyData.canLay0 p = true → PyData.eqv p p = true
  | .none, _ => rfl
  | .bool b, _ => by simp [PyData.eqv]
  | .int b, _ => by simp [PyData.eqv]
  | .str b, _ => by simp [PyData.eqv]
  | .list ps, h => by rw [PyData.eqv]; exact eqvAll_refl ps h
  | .tuple ps, h => by rw [PyData.eqv]; exact eqvAll_refl ps h
  | .dict _, h => by cases h
theorem eqvAll_refl : ∀ ps : List PyData, PyData.canLayAll0 ps = true → PyData.eqvAll ps ps = true
  | [], _ => rfl
  | p :: ps, h => by
    obtain ⟨h1, h2⟩ := Bool.and_eq_true_iff.mp (show (PyData.canLay0 p && PyData.canLayAll0 ps) = true from h)
    rw [PyData.eqvAll, eqv_refl p h1, eqvAll_refl ps h2]; rfl
end
theorem eqD_refl {neg : Bool} {d : D} {M : MS} (hd : plN 7 d) : eqD neg d d M = .ok (.bl (true != neg)) M := by
  rw [eqD_pl hd hd]
  have := eqv_refl (toP d) (pl_py (M := M) 7 29 d hd (by omega)).2.1
  unfold eqvD
  rw [this]
/-- texts of the world, ints, lists of them at top -/
@[simp] theorem plN_str {n : Nat} {x : List Nat} : plN n (.str x) = okC x := by cases n <;> rfl
@[simp] theorem plN_int {n : Nat} {x : Int} : plN n (.int x) = True := by cases n <;> rfl
@[simp] theorem plN_bl {n : Nat} {x : Bool} : plN n (.bl x) = True := by cases n <;> rfl
@[simp] theorem plN_non {n : Nat} : plN n .non = True := by cases n <;> rfl
@[simp] theorem plN_lst {n : Nat} {ds : List D} : plN (n + 1) (.lst ds) = plNs n ds := rfl
@[simp] theorem plN_flst {n : Nat} {ds : List D} : plN (n + 1) (.flst ds) = plNs n ds := rfl
@[simp] theorem plN_tup {n : Nat} {ds : List D} : plN (n + 1) (.tup ds) = plNs n ds := rfl
@[simp] theorem plNs_nil {n : Nat} : plNs n [] = True := rfl
@[simp] theorem plNs_cons {n : Nat} {d : D} {ds : List D} : plNs n (d :: ds) = (plN n d ∧ plNs n ds) := rfl
section
variable {sd : SD} {M : MS} {ms : MA} {h : D → List D → MS → Res D}
@[simp] theorem bmK_strS {x : List Nat} : bmK "str" h ms sd (.str x) M = (ms sd M).bind (bmK2 h (.str x)) := if_pos rfl
@[simp] theorem bmK_lstS {ds : List D} : bmK "list" h ms sd (.lst ds) M = (ms sd M).bind (bmK2 h (.lst ds)) := if_pos rfl
@[simp] theorem sL_nil : sL "" = [] := rfl
end
end DL
namespace DL
open PySem PySem.Spec L2
open PyProof.Rows hiding St
variable [HashW]
def blOf : D → Option Bool
  | .bl b => some b
  | _ => none
def intOf : D → Option Int
  | .int b => some b
  | _ => none
def stOf : D → Option (List Nat)
  | .str b => some b
  | _ => none
abbrev blsOf (ds : List D) : Option (List Bool) := mapO blOf ds
abbrev intsOf (ds : List D) : Option (List Int) := mapO intOf ds
abbrev stsOf (ds : List D) : Option (List (List Nat)) := mapO stOf ds
theorem mapO_eq {A : Type} {f : D → Option A} {g : A → D} (h : ∀ d a, f d = some a → d = g a) : ∀ {ds : List D} {as : List A}, mapO f ds = some as → ds = as.map g
  | [], as, e => by cases e; rfl
  | d :: ds, as, e => by
    unfold mapO at e
    cases h1 : f d with
    | none => rw [h1] at e; cases e
    | some a =>
      cases h2 : mapO f ds with
      | none => rw [h1, h2] at e; cases e
      | some bs =>
        rw [h1, h2] at e; cases e
        rw [h d a h1, mapO_eq h h2]; rfl
theorem mapO_map {A : Type} {f : D → Option A} {g : A → D} (h : ∀ a, f (g a) = some a) : ∀ as : List A, mapO f (as.map g) = some as
  | [] => rfl
  | a :: as => by simp only [List.map_cons, mapO, h a, mapO_map h as]
theorem intsOf_eq {ds : List D} {bs : List Int} (e : intsOf ds = some bs) : ds = bs.map D.int := mapO_eq (fun d a h => by cases d <;> cases h; rfl) e
@[simp] theorem blsOf_map (bs : List Bool) : blsOf (bs.map D.bl) = some bs := mapO_map (f := blOf) (g := D.bl) (fun _ => rfl) bs
@[simp] theorem intsOf_map (bs : List Int) : intsOf (bs.map D.int) = some bs := mapO_map (f := intOf) (g := D.int) (fun _ => rfl) bs
@[simp] theorem stsOf_map (bs : List (List Nat)) : stsOf (bs.map D.str) = some bs := mapO_map (f := stOf) (g := D.str) (fun _ => rfl) bs
def leS (a b : List Nat) : Bool := !decide (b < a)
def sortT (ns : List (List Nat)) : List (List Nat) := ns.mergeSort leS
def chK (f g : D → D → MS → Res D) (c : ME) (sd : SD) (x y : D) : D → MS → Res D := fun z M3 => match z with
  | .bl true => (c sd M3).bind fun w M4 => g y w M4
  | .bl false => .ok (.bl false) M3
  | _ => .stuck
def chE (f g : D → D → MS → Res D) (a b c : ME) : ME := fun sd M => (a sd M).bind fun x M1 => (b sd M1).bind fun y M2 => (f x y M2).bind (chK f g c sd x y)
@[simp] theorem chE_ap {f g : D → D → MS → Res D} {a b c : ME} {sd : SD} {M : MS} : chE f g a b c sd M = (a sd M).bind fun x M1 => (b sd M1).bind fun y M2 => (f x y M2).bind (chK f g c sd x y) := rfl
@[simp] theorem chK_t {f g : D → D → MS → Res D} {c : ME} {sd : SD} {M : MS} {x y : D} : chK f g c sd x y (.bl true) M = (c sd M).bind fun w M4 => g y w M4 := rfl
@[simp] theorem chK_f {f g : D → D → MS → Res D} {c : ME} {sd : SD} {M : MS} {x y : D} : chK f g c sd x y (.bl false) M = .ok (.bl false) M := rfl
end DL
namespace DL
open PySem PySem.Spec L2
open PyProof.Rows hiding St
end DL
namespace DL
open PySem PySem.Spec L2
open PyProof.Rows hiding St
end DL
namespace DL
open PySem PySem.Spec L2
open PyProof.Rows hiding St
variable [HashW]
def revAE (mo : ME) : ME := fun sd M => (mo sd M).bind fun d M1 => match d with
  | .str x => if x.length ≤ 1000000 then .ok (.str x.reverse) M1 else .stuck
  | d => if isTup d = true then .stuck else match seqOf M1 d with
    | some ds => .ok (.lst ds.reverse) M1
    | none => .stuck
@[simp] theorem revE_ap {me : ME} {sd : SD} {M : MS} : revAE me sd M = (me sd M).bind fun d M1 => match d with
  | .str x => if x.length ≤ 1000000 then .ok (.str x.reverse) M1 else .stuck
  | d => if isTup d = true then .stuck else match seqOf M1 d with
    | some ds => .ok (.lst ds.reverse) M1
    | none => .stuck := rfl
section
variable {C m : String} {okT : TN → Bool} {F : FM} {ns ns' bs : List String} {ds ds' es : List D} {d e r : D} {M M' : MS} {b : Bool} {i : Int} {x : List Nat} {sd : SD} {a : ME} {ms : MA} {n : Nat} {g : List D → List D}
@[simp] theorem truOB_ap : truOB C F a sd M = (a sd M).bind (truO C F) := rfl
def notTK : Bool → MS → Res D := fun b M1 => .ok (.bl (!b)) M1
@[simp] theorem notTE_ap {t : MB} : notTE t sd M = (t sd M).bind notTK := rfl
@[simp] theorem notTK_ap {b : Bool} : notTK b M = .ok (.bl (!b)) M := rfl
theorem addD_lst (h : (ds.length + es.length) ≤ 1000000) : addD (.lst ds) (.lst es) M = .ok (.lst (ds ++ es)) M := by
  unfold addD
  rw [if_neg (by simp [isI2]), if_neg (by simp [isS2]), if_neg (by simp [isT2])]
  unfold addL
  simp [isTup, h]
end
end DL
namespace DL
open PySem PySem.Spec L2
open PyProof.Rows hiding St
end DL
namespace DL
open PySem PySem.Spec L2
open PyProof.Rows hiding St
variable [HashW]
section
variable {sd : SD} {M : MS} {d e : D} {ds es : List D} {x y : List Nat} {mo m : ME} {lo hi : MO'} {l h : Option Int}
def slK1 (lo hi : MO') (sd : SD) : D → MS → Res D := fun d M1 => (lo sd M1).bind fun l M2 => (hi sd M2).bind fun h M3 => sliceD d l h M3
def slK2 (hi : MO') (sd : SD) (d : D) : Option Int → MS → Res D := fun l M2 => (hi sd M2).bind fun h M3 => sliceD d l h M3
def slK3 (d : D) (l : Option Int) : Option Int → MS → Res D := fun h M3 => sliceD d l h M3
def soK : D → MS → Res (Option Int) := fun d M1 => match d with
  | .int i => .ok (some i) M1
  | _ => .stuck
@[simp] theorem slE_ap : slE mo lo hi sd M = (mo sd M).bind (slK1 lo hi sd) := rfl
@[simp] theorem slK1_ap : slK1 lo hi sd d M = (lo sd M).bind (slK2 hi sd d) := rfl
@[simp] theorem slK2_ap : slK2 hi sd d l M = (hi sd M).bind (slK3 d l) := rfl
@[simp] theorem slK3_ap : slK3 d l h M = sliceD d l h M := rfl
@[simp] theorem soO_ap : soO m sd M = (m sd M).bind soK := rfl
@[simp] theorem soK_ap {i : Int} : soK (.int i) M = .ok (some i) M := rfl
@[simp] theorem sliceD_lst : sliceD (.lst ds) l h M = .ok (.lst (cutL ds l h)) M := rfl
@[simp] theorem sliceD_tup : sliceD (.tup ds) l h M = .ok (.tup (cutL ds l h)) M := rfl
@[simp] theorem isiB_str : isiF [] tblB [.str x, .ty "str"] M = .ok (.bl true) M := rfl
@[simp] theorem isiB_tup : isiF [] tblB [.tup ds, .ty "str"] M = .ok (.bl false) M := rfl
end
end DL
namespace DL
open PySem PySem.Spec L2
open PyProof.Rows hiding St
variable [HashW]
theorem nameE_ne {i j : Nat} {sd : SD} {M : MS} {v : Option D} (h : j ≠ i) : nameE j (sd.set i v) M = nameE j sd M := by
  unfold nameE
  rw [List.getElem?_set_ne (Ne.symm h)]
theorem nameE_dich (i : Nat) (sd : SD) : (∃ d, ∀ M, nameE i sd M = .ok d M) ∨ ∀ M, nameE i sd M = .stuck := by
  unfold nameE
  cases h : sd[i]? with
  | none => exact .inr fun M => by simp
  | some o =>
    cases o with
    | none => exact .inr fun M => by simp
    | some d => exact .inl ⟨d, fun M => by simp⟩
theorem set3 {i j : Nat} {sd : SD} {u v w : Option D} (h : j ≠ i) : ((sd.set i v).set j w).set i u = (sd.set j w).set i u := by
  rw [List.set_comm _ _ (Ne.symm h), List.set_set]
end DL
namespace DL
open PySem PySem.Spec L2
open PyProof.Rows hiding St
variable [HashW]
abbrev cxW (P : Program) (w : World) (K : PySem.W.Frag) (mg : Str → Option Value) (base : Heap) (N : List Str) (qual : Str) (sc : Scope) (f : Addr) (cd : Value) (A : Around) (outer : List Env) (s : Shared) (H : Hp) (E : XK) (p : Addr × Obj) : Cx :=
  L2H.cxH (L2.CX P w) P w K mg base N qual sc f cd A outer s H E p
theorem roomH_mark {k : Nat} {A : Around} {h : Option Value} (r : Room k A) : L2H.RoomH k (A.mark h) := ⟨r.dp, r.un⟩
section
variable {s s' : SD} {a a' b b' : ME} {ms ms' : MA} {f : D → D → MS → Res D} {g : D → MS → Res D} {h : List D → MS → Res D} {n : Nat} {F : FM} {q : List D → List D} {j : Nat}
theorem eqA_nil : ∀ M, nilA s M = nilA s' M := fun _ => rfl
theorem eqA_cons (ha : ∀ M, a s M = a' s' M) (hb : ∀ M, ms s M = ms' s' M) : ∀ M, consA a ms s M = consA a' ms' s' M := fun M => by
  rw [consA_ap, consA_ap, ha]
  congr 1
  funext d M1
  rw [consK_ap, consK_ap, hb]
theorem eqE_lst (ha : ∀ M, ms s M = ms' s' M) : ∀ M, lstE ms s M = lstE ms' s' M := fun M => by rw [lstE_ap, lstE_ap, ha]
end
end DL
namespace DL
open PySem PySem.Spec L2
open PyProof.Rows hiding St
end DL
namespace DL
open PySem PySem.Spec L2
open PyProof.Rows hiding St
variable [HashW]
def enumX (m : ME) : MI := fun sd M => (m sd M).bind fun d M1 => match seqOf M1 d with
  | some ds => .ok ⟨enumD 0 ds, lchk M1 d⟩ M1
  | none => .stuck
end DL
namespace DL
open PySem PySem.Spec L2
open PyProof.Rows hiding St
end DL
namespace DL
open PySem PySem.Spec L2
open PyProof.Rows hiding St
variable [HashW]
abbrev Rw := Int × Value
/-- the set at a: its rows keep Phi -/
def SetG (w : World) (h : Heap) (a : Addr) (Phi : List Rw → Prop) : Prop :=
  ∃ (o : Obj) (rs : Array Rw) (n : Nat) (t : SetTable), h.get? a = some o ∧ o.ExactSet ∧ o.data = .set rs n t ∧ Phi rs.toList ∧ rs.size < scanBound ∧ t.fits rs.size = true ∧ Ris t.place.toList ∧ (w.params.followText "set-order" = true ∨ t.led = true)
theorem SetG.keep {w : World} {h h' : Heap} {a : Addr} {Phi : List Rw → Prop} (G : SetG w h a Phi) (k : ∀ o, h.get? a = some o → h'.get? a = some o) : SetG w h' a Phi :=
  let ⟨o, rs, n, t, z, r⟩ := G
  ⟨o, rs, n, t, k o z, r⟩
theorem SetG.imp {w : World} {h : Heap} {a : Addr} {Phi Psi : List Rw → Prop} (G : SetG w h a Phi) (k : ∀ l, Phi l → Psi l) : SetG w h a Psi :=
  let ⟨o, rs, n, t, z1, z2, z3, z4, r⟩ := G
  ⟨o, rs, n, t, z1, z2, z3, k _ z4, r⟩
end DL
namespace DL
open PySem PySem.Spec L2
open PyProof.Rows hiding St
variable [HashW]
section
variable {P : Program} {w : World} {A : Around} {E : Value → Shared → Prop} {s : Shared} {a b : Addr} {xs ys : List (List Nat)}
def sameT (xs ys : List (List Nat)) : Bool := decide (xs.length = ys.length) && xs.all fun x => decide (x ∈ ys)
end
end DL
namespace DL
open PySem PySem.Spec L2
open PyProof.Rows hiding St
variable [HashW]
abbrev MT := SD → MS → Res (List (List Nat))
def lenZE (m : MT) : ME := fun sd M => (m sd M).bind fun xs M1 => .ok (.int (xs.length : Nat)) M1
def sortZE (m : MT) : ME := fun sd M => (m sd M).bind fun xs M1 => .ok (.lst ((sortT xs).map D.str)) M1
def sameZE (neg : Bool) (m m' : MT) : ME := fun sd M => (m sd M).bind fun xs M1 => (m' sd M1).bind fun ys M2 => .ok (.bl (sameT xs ys != neg)) M2
section
variable {X : Cx} {W : WX} {e e' : Expr} {ma : ME} {m m' : MT} {p p2 pos q : Pos}
def sameZB (neg : Bool) (m m' : MT) : MB := fun sd M => (m sd M).bind fun xs M1 => (m' sd M1).bind fun ys M2 => .ok (sameT xs ys != neg) M2
end
section
variable {sd : SD} {M : MS} {ma : ME} {m m' : MT} {neg : Bool}
@[simp] theorem lenZE_ap : lenZE m sd M = (m sd M).bind fun xs M1 => .ok (.int (xs.length : Nat)) M1 := rfl
@[simp] theorem sortZE_ap : sortZE m sd M = (m sd M).bind fun xs M1 => .ok (.lst ((sortT xs).map D.str)) M1 := rfl
@[simp] theorem sameZE_ap : sameZE neg m m' sd M = (m sd M).bind fun xs M1 => (m' sd M1).bind fun ys M2 => .ok (.bl (sameT xs ys != neg)) M2 := rfl
@[simp] theorem sameZB_ap : sameZB neg m m' sd M = (m sd M).bind fun xs M1 => (m' sd M1).bind fun ys M2 => .ok (sameT xs ys != neg) M2 := rfl
end
end DL
namespace DL
open PySem PySem.Spec L2
open PyProof.Rows hiding St
variable [HashW]
def isKey (k : Key) (d : D) : Bool := decide (keyD d = some k)
/-- the keys and values behind d[i] = v -/
def dputD (ks ds : List D) (i v : D) : Option (List D × List D) := match keyD i with
  | some k => if ks.length < 1000000 then (if ks.any (isKey k) = true then some (ks, List.zipWith (fun d x => if isKey k d = true then v else x) ks ds) else some (ks ++ [i], ds ++ [v])) else none
  | none => none
def dputM (M : MS) (o i v : D) : Option MS := match o with
  | .cell n => match M[n]? with
    | some (.dic ks ds) => (dputD ks ds i v).map fun p => M.set n (.dic p.1 p.2)
    | _ => none
  | _ => none
def dputS (mo mi m : ME) : MST := fun sd M => SRes.ofE (m sd M) sd fun v M1 => SRes.ofE (mo sd M1) sd fun o M2 => SRes.ofE (mi sd M2) sd fun i M3 => match dputM M3 o i v with
  | some M4 => .nx sd M4
  | none => .stuck
def revN (n : Nat) : List Int := (List.range n).map fun (k : Nat) => (0 + (n : Int) - 1) + k * (-1)
def rev1I (m : ME) : MI := fun sd M => (m sd M).bind fun d M1 => match d with
  | .int j => if -1000000000 ≤ j ∧ j ≤ 1000000000 then .ok (intsI (revN j.toNat)) M1 else .stuck
  | _ => .stuck
end DL
namespace DL
abbrev Lr := List Nat
abbrev Wd := List (List Nat)
def SameC (u v : Wd) : Prop := ∀ x, x ∈ u ↔ x ∈ v
theorem SameC.symm {u v : Wd} (h : SameC u v) : SameC v u := fun x => (h x).symm
theorem SameC.trans {u v w : Wd} (h : SameC u v) (k : SameC v w) : SameC u w := fun x => (h x).trans (k x)
theorem SameC.nil {u v : Wd} (h : SameC u v) (e : u = []) : v = [] := by
  subst e
  cases v with
  | nil => rfl
  | cons x v => exact absurd ((h x).mpr List.mem_cons_self) (by simp)
/-- the beginning, found letter by letter -/
def stepB (s : Wd × Wd × Lr) (x : Lr) : Wd × Wd × Lr := (s.1 ++ [x], if x ∈ s.1 then s.2 else (s.1, x))
def begF (w : Wd) : Wd × Lr := (w.foldl stepB ([], [], [])).2
def endF (w : Wd) : Lr × Wd := ((begF w.reverse).2, (begF w.reverse).1.reverse)
abbrev bP (w : Wd) : Wd := (begF w).1
abbrev eS (w : Wd) : Wd := (endF w).2
def mv1 (p : Bool) (w : Wd) : Wd := if p = true then bP w else eS w
def mv : List Bool → Wd → Wd
  | [], w => w
  | p :: m, w => mv m (mv1 p w)
/-- band-alike -/
def Al (u v : Wd) : Prop := ∀ m, SameC (mv m u) (mv m v)
theorem Al.symm {u v : Wd} (h : Al u v) : Al v u := fun m => (h m).symm
theorem Al.trans {u v w : Wd} (h : Al u v) (k : Al v w) : Al u w := fun m => (h m).trans (k m)
theorem Al.c {u v : Wd} (h : Al u v) : SameC u v := h []
theorem Al.of {u v : Wd} (h : SameC u v) (h1 : ∀ p, Al (mv1 p u) (mv1 p v)) : Al u v := fun m => match m with
  | [] => h
  | p :: m => h1 p m
end DL
namespace DL
open PySem PySem.Spec L2
open PyProof.Rows hiding St
variable [HashW]
section
variable {sd : SD} {M M1 : MS} {d e v : D} {ds es : List D} {m mo mi : ME} {neg : Bool}
def dputK1 (mo mi : ME) (sd : SD) : D → MS → SRes := fun v M1 => SRes.ofE (mo sd M1) sd fun o M2 => SRes.ofE (mi sd M2) sd fun i M3 => match dputM M3 o i v with
  | some M4 => .nx sd M4
  | none => .stuck
def dputK2 (mi : ME) (sd : SD) (v : D) : D → MS → SRes := fun o M2 => SRes.ofE (mi sd M2) sd fun i M3 => match dputM M3 o i v with
  | some M4 => .nx sd M4
  | none => .stuck
def dputK3 (sd : SD) (v o : D) : D → MS → SRes := fun i M3 => match dputM M3 o i v with
  | some M4 => .nx sd M4
  | none => .stuck
@[simp] theorem dputS_ap : dputS mo mi m sd M = SRes.ofE (m sd M) sd (dputK1 mo mi sd) := rfl
@[simp] theorem dputK1_ap : dputK1 mo mi sd v M = SRes.ofE (mo sd M) sd (dputK2 mi sd v) := rfl
@[simp] theorem dputK2_ap : dputK2 mi sd v d M = SRes.ofE (mi sd M) sd (dputK3 sd v d) := rfl
def rv1K : D → MS → Res ItD := fun d M1 => match d with
  | .int j => if -1000000000 ≤ j ∧ j ≤ 1000000000 then .ok (intsI (revN j.toNat)) M1 else .stuck
  | _ => .stuck
@[simp] theorem rev1I_ap : rev1I m sd M = (m sd M).bind rv1K := rfl
def enK : D → MS → Res ItD := fun d M1 => match seqOf M1 d with
  | some ds => .ok ⟨enumD 0 ds, lchk M1 d⟩ M1
  | none => .stuck
@[simp] theorem enumX_ap : enumX m sd M = (m sd M).bind enK := rfl
def unpK (g : MG) (sd : SD) : D → MS → SRes := fun d M1 => match g d sd with
  | some sd1 => .nx sd1 M1
  | none => .stuck
@[simp] theorem unpS_ap {g : MG} : unpS g m sd M = SRes.ofE (m sd M) sd (unpK g sd) := rfl
end
end DL
namespace DL
open PySem PySem.Spec L2
open PyProof.Rows hiding St
variable [HashW]
open Classical in
noncomputable def lc2Go (chk : MS → Prop) (g : MG) (tt : MB) (mi1 : MI) (g1 : MG) (tt1 : MB) (te : ME) (vs1 : List Nat) (w : SD) : List D → List D → MS → Res (List D)
  | [], acc, M => if chk M then .ok acc M else .stuck
  | d :: r, acc, M => if chk M then (match g d w with
    | none => .stuck
    | some sd1 => (tt sd1 M).ne.bind fun b M1 => if b = true then (mi1 sd1 M1).ne.bind fun it1 M2 => (lcGo it1.chk g1 tt1 te (wipeD sd1 vs1) it1.ds acc M2).ne.bind fun acc' M3 => lc2Go chk g tt mi1 g1 tt1 te vs1 w r acc' M3 else lc2Go chk g tt mi1 g1 tt1 te vs1 w r acc M1) else .stuck
noncomputable def lc2E (mi : MI) (g : MG) (tt : MB) (mi1 : MI) (g1 : MG) (tt1 : MB) (te : ME) (vs vs1 : List Nat) : ME := fun sd M => (mi sd M).bind fun it M1 => (lc2Go it.chk g tt mi1 g1 tt1 te vs1 (wipeD sd vs) it.ds [] M1).ne.bind fun ds M2 => .ok (.lst ds) M2
theorem PresW.trans {r0 r1 r2 : Pl} {H0 H1 H2 : Hp} (p : PresW r0 H0 r1 H1) (q : PresW r1 H1 r2 H2) : PresW r0 H0 r2 H2 := by
  refine ⟨?_, fun a o h hn => ?_, fun a h => ?_⟩
  · obtain ⟨t, e⟩ := p.pre
    obtain ⟨u, e'⟩ := q.pre
    exact ⟨t ++ u, by rw [e', e, List.append_assoc]⟩
  · have h1 := p.keep a o h hn
    exact q.keep a o h1 (p.out hn (by rw [h]; simp))
  · rcases q.new a h with z | z
    · exact p.new a z
    · by_cases hm : a ∈ r0.all
      · exact .inl hm
      · refine .inr ?_
        cases e : H0 a with
        | none => rfl
        | some o => rw [p.keep a o e hm] at z; cases z
theorem PresW.put {ro : Pl} {H : Hp} {p : Addr} {o : HO} (h : p ∈ ro.hid) : PresW ro H ro (upd H p o) := ⟨⟨[], by simp⟩, fun a u e n => by
  rw [upd_ne (fun z : a = p => n (List.mem_append_right _ (by rw [z]; exact h)))]; exact e, fun _ h => .inl h⟩
section
variable {sd : SD} {M : MS} {mi mi1 : MI} {g g1 : MG} {tt tt1 : MB} {te : ME} {vs vs1 : List Nat}
noncomputable def lc2K (g : MG) (tt : MB) (mi1 : MI) (g1 : MG) (tt1 : MB) (te : ME) (vs vs1 : List Nat) (sd : SD) : ItD → MS → Res D := fun it M1 => (lc2Go it.chk g tt mi1 g1 tt1 te vs1 (wipeD sd vs) it.ds [] M1).ne.bind lstK'
@[simp] theorem lc2E_ap : lc2E mi g tt mi1 g1 tt1 te vs vs1 sd M = (mi sd M).bind (lc2K g tt mi1 g1 tt1 te vs vs1 sd) := rfl
end
end DL
namespace DL
open PySem PySem.Spec L2
open PyProof.Rows hiding St
variable [HashW]
section
variable {X : Cx} {W : WX}
/-- downward by ones -/
def downN (i j : Int) : List Int := (List.range (i - j).toNat).map fun (k : Nat) => i + k * (-1)
def range3N (a : MA) : MI := fun sd M => (a sd M).bind fun ds M1 => match ds with
  | [.int i, .int j, .int c] => if -1000000000 ≤ i ∧ i ≤ 1000000000 ∧ -1000000000 ≤ j ∧ j ≤ 1000000000 ∧ c = -1 then .ok (intsI (downN i j)) M1 else .stuck
  | _ => .stuck
end
section
variable {sd : SD} {M : MS} {ms : MA}
def r3N : List D → MS → Res ItD := fun ds M1 => match ds with
  | [.int i, .int j, .int c] => if -1000000000 ≤ i ∧ i ≤ 1000000000 ∧ -1000000000 ≤ j ∧ j ≤ 1000000000 ∧ c = -1 then .ok (intsI (downN i j)) M1 else .stuck
  | _ => .stuck
@[simp] theorem range3N_ap : range3N ms sd M = (ms sd M).bind r3N := rfl
end
end DL
namespace DL
open PySem PySem.Spec L2
open PyProof.Rows hiding St
end DL
namespace DL
open PySem PySem.Spec L2
open PyProof.Rows hiding St
end DL
namespace DL
open PySem PySem.Spec L2
open PyProof.Rows hiding St
end DL
namespace DL
open PySem PySem.Spec L2
open PyProof.Rows hiding St
end DL
namespace DL
open PySem PySem.Spec L2
open PyProof.Rows hiding St
end DL
namespace DL
open PySem PySem.Spec L2
open PyProof.Rows hiding St
variable [HashW]
section
variable {P : Program} {w : World} {K : PySem.W.Frag} {mg : Str → Option Value} {base : Heap}
abbrev FG := List D → List D → MS → Res D
/-- what a call of the def at f with keywords ks comes to -/
def DOkG (P : Program) (w : World) (K : PySem.W.Frag) (mg : Str → Option Value) (base : Heap) (k : Nat) (f : Addr) (ks : List Str) (G : FG) : Prop :=
  ∀ (A : Around) (outer : List Env) (s : Shared) (H : Hp) (us ws : List Value) (vs zs : List V) (Q : VK) (E : XK) (ro : Pl) (ds es : List D) (M : MS), Room k A → Env0 P w K mg base A outer s H → Vals vs us → Vals zs ws →
    RelS K mg ro M H → Reps K mg ro H ds vs → Reps K mg ro H es zs → es.length = ks.length → PostD K mg E ro H Q (G ds es M) → codeAny (model P w) A (.call (.ref f) ⟨us, ks.zip ws⟩) (CR (L2.CX P w) outer P w H s Q E) s
theorem DOkG.mono {j k : Nat} {f : Addr} {ks : List Str} {G : FG} (h : DOkG P w K mg base j f ks G) (hjk : j ≤ k) : DOkG P w K mg base k f ks G :=
  fun A outer s H us ws vs zs Q E ro ds es M hr => h A outer s H us ws vs zs Q E ro ds es M (hr.mono hjk)
end
end DL
namespace DL
open PySem PySem.Spec L2
open PyProof.Rows hiding St
variable [HashW]
def isBF (neg : Bool) (d e : D) (M : MS) : Res D := match d, e with
  | .bl a, .bl b => .ok (.bl ((a == b) != neg)) M
  | _, _ => .stuck
@[simp] theorem isBF_ap {neg a b : Bool} {M : MS} : isBF neg (.bl a) (.bl b) M = .ok (.bl ((a == b) != neg)) M := rfl
end DL
namespace DL
open PySem PySem.Spec L2
open PyProof.Rows hiding St
end DL
namespace DL
open PySem PySem.Spec L2
open PyProof.Rows hiding St
variable [HashW]
def revAC (mo : ME) : ME := fun sd M => (mo sd M).bind fun d M1 => match d with
  | .str _ => .stuck
  | d => if isTup d = true then .stuck else match seqOf M1 d with
    | some ds => .ok (.cell M1.length) (M1 ++ [.lst ds.reverse])
    | none => .stuck
@[simp] theorem revC_ap {me : ME} {sd : SD} {M : MS} : revAC me sd M = (me sd M).bind fun d M1 => match d with
  | .str _ => .stuck
  | d => if isTup d = true then .stuck else match seqOf M1 d with
    | some ds => .ok (.cell M1.length) (M1 ++ [.lst ds.reverse])
    | none => .stuck := rfl
end DL
namespace DL
open PySem PySem.Spec L2
open PyProof.Rows hiding St
variable [HashW]
structure DET (X : Cx) (W : WX) (e : Expr) (m : ME) : Prop where
  pe : PET X e (liftE X.K X.mg W m)
structure DST (X : Cx) (W : WX) (s : Stmt) (m : MST) : Prop where
  ps : PST X s (liftS X.K X.mg W m)
structure DSsT (X : Cx) (W : WX) (s : List Stmt) (m : MST) : Prop where
  ps : PSsT X s (liftS X.K X.mg W m)
section
variable {X : Cx} {W : WX} {e o tg iter : Expr} {es : List Expr} {m mo ma : ME} {ms : MA} {mi : MI} {s : Stmt} {rest body : List Stmt} {sa sb : MST} {pos : Pos} {g : MG} {ix : List Nat}
theorem DE.t (h : DE X W e m) : DET X W e m := ⟨fun pins s σ H Q _ I q => h.pe.run pins s σ H Q I q⟩
theorem DS.t (h : DS X W s sa) : DST X W s sa := ⟨fun pins s σ H D _ I q => h.ps.run pins s σ H D I q⟩
theorem DSs.t (h : DSs X W rest sa) : DSsT X W rest sa := ⟨fun pins s σ H D _ I q => h.ps.run pins s σ H D I q⟩
end
end DL
namespace DL
open PySem PySem.Spec L2
open PyProof.Rows hiding St
end DL
namespace DL
open PySem PySem.Spec L2
open PyProof.Rows hiding St
variable [HashW]
/-- the end of C(): the exception is let go, it has no dict -/
theorem mk_endN {X : Cx} {pins : List (Addr × Obj)} {σ : L2.St} {H1 H2 : Hp} {Q : XK} {hp hp2 h2 : Heap} {g1 g2 : Array GenState} {d1 d2 : Drawn} {t1 t2 : Nat} {os1 os2 : OsState} {a C : Addr} (T : Raises X (.ref C)) (I1 : Inv X pins σ H1 ⟨hp, g1, d1, t1, os1⟩)
    (ha : hp.objs.size ≤ a) (k : ∀ b o, hp.get? b = some o → hp2.get? b = some o) (un : Un (frs X.stack) [] (upd H1 a (exo a C none)) H2 hp2 h2) (hok : HOk X.prog X.w H2 h2) (ho : os2 = os1) (hb : AllBare g2)
    (ea : H2 a = some (exo a C none)) (q : Q (.ref C) none (del H2 a)) : MkP X pins σ Q (.ref a) ⟨h2, g2, d2, t2, os2⟩ := by
  obtain ⟨t0, hoe⟩ := exo_at hok ea
  have hn : H1 a = none := I1.hok.fresh ha
  obtain ⟨G, g1', g2'⟩ := restrict h2 fun b => decide (b ≠ a)
  have gk : ∀ b, b ≠ a → G.get? b = h2.get? b := fun b hb => g1' b (decide_eq_true hb)
  have ge : G.get? a = none := g2' a (by simp)
  have nha : ∀ {b : Addr} {o : Obj}, hp.get? b = some o → b ≠ a := fun {b o} z => Nat.ne_of_lt (Nat.lt_of_lt_of_le (Heap.lt_size z) ha)
  have up : ∀ {b : Addr}, b ≠ a → H1 b = none → upd H1 a (exo a C none) b = none := fun {b} hb n => by rw [upd_ne hb]; exact n
  have U : Un (frs X.stack) [] H1 (del H2 a) hp G := {
    keep := fun b o z n hf hx => by
      rw [gk b (nha z)]
      exact un.keep b o (k b o z) (up (nha z) n) hf hx
    slot := fun b o z n hf hx => by
      rw [gk b (nha z)]
      exact un.slot b o (k b o z) (up (nha z) n) hf hx
    free := fun b o z n hx => by
      rw [del_ne (nha z)]
      exact un.free b o (k b o z) (up (nha z) n) hx
    there := fun b o z hx => by
      rw [gk b (nha z)]
      exact un.there b o (k b o z) hx
    tups := fun b xs z => by
      rw [del_ne (ne_of_none z hn)]
      exact un.tups b xs (by rw [upd_ne (ne_of_none z hn)]; exact z)
    frzs := fun b o v z => by
      rw [del_ne (ne_of_none z hn)]
      exact un.frzs b o v (by rw [upd_ne (ne_of_none z hn)]; exact z)
    tbls := fun b ps z => by
      rw [del_ne (ne_of_none z hn)]
      exact un.tbls b ps (by rw [upd_ne (ne_of_none z hn)]; exact z) }
  have hok3 : HOk X.prog X.w (del H2 a) G := fun b o z => by
    have hba : b ≠ a := fun e => by
      rw [e, del_same] at z
      cases z
    rw [del_ne hba] at z
    have noa : ∀ {c : Addr}, H2 c = some (.own b) → c ≠ a := fun {c} hc => at_ne ea hc exo_own
    exact (hok b o z).stay (fun c v hc y => by
        have hca : c ≠ a := by
          rcases hc with hc | hc
          · rw [hc]
            exact hba
          · exact noa hc
        rw [gk c hca]
        exact y)
      (fun c hc => by rw [del_ne (noa hc)]; exact hc) (fun c xs hc => by rw [del_ne (at_ne ea hc exo_tup)]; exact hc)
  have J : Inv X pins σ (del H2 a) ⟨G, g2, d2, t2, os2⟩ := I1.call' (ch := []) ho U hok3 hb (fun b z => absurd z (by simp))
  refine ⟨a, _, _, ⟨G, g2, d2, t2, os2⟩, _, .ref C, none, rfl, J, fun b o z => ?_, ge, hoe, ⟨rfl, rfl⟩, rfl, rfl, del_same, rfl, hb, T, q⟩
  by_cases hba : b = a
  · rw [hba, ge] at z
    cases z
  · exact (gk b hba).symm.trans z
/-- C() -/
def tMkO0 (C : Addr) (sp : Sp) : L2.St → Hp → XK → Prop := fun σ H1 Q => ∀ a, H1 a = none → sp [.ref a] (upd H1 a (exo a C none))
  (fun v H2 => v = .non ∧ H2 a = some (exo a C none) ∧ Q (.ref C) none (del H2 a)) (fun _ _ _ => False)
section
variable {X : Cx} {p pos : Pos}
theorem pmk_oex0 {CX : CXT} {x : Str} {C fI : Addr} {k : Nat} {fd : FuncData} {ps : List Str} {sp : Sp} (T : OexC X.K C) (iC : PySem.W.findIn X.K (.ref C) "__init__" = some (some (.ref fI))) (tI : PySem.W.typeIn X.K (.ref fI) = some (.type "function"))
    (F1 : FnOk X.prog X.w X.K X.mg X.base CX k fI fd ps sp) (hr : Room (k + 1) X.A) (hb : Binds X.K fd ps []) (hx : Passes CX X (fun _ _ _ => False)) (hg : Gl X x) (hm : X.mg x = some (.ref C))
    (hdb : (x == ("__debug__" : Str)) = false := by decide) :
    PMk X (.Call (.Name x p) [] [] pos) (tMkO0 C sp) := by
  intro pins s σ H1 Q I h
  obtain ⟨nm, q, N, bs, bm, sn, sub, ab, col, dd, k0, k1, k2, k3, k5, hC, hbm⟩ := T.cls
  refine wpAny_Call_Name_kw (ld_glob I hg hm ?_ hdb)
  refine PySem.W.callWith_K0 I.kIn T.kC ?_
  show wpAny _ _ (call (.ref C) []) _ _ _
  have I1 := I
  obtain ⟨hp, g, dr, tk, os⟩ := s
  have hsz : hp.objs.size ≤ hp.objs.size + 1 := Nat.le_succ _
  have hn : H1 (hp.objs.size + 1) = none := I1.hok.fresh hsz
  have hq := h (hp.objs.size + 1) hn
  have kk : ∀ b o, hp.get? b = some o → ((hp.push (PySem.W.kdv_tup [])).push (PySem.HandSPX.excO C hp.objs.size)).get? b = some o := fun b o e => Heap.get?_push_of_some _ (Heap.get?_push_of_some _ e)
  have hget : ((hp.push (PySem.W.kdv_tup [])).push (PySem.HandSPX.excO C hp.objs.size)).get? (hp.objs.size + 1) = some (PySem.HandSPX.excO C hp.objs.size) := by heap_get
  have I2 : Inv X pins σ (upd H1 (hp.objs.size + 1) (exo (hp.objs.size + 1) C none)) ⟨(hp.push (PySem.W.kdv_tup [])).push (PySem.HandSPX.excO C hp.objs.size), g, dr, tk, os⟩ :=
    I1.laid (t' := tk) (a := hp.objs.size + 1) (o := exo (hp.objs.size + 1) C none) (h' := (hp.push (PySem.W.kdv_tup [])).push (PySem.HandSPX.excO C hp.objs.size)) kk hsz (exo_ok hget)
  have r2 : Vals [V.ref (hp.objs.size + 1)] [Value.ref (hp.objs.size + 1)] := .cons rfl .nil
  have hl : [Value.ref (hp.objs.size + 1)].length = ps.length := by
    have e := r2.length
    rw [F1.len _ _ _ _ hq] at e
    exact e.symm
  refine wpAny_call (PySem.HandSPX.call_own F.excBase_ValueError (fun Y => PySem.HandSPX.refsVE_contains Y bm hbm) (I1.kIn _ _ hC) (PySem.W.looks_findIn I1.kIn iC) (fun self => PySem.W.bind_fn I1.kIn self tI) (by rw [sizeLine_eq]; simp)
    (codeAny_mono (F1.run _ X.stack _ _ ⟨[Value.ref (hp.objs.size + 1)], []⟩ [Value.ref (hp.objs.size + 1)] _ _ (fun _ _ _ => False) (hr.make C [] []) (I2.env0.make C [] []) (by
      have b := hb { heap := (hp.push (PySem.W.kdv_tup [])).push (PySem.HandSPX.excO C hp.objs.size), gens := g, drawn := dr, toks := tk, os := os } [Value.ref (hp.objs.size + 1)] I2.kIn (by simpa using hl)
      rw [List.append_nil] at b
      exact b) r2 hq) fun r s' hq' => ?_))
  cases r with
  | error er => exact hx pins σ _ _ er s' I2 hq'
  | ok fl =>
    cases fl with
    | ret u =>
      obtain ⟨v, H2, os2, bare2, un2, hok2, rv, ev, ea, q2⟩ := hq'
      subst ev
      obtain ⟨h2, g2, d2, t2, os'⟩ := s'
      exact ⟨rv, mk_endN (raises_own T.exC T.tyC) I1 hsz kk un2 hok2 os2 bare2 ea q2⟩
    | next => exact False.elim hq'
    | brk => exact False.elim hq'
    | cont => exact False.elim hq'
end
def spI0 (K : PySem.W.Frag) (C : Addr) : Sp := fun vs H Q _ => ∃ a, vs = [.ref a] ∧ H a = some (exo a C none) ∧ OexC K C ∧ Q .non H
section
variable {P : Program} {w : World} {K : PySem.W.Frag} {mg : Str → Option Value} {base : Heap}
theorem init0_ok {x qual : Str} {st : Stmt} {f C B : Addr} {fd : FuncData} {bn sn : Str} {m : Str} {j : Nat} {p1 p2 p3 p4 p5 p6 : Pos} (Fn : FnP K x qual st [] [] f fd) (S : FnScope [sn] [sn] (defScope st))
    (hB : mg bn = some (.ref B)) (b : BaseX K B) (hdb : (bn == ("__debug__" : Str)) = false := by decide)
    (hbody : defBody st = [.Expr (.Call (.Attribute (.Name bn p1) "__init__" p2) [.Name sn p3, .Constant (.str m) j p4] [] p5) p6] := by rfl)
    (hg : ∀ (cdv : Value) (A : Around) (outer : List Env) (s : Shared) (H : Hp) (E : XK), Gl (cxOf (L2.CX P w) P w K mg base [sn] qual (defScope st) f cdv A outer s H E) bn := by intros; rfl)
    (hc : ∀ (cdv : Value) (A : Around) (outer : List Env) (s : Shared) (H : Hp) (E : XK), ∃ pl, eval (.Call (.Attribute (.Name bn p1) "__init__" p2) [.Name sn p3, .Constant (.str m) j p4] [] p5) (cxOf (L2.CX P w) P w K mg base [sn] qual (defScope st) f cdv A outer s H E).env = (do
      let ov ← eval (.Name bn p1) (cxOf (L2.CX P w) P w K mg base [sn] qual (defScope st) f cdv A outer s H E).env
      standAt p2.atName
      let (f', first) ← holding [ov] (getMethod ov "__init__" pl)
      callWith p5 f' first (backTo p5 (starEach [.Name sn p3, .Constant (.str m) j p4] (cxOf (L2.CX P w) P w K mg base [sn] qual (defScope st) f cdv A outer s H E).env)) (backToKw p5 (keywordEach [] (cxOf (L2.CX P w) P w K mg base [sn] qual (defScope st) f cdv A outer s H E).env))) := by intros; exact ⟨_, rfl⟩)
    (v1 : Vis (defScope st) sn := by exact Or.inl rfl) (d1 : (sn == ("__debug__" : Str)) = false := by decide) (c1 : (sn == ("__classdict__" : Str)) = false := by decide) :
    FnOk P w K mg base (L2.CX P w) 1 f fd [sn] (spI0 K C) := by
  refine FunD.ok (k := 0) Fn S (fun vs H Q E h => ?_) fun cdv A outer s H vs Q E hr h => ?_
  · obtain ⟨a, rfl, _⟩ := h; rfl
  · obtain ⟨a, rfl, ea, T, q⟩ := h
    rw [hbody]
    obtain ⟨pl, hc⟩ := hc cdv A outer s H E
    refine ⟨_, pss_one (ps_expr (pe_binit (pl := pl) (hg cdv A outer s H E) hB b (pa_cons (pe_var (i := 0) rfl v1 d1 c1) (pa_cons pe_str pa_nil)) hdb hc)), ?_⟩
    exact ⟨_, rfl, a, C, [_], rfl, by simp, T, ea, q⟩
end
section
variable {X : Cx} {W : WX} {C : String} {c fI : Addr} {fd : FuncData} {ps : List Str} {p pos pos2 : Pos}
theorem ds_raise0 (cx : Ctx X W) (T : ExC X.K X.mg C c fI []) (F1 : FnOk X.prog X.w X.K X.mg X.base (L2.CX X.prog X.w) 1 fI fd ps (spI0 X.K c)) (hr : Room 2 X.A) (hb : Binds X.K fd ps []) (hg : Gl X (Str.ofString C))
    (hdb : (Str.ofString C == ("__debug__" : Str)) = false := by decide) :
    DS X W (.Raise (some (.Call (.Name (Str.ofString C) p) [] [] pos)) none pos2) (excS C [] nilA) := by
  refine ⟨⟨fun pins s st H D0 I q => (ps_raise cx.calm cx.tk (pmk_oex0 T.ox T.ini T.ity F1 hr hb pass_false hg T.mgC hdb)).run pins s st H D0 I ?_⟩⟩
  obtain ⟨ro, sd, M, R, S, P⟩ := q
  have P : PostS X.K X.mg W ro H D0 (.exc C [] [] sd M) := P
  intro a na
  refine ⟨a, rfl, upd_same, T.ox, rfl, upd_same, ?_⟩
  have eH : del (upd H a (exo a c none)) a = H := by
    funext b
    by_cases h2 : b = a
    · subst h2; rw [del_same, na]
    · rw [del_ne h2, upd_ne h2]
  rw [eH]
  exact P ro _ st (.ref c) none R (Pres.refl _ _) S ⟨c, rfl, T.mgC, .inl ⟨rfl, rfl, rfl⟩⟩
end
end DL
namespace DL
open PySem PySem.Spec L2
open PyProof.Rows hiding St
end DL
namespace DL
open PySem PySem.Spec L2
open PyProof.Rows hiding St
end DL
namespace DL
open PySem PySem.Spec L2
open PyProof.Rows hiding St
end DL
namespace DL
open PySem PySem.Spec L2
open PyProof.Rows hiding St
end DL
namespace DL
open PySem PySem.Spec L2
open PyProof.Rows hiding St
end DL
namespace DL
open PySem PySem.Spec L2
open PyProof.Rows hiding St
end DL
namespace DL
open PySem PySem.Spec L2
open PyProof.Rows hiding St
variable [HashW]
def inTI (neg : Bool) (d e : D) (M : MS) : Res D := match d, seqOf M e with
  | .int x, some es => (match intsOf es with
    | some xs => .ok (.bl (decide (x ∈ xs) != neg)) M
    | none => .stuck)
  | _, _ => .stuck
theorem inTI_tup {neg : Bool} {x : Int} {xs : List Int} {M : MS} : inTI neg (.int x) (.tup (xs.map D.int)) M = .ok (.bl (decide (x ∈ xs) != neg)) M := by
  unfold inTI
  simp
theorem inV_int (i : Int) (xs : List Int) : inV (V.int i) (xs.map V.int) = decide (i ∈ xs) := by
  induction xs with
  | nil => rfl
  | cons x xs ih =>
    have : inV (V.int i) ((x :: xs).map V.int) = (eqV (V.int x) (V.int i) || inV (V.int i) (xs.map V.int)) := rfl
    rw [this, ih]
    have e : eqV (V.int x) (V.int i) = decide (i = x) := by
      show (x == i) = _
      by_cases h : i = x
      · simp [h]
      · have : ¬ x = i := fun z => h z.symm
        simp [h, this]
    rw [e]
    simp
section
variable {X : Cx}
theorem opS_inTI (neg : Bool) : OpS X (compareOp (if neg then .NotIn else .In)) (inTI neg) := by
  have key : ∀ (M : MS) (ro : Pl) (H : Hp) (d e : D) (x y : V) (E : XK) (Q : VK), RelS X.K X.mg ro M H → Rep X.K X.mg ro H d x → Rep X.K X.mg ro H e y → PostD X.K X.mg E ro H Q (inTI neg d e M) → rIn X.K neg x y H Q := fun M ro H d e x y E Q R rx ry P => by
    unfold inTI at P
    split at P
    · rename_i z es he
      split at P
      · rename_i xs hx
        cases (show x = V.int z from rx)
        obtain ⟨a, vs, rfl, hq, q⟩ := seq_of R ry he
        rw [intsOf_eq hx] at q
        have q := Reps.ints q
        subst q
        refine ⟨a, _, rfl, hq, rfl, ?_, ?_⟩
        · rw [List.all_eq_true]
          intro v hv
          obtain ⟨b, _, rfl⟩ := List.mem_map.mp hv
          rfl
        · rw [inV_int]
          cases neg
          · simpa using PostD.pure (d := .bl (decide (z ∈ xs) != false)) R rfl P
          · simpa using PostD.pure (d := .bl (decide (z ∈ xs) != true)) R rfl P
      · exact P.elim
    · exact P.elim
  cases neg with
  | false => exact ⟨_, op_in_seq, fun ro H M' d e x y E Q R rx ry P => key M' ro H d e x y E Q R rx ry P⟩
  | true => exact ⟨_, op_notIn_seq, fun ro H M' d e x y E Q R rx ry P => key M' ro H d e x y E Q R rx ry P⟩
end
end DL
namespace DL
open PySem PySem.Spec L2
open PyProof.Rows hiding St
end DL
namespace DL
open PySem PySem.Spec L2
open PyProof.Rows hiding St
end DL
namespace DL
open PySem PySem.Spec L2
open PyProof.Rows hiding St
end DL
namespace DL
open PySem PySem.Spec L2
open PyProof.Rows hiding St
end DL
namespace L2
open PySem PySem.Spec PyProof.Rows
end L2
namespace DL
open PySem PySem.Spec L2
open PyProof.Rows hiding St
end DL
namespace DL
open PySem PySem.Spec L2
open PyProof.Rows hiding St
end DL
namespace DL
open PySem PySem.Spec L2
open PyProof.Rows hiding St
end DL
namespace DL
open PySem PySem.Spec L2
open PyProof.Rows hiding St
variable [HashW]
/-- a landed exception before a frame's clauses -/
def Landed (X : Cx) (pins : List (Addr × Obj)) (st : St) (H : Hp) (a : Addr) (cls : Value) (d : Option Addr) (s : Shared) : Prop :=
  ∃ (B : Heap) (sI : Shared), Inv X pins st H sI ∧ (∀ b o, sI.heap.get? b = some o → b ∉ frs X.stack → B.get? b = some o) ∧ sI.heap.UpToSlots s.heap ∧
    HandSPX.FlyingZ B (X.env :: X.outer) a (Zc cls d) s.heap ∧ s.os = sI.os ∧ AllBare s.gens ∧ H a = none
section
variable {X : Cx} {pins : List (Addr × Obj)} {st : St} {H : Hp} {a : Addr} {cls : Value} {d : Option Addr} {s : Shared}
theorem Landed.flying (L : Landed X pins st H a cls d s) : ∃ oe vs, s.heap.get? a = some oe ∧ Zc cls d oe ∧ oe.data = .fields vs := by
  obtain ⟨B, sI, _, _, _, fl, _⟩ := L
  exact fl.there
end
section
variable {X : Cx}
theorem Landed.ty {pins : List (Addr × Obj)} {st : St} {H : Hp} {a : Addr} {cls : Value} {d : Option Addr} {s : Shared} (L : Landed X pins st H a cls d s) : PySem.W.Looks (model X.prog X.w) s.heap (typeOf (.ref a)) cls := by
  obtain ⟨oe, vs, he, hz, _⟩ := L.flying
  intro A Q E s' k q
  exact wpAny_typeOf_ref (k _ _ he) (by rw [hz.1]; exact q)
end
end DL
namespace DL
open PySem PySem.Spec L2
open PyProof.Rows hiding St
end DL
namespace DL
open PySem PySem.Spec L2
open PyProof.Rows hiding St
variable [HashW]
def revR (i j : Int) : List Int := (List.range (j - i).toNat).map fun (k : Nat) => (i + ((j - i).toNat : Int) - 1) + k * (-1)
def rev2I (ma mb : ME) : MI := fun sd M => (ma sd M).bind fun d M1 => (mb sd M1).bind fun e M2 => match d, e with
  | .int i, .int j => if -1000000000 ≤ i ∧ i ≤ 1000000000 ∧ -1000000000 ≤ j ∧ j ≤ 1000000000 then .ok (intsI (revR i j)) M2 else .stuck
  | _, _ => .stuck
@[simp] theorem rev2I_ap {m mb : ME} {sd : SD} {M : MS} : rev2I m mb sd M = (m sd M).bind fun d M1 => (mb sd M1).bind fun e M2 => match d, e with
  | .int i, .int j => if -1000000000 ≤ i ∧ i ≤ 1000000000 ∧ -1000000000 ≤ j ∧ j ≤ 1000000000 then .ok (intsI (revR i j)) M2 else .stuck
  | _, _ => .stuck := rfl
end DL
namespace L2H
theorem RoomH.units {k : Nat} {A : PySem.Around} (r : RoomH k A) : A.units + 64 < PySem.cLine := by have := r.un; omega
end L2H
namespace DL
open PySem PySem.Spec L2
open PyProof.Rows hiding St
end DL
namespace DL
open PySem PySem.Spec L2
open PyProof.Rows hiding St
end DL
namespace DL
open PySem PySem.Spec L2
open PyProof.Rows hiding St
variable [HashW]
/-- a def's promise under one handled exception p -/
def DOkP (p : Addr × Obj) (P : Program) (w : World) (K : PySem.W.Frag) (mg : Str → Option Value) (base : Heap) (k : Nat) (f : Addr) (fd : FuncData) (ps : List Str) (F : FM) : Prop :=
  ∀ (A : Around) (outer : List Env) (s : Shared) (H : Hp) (args : Args) (us : List Value) (vs : List V) (Q : VK) (E : XK), L2H.RoomH k A → L2H.PinOk outer H s p → Env0 P w K mg base A outer s H →
    BindsTo s fd args (ps.zip us) → Vals vs us → spD K mg ps.length F vs H Q E → codeAny (model P w) A (.call (.ref f) args) (CR (L2.CX P w) outer P w H s Q E) s
section
variable {P : Program} {w : World} {K : PySem.W.Frag} {mg : Str → Option Value} {base : Heap}
theorem funP_ok {p : Addr × Obj} {x qual : Str} {st : Stmt} {f : Addr} {fd : FuncData} {N ps : List Str} {k : Nat} {body : MST} (Fn : FnP K x qual st [] [] f fd) (S : FnScope N ps (defScope st))
    (hbody : ∀ (cdv : Value) (A : Around) (outer : List Env) (s : Shared) (H : Hp) (E : XK), L2H.RoomH k (A.deeper (envOfC qual (defScope st) s.heap.objs.size f cdv)) →
      DSs (cxW P w K mg base N qual (defScope st) f cdv A outer s H E p) (fun cls d _ H' => E cls d H') (defBody st) body) : DOkP p P w K mg base (k + 1) f fd ps (runD N.length body) := by
  obtain ⟨⟨oc, od, dV, kV, doc, pm, an, cdv, ct, osl, rfl, look, code, _, _⟩, _⟩ := Fn
  intro A outer s H args us vs Q E room pin e0 bd rv sp
  obtain ⟨hl, ro, ds, M, R, rs, Po⟩ := sp
  have up : ∀ b o, base.get? b = some o → s.heap.get? b = some o := fun b o z => (e0.bs b o z).1
  have inK : K.In s.heap := e0.mod.kin.keeps up
  have kinds : ∀ y ∈ ps.zip us, (defScope st).names.lookup y.1 = some .local ∨ ((defScope st).names.lookup y.1 = some .cell ∧ ((cellsFrom (s.heap.objs.size + 1) (defScope st).names []).lookup y.1).isSome = true) := by
    rintro ⟨n, v⟩ hy
    rcases S.par n (List.of_mem_zip hy).1 with z | z
    · exact .inl z
    · exact .inr ⟨z, PySem.W.cellsFrom_some _ _ _ (.inl z)⟩
  refine codeAny_call_function room.depth (inK _ _ look) rfl S.co S.gen rfl (PySem.W.codeRec_of inK code) (bd _ _ _ _ ?_)
  refine wpAny_newFunctionEnv_cells S.kind kinds fun env he s1 call => ?_
  subst he
  refine ⟨(e0.mod.nolimit.keeps up).keeps call.toInCall.keep, codeAny_func ?_⟩
  have I := L2H.inv_startH (CX := L2.CX P w) (E := E) S pin e0 hl rv call
  have B := hbody cdv A outer s H E (room.deeper _)
  have start : liftS K mg (fun cls d _ H' => E cls d H') body { nx := fun _ H' => Q .non H', rt := Q } (L2.start N vs) H := by
    refine ⟨ro, startD N.length ds, M, R, repSt_start rs, ?_⟩
    unfold runD at Po
    cases e : body (startD N.length ds) M with
    | nx sd M' => rw [e] at Po; exact fun ro' H' st rs q r => Po ro' H' .non rs q rfl
    | ret d M' => rw [e] at Po; exact Po
    | exc C ns ds' sd M' => rw [e] at Po; exact fun ro' H' st cls dd rs q _ r => Po ro' H' cls dd rs q r
    | brk sd M' => rw [e] at Po; exact Po.elim
    | ct sd M' => rw [e] at Po; exact Po.elim
    | stuck => rw [e] at Po; exact Po
  refine wpAny_mono (B.ps.run [] s1 _ _ _ I start) (fun fl s' out => ?_) fun _ _ z => z
  cases fl with
  | ret u =>
    obtain ⟨v, σ, H1, J, rv', q⟩ := out
    exact ⟨v, H1, J.os, J.bare, J.base, J.hok, rv', q⟩
  | next =>
    obtain ⟨σ, H1, J, q⟩ := out
    exact ⟨.non, H1, J.os, J.bare, J.base, J.hok, rfl, q⟩
  | brk => obtain ⟨_, _, _, z⟩ := out; exact z.elim
  | cont => obtain ⟨_, _, _, z⟩ := out; exact z.elim
end
section
variable {X : Cx} {k : Nat} {f : Addr} {fd : FuncData} {ps : List Str} {F : FM} {x : Str} {q pos : Pos} {e : Expr} {es : List Expr} {ma : MA} {p : Addr × Obj}
/-- x(e, ..) in a suite -/
theorem de_callP (hF : DOkP p X.prog X.w X.K X.mg X.base k f fd ps F) (hr : L2H.RoomH k X.A) (hp : p ∈ X.pn) (hg : Gl X x) (hm : X.mg x = some (.ref f)) (hk : PySem.W.keepIn X.K (.ref f) = true) (hb : Binds X.K fd ps []) (ha : DA X W0 (e :: es) ma)
    (hdb : (x == ("__debug__" : Str)) = false := by decide) (he : starEach (e :: es) X.env = (false, eval e X.env) :: starEach es X.env := by rfl) (hpl : (backTo pos (starEach es X.env)).any (·.1) = false := by rfl) :
    DE X W0 (.Call (.Name x q) (e :: es) [] pos) (callE ps.length F (· ++ []) ma) := by
  refine ⟨⟨fun pins s st H Q I h => ?_⟩⟩
  obtain ⟨ro, sd, M, R, S, Pq⟩ := h
  refine wpAny_Call_Name_kw (ld_glob I hg hm ?_ hdb)
  refine PySem.W.callWith_K (h₀ := X.base) I.ok.mod.kin hk (thn (ha.pa.run pos pins s st H _ I ⟨ro, sd, M, R, S, Post.bind Pq⟩) fun us s1 ⟨vs, H1, I1, r, ro1, M1, ds, R1, P1, r1, q1⟩ => ⟨I1.kIn, ?_⟩) he hpl
  dsimp only at q1
  split at q1
  · rename_i hl
    rw [List.append_nil] at hl q1
    have hul : us.length = ps.length := by rw [← r.length, ← r1.len]; exact hl
    have b := hb s1 us I1.kIn (by rw [List.append_nil]; exact hul)
    rw [List.append_nil] at b
    have P2 := I1.pin p (List.mem_append_left _ hp)
    have pin : L2H.PinOk X.stack H1 s1 p := ⟨P2.1, P2.2.1, fun z => (List.mem_cons.mp (I1.stkSub p.1 z)).elim P2.2.2.1 P2.2.2.2.1, P2.2.2.2.2⟩
    refine wpAny_call (codeAny_mono (hF X.A X.stack s1 H1 ⟨us, []⟩ us vs Q (fun c d H' => W0 c d st H') hr pin I1.env0 b r ⟨by rw [← r1.len]; exact hl, ro1, ds, M1, R1, r1, q1⟩) fun r' s' hq => ?_)
    cases r' with
    | error z => exact (hq : L2.CX _ _ _ _ _ _ _ _).elim fun a ⟨_, _, _, _, _, _, _, _, _, _, _, z⟩ => z.elim
    | ok fl =>
      cases fl with
      | ret u => exact I1.after hq
      | next => exact hq.elim
      | brk => exact hq.elim
      | cont => exact hq.elim
  · exact q1.elim
end
theorem pe_xfG {X : Cx} {a C : Addr} {oe : Obj} {cls : Value} {d : Option Addr} {e : Expr} {te : TE} {pos : Pos} {n : Str} (hp : (a, oe) ∈ X.pn) (T : XfC X.K C) (hno : PySem.W.findIn X.K (.ref C) n = some none)
    (hz : Zc cls d oe) (hf : ∃ vs, oe.data = .fields vs) (he : PE X e te) (hb : attributeBase e n X.env (eval e X.env) = eval e X.env := by rfl) :
    PE X (.Attribute e n pos) (tXf a cls d C n te) := by
  refine ⟨fun pins s σ H Q I h => ?_⟩
  refine attr_of hb (thn (he.run pins s σ H _ I h) fun u s1 hh => ?_)
  obtain ⟨x, H1, I1, rx, ex, ec, dd, fs, v, ed, ea, l, q⟩ := hh
  subst ex
  obtain rfl : u = Value.ref a := rx
  subst ec
  subst ed
  obtain ⟨ha, _⟩ := I1.pin (a, oe) (List.mem_append_left _ hp)
  obtain ⟨vs, hd⟩ := hf
  have hx : ObjOk X.prog X.w H1 s1.heap dd (.xd fs) := I1.hok dd _ ea
  obtain ⟨mA, hns, hr⟩ := hx
  obtain ⟨od, ho, hl⟩ := lookIn_ns hns
  obtain ⟨u, hu, ru⟩ := RelO.some_of (v := v) (o := mA n) (by rw [← l]; exact hr n)
  have J : PySem.W.InstAt s1.heap a oe C (some od) := ⟨ha, hz.1, by unfold PySem.W.notCls; rw [hd] <;> rfl, by rw [hz.2]; exact ho⟩
  exact HandSPX.exc_get I1.kIn J T.ga T.gg T.exC (PySem.W.findObj_own T.hdC hno rfl (by rw [hl, hu])) (handed_of ru) ⟨v, H1, I1.tok _, ru, q⟩
section
variable {X : Cx} {W : WX} {pos : Pos}
theorem de_xfG {a cc : Addr} {oe : Obj} {d : Option Addr} {e : Expr} {m : ME} {f : String} (hp : (a, oe) ∈ X.pn) (hz : Zc (.ref cc) d oe) (hf : ∃ vs, oe.data = .fields vs)
    (T : XfC X.K cc ∧ PySem.W.findIn X.K (.ref cc) (Str.ofString f) = some none) (he : DE X W e m)
    (hb : attributeBase e (Str.ofString f) X.env (eval e X.env) = eval e X.env := by rfl) : DE X W (.Attribute e (Str.ofString f) pos) (xfE a d f m) := by
  refine ⟨⟨fun pins s st H Q I q => (pe_xfG hp T.1 T.2 hz hf he.pe hb).run pins s st H Q I ?_⟩⟩
  obtain ⟨ro, sd, M, R, S, P⟩ := q
  refine ⟨ro, sd, M, R, S, (Post.bind P).imp fun x H1 ⟨ro1, M1, e', R1, P1, r1, q1⟩ => ?_⟩
  cases e' with
  | exn C' ns ds x' y' =>
    obtain ⟨b, vs, ⟨rfl, eb⟩, hHn, hl, rs⟩ := r1
    subst eb
    by_cases hxy : b = a ∧ some y' = d
    · simp only [hxy, and_self, if_true] at q1
      obtain ⟨rfl, rfl⟩ := hxy
      cases hr : lookF ns ds f with
      | none => rw [hr] at q1; exact q1.elim
      | some r =>
        rw [hr] at q1
        obtain ⟨v, hv, rv⟩ := lookF_some rs hr
        rcases hHn with hn0 | ⟨hH, hn⟩
        · subst hn0
          cases hr
        · exact ⟨rfl, rfl, y', _, v, rfl, hH, hv, PostD.pure R1 rv q1⟩
    · simp only [hxy, if_false] at q1
      exact q1.elim
  | _ => exact q1.elim
end
end DL
set_option maxHeartbeats 4000000
namespace PySem.W
open PySem PySem.Spec PySem.Calls PyProof.Rows
section
variable {prog : Program} {w : World} {A : Around} {E : Value → Shared → Prop} {s : Shared} {K : Frag} {x D : Addr} {ox : Obj} {od : Option Obj}
theorem kin_classO {Q : Option Value → Shared → Prop} (hga : findIn K (.ref D) "__getattribute__" = some (some (.builtin "BaseException.__getattribute__"))) (hgt : findIn K (.ref D) "__getattr__" = some none) (hsub : subIn K (.ref D) (.type "BaseException") = some true)
    (hdct : hasDictIn K D = true) (ha : findIn K (.ref D) "__class__" = some (some (.builtin "object.__class__")))
    (hn : specialIn K (.builtin "object.__class__") "__get__" = some (some (.builtin "getset_descriptor.__get__"))) (htk : takesIn K (.builtin "object.__class__") = some true) (hm : mroIn K D (.type "object") = some true)
    (X : K.In s.heap) (I : InstAt s.heap x ox D od) (h : Q (some (.ref D)) { s with toks := s.toks + 1 }) : wpAny (model prog w) A (getAttr? (.ref x) "__class__") Q E s := by
  have hf : findObj K D od "__class__" = some (.bind (.builtin "getset_descriptor.__get__") (.builtin "object.__class__")) := findObj_dataE (by obtain ⟨cd, hc, _⟩ := any_some hdct; rw [hc]; rfl) ha hn htk
  obtain ⟨hp, g, d, t, os⟩ := s
  have L0 := I.type (M := model prog w)
  have L1 := looks_findIn (M := model prog w) X hga
  have L2 := looks_findIn (M := model prog w) X hgt
  have L3 := looks_find (M := model prog w) X I hf
  have sub : Looks (model prog w) hp (isInstance (.ref x) (.type "BaseException")) true := L0.andThen (looks_subIn X hsub)
  have hx0 : (false && onTheHeap (Value.builtin "BaseException.__getattribute__")) = false := rfl
  have hx2 : (Value.builtin "BaseException.__getattribute__" == Value.builtin "object.__getattribute__") = false := by decide +kernel
  have hx1 : (onTheHeap (Value.ref D) && Value.builtin "BaseException.__getattribute__" == Value.builtin "object.__getattribute__") = false := by rw [hx2]; rfl
  unfold getAttr? getAttrBy? getAttrBy
  refine wpAny_bind (wpAny_mkText (wpAny_bind (wpAny_attempt (wpAny_holding (wpAny_bind (L0.at (wpAny_bind (L1.at ?_))))))))
  show wpAny _ _ (if (onTheHeap (Value.ref D) && Value.builtin "BaseException.__getattribute__" == Value.builtin "object.__getattribute__") = true then _ else _) _ _ _
  rw [hx1, if_neg Bool.false_ne_true]
  unfold getAttrByItsOwn hookBefore
  refine wpAny_bind ?_
  rw [if_pos (show onTheHeap (Value.ref D) = true from rfl)]
  refine L2.at ?_
  refine wpAny_bind (wpAny_attempt (wpAny_holding ?_))
  unfold callGetattribute
  rw [hx0, if_neg Bool.false_ne_true]
  unfold boundAndCalled
  rw [PySem.F.excAttr_ValueError.ga.bind (.ref x)]
  refine wpAny_bind (wpAny_pure ?_)
  show wpAny _ _ (call (.builtin "BaseException.__getattribute__") [.ref x, .str "__class__" t]) _ _ _
  refine wpAny_call (codeAny_call_builtin PySem.F.excAttr_ValueError.ga.plain PySem.F.entry_bexc_ga ?_)
  refine @check_slot (model prog w) _ _ ⟨hp, g, d, t + 1, os⟩ "BaseException.__getattribute__" "BaseException" "__getattribute__" (.ref x) [.str "__class__" t] [] _ (by decide +kernel) (by decide +kernel) sub (PySem.F.args_bexc_ga (.ref x) (.str "__class__" t)) ?_
  unfold Builtin.«object.__getattribute__»
  refine wpAny_bind (wpAny_of_eq (a := ((Value.ref x : Value), [Value.str "__class__" t])) (by first | rfl | (simp only [slotArgs]; rfl)) ?_)
  refine wpAny_bind (wpAny_pure (wpAny_bind (L0.at (wpAny_bind (L3.at ?_)))))
  show wpAny _ _ (holding [Value.builtin "object.__class__"] (call (.builtin "getset_descriptor.__get__") [.builtin "object.__class__", .ref x, .ref D]) >>= ret) _ _ _
  refine wpAny_bind (wpAny_holding (wpAny_call (class_get (s := ⟨hp, g, d, t + 1, os⟩) (ox := ox) (od := od) X I hm ?_)))
  refine wpAny_pure ?_
  show wpAny _ _ (handedOut (.ref D)) _ _ _
  rw [handedOut_of (v := .ref D) rfl]
  first
    | exact wpAny_pure (wpAny_pure h)
    | exact wpAny_pure h
    | exact wpAny_pure (wpAny_bind (wpAny_pure (wpAny_pure h)))
theorem kitx_excO (hga : findIn K (.ref D) "__getattribute__" = some (some (.builtin "BaseException.__getattribute__"))) (hgt : findIn K (.ref D) "__getattr__" = some none) (hsub : subIn K (.ref D) (.type "BaseException") = some true) (hdct : hasDictIn K D = true) (ha : findIn K (.ref D) "__class__" = some (some (.builtin "object.__class__")))
    (hn : specialIn K (.builtin "object.__class__") "__get__" = some (some (.builtin "getset_descriptor.__get__"))) (htk : takesIn K (.builtin "object.__class__") = some true) (hm : mroIn K D (.type "object") = some true) :
    KitX K (.ref x) (.ref D) (fun h => InstAt h x ox D od) where
  ty := fun _ _ _ I => I.type
  it := fun _ _ X _ => by
    obtain ⟨cdD, hcD, _⟩ := any_some hdct
    unfold clsIn at hcD
    split at hcD
    · rename_i c' d' cd' sl' ho
      intro A' Q' E' s' k q
      unfold isType loadHead
      exact wpAny_bind (wpAny_loadPart (k _ _ (X _ _ ho)) (wpAny_pure q))
    · cases hcD
  ne := fun h tp dd its n sl X htp => by
    obtain ⟨cdD, hcD, _⟩ := any_some hdct
    refine Bool.eq_false_iff.mpr fun q => ?_
    have e : D = tp := Value.ref.inj (beq_iff_eq.mp q)
    subst e
    unfold clsIn at hcD
    split at hcD
    · rename_i c' d' cd' sl' ho
      have z := (X _ _ ho).symm.trans htp
      cases z
    · cases hcD
  ca := fun X I k => kin_classO hga hgt hsub hdct ha hn htk hm X I k
end
end PySem.W
namespace DL
open PySem PySem.Spec L2
open PyProof.Rows hiding St
variable [HashW]
/-- isinstance(e, c), e the handled exception, its class D, its dict d -/
def rIsO (K : PySem.W.Frag) (D a : Addr) (d : Option Addr) : List V → Hp → VK → Prop := fun xs H Q => ∃ (c : V) (cv : Value) (b : Bool), xs = [.ref a, c] ∧ (∀ u, RelV c u → u = cv) ∧ PySem.W.kitOne K (.ref D) cv = some b ∧ (∀ dd, d = some dd → ∃ fs, H dd = some (.xd fs)) ∧ Q (.bl b) H
theorem call_isO {X : Cx} {a D : Addr} {d : Option Addr} {oe : Obj} (hp : (a, oe) ∈ X.pn) (C : ExcC X.K D) (hz : Zc (.ref D) d oe) (hf : ∃ vs, oe.data = .fields vs) : CallR X (.builtin "isinstance") (rIsO X.K D a d) := by
  intro pins s σ H xs us Q I r h
  obtain ⟨c, cv, b, rfl, hcv, e, hdd, q⟩ := h
  cases r with
  | cons rx rr =>
    cases rr with
    | cons rt rr =>
      cases rr
      cases rx
      have ec := hcv _ rt
      subst ec
      obtain ⟨hget, _⟩ := I.pin (a, oe) (List.mem_append.mpr (.inl hp))
      obtain ⟨vs, hv⟩ := hf
      have J : ∃ od, PySem.W.InstAt s.heap a oe D od := by
        cases d with
        | none => exact ⟨none, hget, hz.1, by unfold PySem.W.notCls; rw [hv] <;> rfl, by rw [hz.2]; trivial⟩
        | some dd =>
          obtain ⟨fs, ea⟩ := hdd dd rfl
          have hx : ObjOk X.prog X.w H s.heap dd (.xd fs) := I.hok dd _ ea
          obtain ⟨mA, hns, hr⟩ := hx
          obtain ⟨od, ho, hl⟩ := lookIn_ns hns
          exact ⟨some od, hget, hz.1, by unfold PySem.W.notCls; rw [hv] <;> rfl, by rw [hz.2]; exact ho⟩
      obtain ⟨od, J⟩ := J
      exact PySem.W.kia_one (PySem.W.kitx_excO C.hg C.hk C.hs C.hd C.ha C.hn C.ht C.hm) I.kIn J e (fun z => nomatch z) fun tk => ⟨.bl b, H, I.kept (t' := tk) fun _ _ z => z, rfl, q⟩
/-- isinstance(e, C): a is where the handled exception stands, d its dict; q, p tell of a class by its name, of a built-in type -/
def isXF (a : Addr) (d : Option Addr) (q p : String → Option Bool) (ds : List D) (M : MS) : Res D := match ds with
  | [.exn _ ns _ x y, t] => if x = a ∧ (d = none ∨ (d = some y ∧ ns ≠ [])) then (match t with
    | .glo c => (match q c with | some b => .ok (.bl b) M | none => .stuck)
    | .ty c => (match p c with | some b => .ok (.bl b) M | none => .stuck)
    | _ => .stuck) else .stuck
  | _ => .stuck
theorem callS_isX {X : Cx} {a cc : Addr} {d : Option Addr} {oe : Obj} {q p : String → Option Bool} (hp : (a, oe) ∈ X.pn) (C : ExcC X.K cc) (hz : Zc (.ref cc) d oe) (hf : ∃ vs, oe.data = .fields vs)
    (hq : ∀ c b, q c = some b → ∀ k, X.mg (Str.ofString c) = some (.ref k) → PySem.W.kitOne X.K (.ref cc) (.ref k) = some b) (hy : ∀ c b, p c = some b → PySem.W.kitOne X.K (.ref cc) (.type c) = some b) :
    CallS X (.builtin "isinstance") (isXF a d q p) := by
  refine ⟨_, call_isO hp C hz hf, fun ro H M ds xs E Q R rs P => ?_⟩
  unfold isXF at P
  split at P
  · rename_i C' ns es x y t
    obtain ⟨vx, vy, rfl, rx, ry⟩ := reps2 rs
    split at P
    · rename_i hc
      obtain ⟨rfl, hd⟩ := hc
      obtain ⟨b, vs, ⟨rfl, rfl⟩, hHn, hl, _⟩ := rx
      have hdd : ∀ dd, d = some dd → ∃ fs, H dd = some (.xd fs) := fun dd e => by
        rcases hd with hd | ⟨hd, hne⟩
        · rw [hd] at e; cases e
        · rw [hd] at e; cases e
          rcases hHn with h0 | ⟨h1, _⟩
          · exact absurd h0 hne
          · exact ⟨_, h1⟩
      split at P
      · rename_i c
        split at P
        · rename_i bb hb
          obtain ⟨k, rfl, hk⟩ := ry
          exact ⟨.ref k, .ref k, bb, rfl, fun u hu => hu, hq c bb hb k hk, hdd, PostD.pure (d := .bl bb) R rfl P⟩
        · exact P.elim
      · rename_i c
        split at P
        · rename_i bb hb
          cases (show vy = V.ty c from ry)
          exact ⟨.ty c, .type c, bb, rfl, fun u hu => hu, hy c bb hb, hdd, PostD.pure (d := .bl bb) R rfl P⟩
        · exact P.elim
      · exact P.elim
    · exact P.elim
  · exact P.elim
end DL
namespace DL
open PySem PySem.Spec L2
open PyProof.Rows hiding St
variable [HashW]
theorem boot_ValueError : bootBuiltins "ValueError" = some (.type "ValueError") := by rfl
/-- try: b / except x as n: m; m is told the class -/
def tryC (exm : String → Option Bool) (i : Nat) (mb : MST) (ms : String → Addr → Option Addr → MST) : MST := fun sd M => match mb sd M with
  | .exc C ns ds sd1 M1 => (match exm C with
    | some true => finS i (ms C 0 (if ns = [] then none else some 0) (sd1.set i (exSlot C ns ds 0 0)) M1)
    | some false => .exc C ns ds sd1 M1
    | none => .stuck)
  | r => r
section
variable {X : Cx} {W : WX} {x n : Str} {c : Value} {i : Nat} {body suite : List Stmt} {b₀ : Stmt} {np pos pos' : Pos} {mb : MST} {ms : String → Addr → Option Addr → MST} {exm : String → Option Bool}
theorem ds_try_asC (hs : X.stack = X.env :: X.outer) (hf : X.env.frame = some X.env.locals) (hN : X.N.Nodup) (tk : Takes X W) (hc : Names X x c) (hx : ExM X.K X.mg c exm)
    (hb : ∀ (W' : WX) (pn : List (Addr × Obj)) (xe : Value → Shared → Prop), Ctx (X.tr pn xe) W' → DSs (X.tr pn xe) W' body mb)
    (hsu : ∀ (C : String) (cc a : Addr) (oe : Obj) (d : Option Addr) (pn : List (Addr × Obj)), exm C = some true → X.mg (Str.ofString C) = some (.ref cc) → Zc (.ref cc) d oe → (∃ vs, oe.data = .fields vs) → DSs (X.suite a ((a, oe) :: pn)) W0 (b₀ :: suite) (ms C a d))
    (heq : ∀ (a : Addr) (d : Option Addr) (C : String) (ns : List String) (ds : List D) (sd : SD) (M : MS), (d = none ↔ ns = []) → finS i (ms C a d (sd.set i (exSlot C ns ds a (d.getD 0))) M) = finS i (ms C 0 (if ns = [] then none else some 0) (sd.set i (exSlot C ns ds 0 0)) M)) (hcalm : X.calm = true) (hi : X.N[i]? = some n := by rfl) (hln : X.env.kindOf n = some .local := by rfl) :
    DS X W (.Try body [.ExceptHandler (some (.Name x np)) (some n) (b₀ :: suite) pos'] [] [] pos) (tryC exm i mb ms) := by
  refine ⟨⟨fun pins s st H D0 I q => (ps_try_as (c := c) (Wout := W) (tb := fun W' => liftS X.K X.mg W' mb) (ts := fun a cls d D st H => ∃ (C : String) (cc : Addr), exm C = some true ∧ X.mg (Str.ofString C) = some (.ref cc) ∧ cls = .ref cc ∧ liftS X.K X.mg W0 (ms C a d) D st H) hs hf hN hi hln hc tk (fun W' pn xe t po => (hb W' pn xe ⟨t, po, hcalm⟩).ps) (fun a oe cls d pn z1 z2 => ⟨fun pins s σ H D I h => ?_⟩)).run pins s st H D0 I ?_⟩⟩
  · obtain ⟨C, cc, h1, h2, rfl, h3⟩ := h
    exact (hsu C cc a oe d pn h1 h2 z1 z2).ps.run pins s σ H D I h3
  obtain ⟨ro, sd, M, R, S, P⟩ := q
  refine ⟨ro, sd, M, R, S, ?_⟩
  unfold tryC at P
  cases e : mb sd M with
  | nx sd1 M1 => rw [e] at P; exact P
  | ret d M1 => rw [e] at P; exact P
  | brk sd1 M1 => rw [e] at P; exact P
  | ct sd1 M1 => rw [e] at P; exact P
  | stuck => rw [e] at P; exact P
  | exc C ns ds sd1 M1 =>
    rw [e] at P
    have P : PostS X.K X.mg W ro H D0 (match exm C with | some true => finS i (ms C 0 (if ns = [] then none else some 0) (sd1.set i (exSlot C ns ds 0 0)) M1) | some false => .exc C ns ds sd1 M1 | none => .stuck) := P
    intro ro' H' st' cls dd R' P' S' rx
    obtain ⟨cc, rfl, hmg, rx'⟩ := id rx
    cases hm : exm C with
    | none => rw [hm] at P; exact P.elim
    | some b =>
      rw [hm] at P
      refine ⟨b, hx.ok C b hm cc hmg, fun hbt a na => ?_, fun hbf => ?_⟩
      · subst hbt
        have P : PostS X.K X.mg W ro H D0 (finS i (ms C 0 (if ns = [] then none else some 0) (sd1.set i (exSlot C ns ds 0 0)) M1)) := P
        have hdn : dd = none ↔ ns = [] := by
          rcases rx' with ⟨h1, h2, _⟩ | ⟨d, vs, ⟨h1, h2⟩, _⟩
          · rw [h1, h2]; simp
          · rw [h1]; simp [h2]
        rw [← heq a dd C ns ds sd1 M1 hdn] at P
        refine ⟨C, cc, hm, hmg, rfl, ro', sd1.set i (exSlot C ns ds a (dd.getD 0)), M1, R', ?_, ?_⟩
        · unfold exSlot
          split
          · exact S'.set ⟨a, [], ⟨rfl, rfl⟩, .inl rfl, rfl, rfl⟩
          · rename_i hne
            refine S'.set ?_
            rcases rx' with ⟨_, h2, _⟩ | ⟨d, vs, ⟨rfl, _⟩, h2, h3, h4, h5⟩
            · exact absurd h2 hne
            · exact ⟨a, vs, ⟨rfl, rfl⟩, .inr ⟨h2, h3⟩, h4, h5⟩
        · have P := PostS.moves P P'
          cases er : ms C a dd (sd1.set i (exSlot C ns ds a (dd.getD 0))) M1 with
          | nx sd2 M2 => rw [er] at P; exact fun ro2 H2 st2 R2 P2 S2 => P ro2 H2 _ R2 P2 S2.unset
          | brk sd2 M2 => rw [er] at P; exact fun ro2 H2 st2 R2 P2 S2 => P ro2 H2 _ R2 P2 S2.unset
          | ct sd2 M2 => rw [er] at P; exact fun ro2 H2 st2 R2 P2 S2 => P ro2 H2 _ R2 P2 S2.unset
          | ret d M2 => rw [er] at P; exact P
          | exc => rw [er] at P; exact P.elim
          | stuck => rw [er] at P; exact P
      · subst hbf
        exact P ro' H' st' _ dd R' P' S' rx
end
def isQ (exs : List String) (C : String) : String → Option Bool := fun c => if c ∈ exs then some (decide (C = c)) else none
def isP : String → Option Bool := fun c => if c = "ValueError" then some true else none
/-- what the class with the name C at cc says -/
structure HotC (K : PySem.W.Frag) (mg : Str → Option Value) (exs fs : List String) (C : String) (cc : Addr) : Prop where
  ex : ExcC K cc
  fl : ∀ f, f ∈ fs → PySem.W.findIn K (.ref cc) (Str.ofString f) = some none
  q : ∀ c b, isQ exs C c = some b → ∀ k, mg (Str.ofString c) = some (.ref k) → PySem.W.kitOne K (.ref cc) (.ref k) = some b
  p : ∀ c b, isP c = some b → PySem.W.kitOne K (.ref cc) (.type c) = some b
def HotT (K : PySem.W.Frag) (mg : Str → Option Value) (exm : String → Option Bool) (exs fs : List String) : Prop := ∀ C cc, exm C = some true → mg (Str.ofString C) = some (.ref cc) → HotC K mg exs fs C cc
section
variable {K : PySem.W.Frag} {mg : Str → Option Value} {exs fs : List String}
theorem hotT_nil : HotT K mg (exmL []) exs fs := fun C cc h => by cases h
theorem hotT_cons {B : String} {cB : Addr} {l : List (String × Bool)} (hm : mg (Str.ofString B) = some (.ref cB)) (h : HotC K mg exs fs B cB) (r : HotT K mg (exmL l) exs fs) : HotT K mg (exmL ((B, true) :: l)) exs fs := fun C cc e hc => by
  unfold exmL at e
  split at e
  · rename_i q
    subst q
    rw [hm] at hc; cases hc
    exact h
  · exact r C cc e hc
/-- fields, one after another -/
theorem hotF_nil {c : Value} : ∀ f, f ∈ ([] : List String) → PySem.W.findIn K c (Str.ofString f) = some none := fun _ h => by cases h
theorem hotF_cons {c : Value} {g : String} {l : List String} (h : PySem.W.findIn K c (Str.ofString g) = some none) (r : ∀ f, f ∈ l → PySem.W.findIn K c (Str.ofString f) = some none) : ∀ f, f ∈ g :: l → PySem.W.findIn K c (Str.ofString f) = some none := fun f hf => by
  rcases List.mem_cons.mp hf with rfl | z
  · exact h
  · exact r f z
/-- classes, one after another -/
def HotQ (K : PySem.W.Frag) (mg : Str → Option Value) (C : String) (t : Value) (l : List String) : Prop := ∀ c, c ∈ l → ∀ k, mg (Str.ofString c) = some (.ref k) → PySem.W.kitOne K t (.ref k) = some (decide (C = c))
theorem hotQ_nil {C : String} {t : Value} : HotQ K mg C t [] := fun _ h => by cases h
theorem hotQ_cons {C B : String} {t : Value} {cB : Addr} {b : Bool} {l : List String} (hm : mg (Str.ofString B) = some (.ref cB)) (hb : decide (C = B) = b) (h : PySem.W.kitOne K t (.ref cB) = some b) (r : HotQ K mg C t l) : HotQ K mg C t (B :: l) := fun c hc k hk => by
  rcases List.mem_cons.mp hc with rfl | z
  · rw [hm] at hk; cases hk
    rw [hb]; exact h
  · exact r c z k hk
theorem hotC_mk {C : String} {cc : Addr} (ex : ExcC K cc) (fl : ∀ f, f ∈ fs → PySem.W.findIn K (.ref cc) (Str.ofString f) = some none) (hq : HotQ K mg C (.ref cc) exs) (hp : PySem.W.kitOne K (.ref cc) (.type "ValueError") = some true) : HotC K mg exs fs C cc where
  ex := ex
  fl := fl
  q := fun c b e k hk => by
    unfold isQ at e
    split at e
    · rename_i hc
      cases e
      exact hq c hc k hk
    · cases e
  p := fun c b e => by
    unfold isP at e
    split at e
    · rename_i hc
      cases e
      subst hc
      exact hp
    · cases e
theorem HotC.xf {C : String} {cc : Addr} (h : HotC K mg exs fs C cc) : XfC K cc := ⟨h.ex.hg, h.ex.hk, h.ex.hs, h.ex.hd⟩
end
section
variable {a : Addr} {d : Option Addr} {q p : String → Option Bool} {C : String} {ns : List String} {ds : List D} {M : MS} {t : D} {f : String} {sd : SD} {i : Nat}
theorem exSlot_eq (a y : Addr) : exSlot C ns ds a y = some (.exn C ns (if ns = [] then [] else ds) a y) := by
  unfold exSlot
  split
  · rename_i h; rw [h]
  · rfl
/-- isinstance by names -/
def isXN (q p : String → Option Bool) (t : D) : Option Bool := match t with
  | .glo c => q c
  | .ty c => p c
  | _ => none
def isXR (q p : String → Option Bool) (t : D) (M : MS) : Res D := match isXN q p t with
  | some b => .ok (.bl b) M
  | none => .stuck
theorem isXF_at (y : Addr) (hd : d = none ∨ (d = some y ∧ ns ≠ [])) : isXF a d q p [.exn C ns ds a y, t] M = isXR q p t M := by
  unfold isXF isXR isXN
  have h : a = a ∧ (d = none ∨ (d = some y ∧ ns ≠ [])) := ⟨rfl, hd⟩
  show (if a = a ∧ (d = none ∨ d = some y ∧ ns ≠ []) then _ else _) = _
  rw [if_pos h]
  all_goals (cases t <;> rfl)
def xfR (ns : List String) (ds : List D) (f : String) (M : MS) : Res D := match lookF ns ds f with
  | some r => .ok r M
  | none => .stuck
theorem xfE_at {m : ME} {y : Addr} {M1 : MS} (hm : m sd M = .ok (.exn C ns ds a y) M1) (hd : d = none ∨ d = some y) (hn : d = none → ns = []) : xfE a d f m sd M = xfR ns ds f M1 := by
  unfold xfE xfR
  rw [hm]
  rcases hd with rfl | rfl
  · have e := hn rfl
    subst e
    have z : ¬ (a = a ∧ some y = none) := fun h => by cases h.2
    show (if a = a ∧ some y = none then _ else _) = _
    rw [if_neg z]
    rfl
  · show (if a = a ∧ some y = some y then _ else _) = _
    rw [if_pos ⟨rfl, rfl⟩]
    all_goals (cases lookF ns ds f <;> rfl)
end
end DL
namespace Lk01
open PySem PySem.Spec L2 DL
open PyProof.Rows hiding St
def top (i : Nat) : Stmt := PySem.Challenge.pw_neededlaws_k01_errors_by_class.main.body.getD i (.Pass ⟨0, 0, 0, 0⟩)
abbrev s_l_draws : Stmt := top 17
abbrev s_l_cell : Stmt := top 16
abbrev s_NothingToUndoD_initD : Stmt := inClass (top 14) 0
abbrev s_NoWayD_initD : Stmt := inClass (top 2) 0
abbrev s_NoPlaceD_initD : Stmt := inClass (top 3) 0
abbrev s_BadRuleD_initD : Stmt := inClass (top 4) 0
abbrev s_NotAlikeD_initD : Stmt := inClass (top 5) 0
abbrev s_AlikeD_initD : Stmt := inClass (top 6) 0
abbrev s_BadTableD_initD : Stmt := inClass (top 7) 0
abbrev s_UnknownNameD_initD : Stmt := inClass (top 8) 0
abbrev s_NoConstantD_initD : Stmt := inClass (top 9) 0
abbrev s_BadFoldD_initD : Stmt := inClass (top 10) 0
abbrev s_NoStepD_initD : Stmt := inClass (top 12) 0
abbrev s_SameWaysD_initD : Stmt := inClass (top 13) 0
abbrev s_BadPlanD_initD : Stmt := inClass (top 11) 0
abbrev s_l_raise : Stmt := top 19
abbrev s_l_flags : Stmt := top 20
abbrev s_l_fields : Stmt := top 21
abbrev s_law : Stmt := top 22
abbrev exm_WayError : String → Option Bool := exmL [("Alike", true), ("BadFold", true), ("BadPlan", true), ("BadRule", true), ("BadTable", true), ("NoConstant", true), ("NoPlace", true), ("NoStep", true), ("NoWay", true), ("NotAlike", true), ("NothingToUndo", true), ("SameWays", true), ("UnknownName", true)]
abbrev hotX : List String := ["Alike", "BadFold", "BadPlan", "BadRule", "BadTable", "NoConstant", "NoPlace", "NoStep", "NoWay", "NotAlike", "NothingToUndo", "SameWays", "UnknownName"]
abbrev hotF : List String := ["at", "kind", "letter", "name", "path", "rule", "rules"]
noncomputable def b_l_draws_1 : MST :=
  (ifS (valB (binE geD (appE absF (consA (nameE 0) nilA)) (binE powI (constE (.int 10)) (constE (.int 18))))) (seqS (exprS (bmE "list" appendF (nameE 2) (consA (binE modI (appE intF (consA (nameE 3) nilA)) (binE ixD (nameE 1) (nameE 4))) nilA)))
  (setS 3 (binE fdivI (nameE 3) (binE ixD (nameE 1) (nameE 4))))) (seqS (setS 5 (binE modI (appE intF (consA (binE mulD (binE addD (binE addD (nameE 3) (binE mulD (constE (.int 11)) (nameE 4))) (constE (.int 3))) (constE (.int 48271))) nilA)) (constE (.int 2147483647))))
  (seqS (setS 5 (binE modI (appE intF (consA (binE addD (binE addD (binE mulD (binE mulD (nameE 5) (nameE 5)) (constE (.int 16807))) (binE mulD (constE (.int 97)) (nameE 4))) (nameE 5)) nilA)) (constE (.int 2147483629))))
  (exprS (bmE "list" appendF (nameE 2) (consA (binE modI (binE fdivI (nameE 5) (constE (.int 5))) (binE ixD (nameE 1) (nameE 4))) nilA))))))
noncomputable def m_l_draws : MST :=
  (seqS (setS 2 (celE nilA))
  (seqS (setS 3 (appE absF (consA (nameE 0) nilA)))
  (seqS (forS (range1I (consA (appE lenF (consA (nameE 1) nilA)) nilA)) (nameG 4) b_l_draws_1)
  (retS (nameE 2)))))
noncomputable def F_l_draws : FM := runD 6 m_l_draws
noncomputable def m_l_cell : MST :=
  (seqS (ifS (valB (binE ltD (nameE 1) (appE lenF (consA (nameE 0) nilA)))) (retS (binE ixD (nameE 0) (nameE 1))) passS)
  (retS (constE (.int 0))))
noncomputable def F_l_cell : FM := runD 2 m_l_cell
noncomputable def m_l_raise : MST :=
  (seqS (ifS (valB (binE (eqD false) (nameE 0) (constE (.int 0)))) (excS "NoWay" ["at"] (consA (nameE 1) nilA)) passS)
  (seqS (ifS (valB (binE (eqD false) (nameE 0) (constE (.int 1)))) (excS "NoPlace" ["path"] (consA (nameE 1) nilA)) passS)
  (seqS (ifS (valB (binE (eqD false) (nameE 0) (constE (.int 2)))) (excS "BadRule" ["letter"] (consA (nameE 1) nilA)) passS)
  (seqS (ifS (valB (binE (eqD false) (nameE 0) (constE (.int 3)))) (excS "NotAlike" ["rules"] (consA (nameE 1) nilA)) passS)
  (seqS (ifS (valB (binE (eqD false) (nameE 0) (constE (.int 4)))) (excS "Alike" ["rules"] (consA (nameE 1) nilA)) passS)
  (seqS (ifS (valB (binE (eqD false) (nameE 0) (constE (.int 5)))) (excS "BadTable" ["at"] (consA (nameE 1) nilA)) passS)
  (seqS (ifS (valB (binE (eqD false) (nameE 0) (constE (.int 6)))) (excS "UnknownName" ["name"] (consA (nameE 1) nilA)) passS)
  (seqS (ifS (valB (binE (eqD false) (nameE 0) (constE (.int 7)))) (excS "NoConstant" ["name"] (consA (nameE 1) nilA)) passS)
  (seqS (ifS (valB (binE (eqD false) (nameE 0) (constE (.int 8)))) (excS "BadFold" ["kind"] (consA (nameE 1) nilA)) passS)
  (seqS (ifS (valB (binE (eqD false) (nameE 0) (constE (.int 9)))) (excS "NoStep" ["path", "rule"] (consA (nameE 1) (consA (nameE 2) nilA))) passS)
  (seqS (ifS (valB (binE (eqD false) (nameE 0) (constE (.int 10)))) (excS "SameWays" [] nilA) passS)
  (seqS (ifS (valB (binE (eqD false) (nameE 0) (constE (.int 11)))) (excS "BadPlan" ["at"] (consA (nameE 1) nilA)) passS)
  (excS "NothingToUndo" [] nilA)))))))))))))
noncomputable def F_l_raise : FM := runD 3 m_l_raise
noncomputable def m_l_flags (C : String) (a : Addr) (d : Option Addr) : MST :=
  (seqS (setS 1 (lstE (consA (appE (isXF a d (isQ hotX C) isP) (consA (nameE 0) (consA (constE (.glo "NoWay")) nilA))) (consA (appE (isXF a d (isQ hotX C) isP) (consA (nameE 0) (consA (constE (.glo "NoPlace")) nilA))) (consA (appE (isXF a d (isQ hotX C) isP) (consA (nameE 0) (consA (constE (.glo "BadRule")) nilA))) (consA (appE (isXF a d (isQ hotX C) isP) (consA (nameE 0) (consA (constE (.glo "NotAlike")) nilA))) nilA))))))
  (seqS (setS 1 (binE addD (nameE 1) (lstE (consA (appE (isXF a d (isQ hotX C) isP) (consA (nameE 0) (consA (constE (.glo "Alike")) nilA))) (consA (appE (isXF a d (isQ hotX C) isP) (consA (nameE 0) (consA (constE (.glo "BadTable")) nilA))) (consA (appE (isXF a d (isQ hotX C) isP) (consA (nameE 0) (consA (constE (.glo "UnknownName")) nilA))) nilA))))))
  (seqS (setS 1 (binE addD (nameE 1) (lstE (consA (appE (isXF a d (isQ hotX C) isP) (consA (nameE 0) (consA (constE (.glo "NoConstant")) nilA))) (consA (appE (isXF a d (isQ hotX C) isP) (consA (nameE 0) (consA (constE (.glo "BadFold")) nilA))) (consA (appE (isXF a d (isQ hotX C) isP) (consA (nameE 0) (consA (constE (.glo "NoStep")) nilA))) nilA))))))
  (retS (binE addD (nameE 1) (lstE (consA (appE (isXF a d (isQ hotX C) isP) (consA (nameE 0) (consA (constE (.glo "SameWays")) nilA))) (consA (appE (isXF a d (isQ hotX C) isP) (consA (nameE 0) (consA (constE (.glo "BadPlan")) nilA))) (consA (appE (isXF a d (isQ hotX C) isP) (consA (nameE 0) (consA (constE (.glo "NothingToUndo")) nilA))) nilA)))))))))
noncomputable def F_l_flags (C : String) (a : Addr) (d : Option Addr) : FM := runD 2 (m_l_flags C a d)
noncomputable def m_l_fields (C : String) (a : Addr) (d : Option Addr) : MST :=
  (seqS (ifS (valB (binE (inTI false) (nameE 0) (tupE (consA (constE (.int 0)) (consA (constE (.int 5)) (consA (constE (.int 11)) nilA)))))) (retS (lstE (consA (xfE a d "at" (nameE 1)) nilA))) passS)
  (seqS (ifS (valB (binE (eqD false) (nameE 0) (constE (.int 1)))) (retS (lstE (consA (xfE a d "path" (nameE 1)) nilA))) passS)
  (seqS (ifS (valB (binE (eqD false) (nameE 0) (constE (.int 2)))) (retS (lstE (consA (xfE a d "letter" (nameE 1)) nilA))) passS)
  (seqS (ifS (orB (valB (binE (eqD false) (nameE 0) (constE (.int 3)))) (valB (binE (eqD false) (nameE 0) (constE (.int 4))))) (retS (lstE (consA (xfE a d "rules" (nameE 1)) nilA))) passS)
  (seqS (ifS (orB (valB (binE (eqD false) (nameE 0) (constE (.int 6)))) (valB (binE (eqD false) (nameE 0) (constE (.int 7))))) (retS (lstE (consA (xfE a d "name" (nameE 1)) nilA))) passS)
  (seqS (ifS (valB (binE (eqD false) (nameE 0) (constE (.int 8)))) (retS (lstE (consA (xfE a d "kind" (nameE 1)) nilA))) passS)
  (seqS (ifS (valB (binE (eqD false) (nameE 0) (constE (.int 9)))) (retS (lstE (consA (xfE a d "rule" (nameE 1)) (consA (xfE a d "path" (nameE 1)) nilA)))) passS)
  (retS (lstE nilA)))))))))
noncomputable def F_l_fields (C : String) (a : Addr) (d : Option Addr) : FM := runD 2 (m_l_fields C a d)
noncomputable def s_law_1 : String → Addr → Option Addr → MST :=
  fun C a d => (seqS (ifS (notB (truB (appE (isXF a d (isQ hotX C) isP) (consA (nameE 9) (consA (constE (.ty "ValueError")) nilA))))) (retS (constE (.bl false))) passS)
  (setS 8 (lstE (consA (callE 1 (F_l_flags C a d) (· ++ []) (consA (nameE 9) nilA)) (consA (callE 2 (F_l_fields C a d) (· ++ []) (consA (nameE 2) (consA (nameE 9) nilA))) nilA)))))
noncomputable def e_law_1 : ME :=
  (binE (eqD false) (nameE 10) (nameE 2))
noncomputable def b_law_1 : MST :=
  (seqS (setS 8 (lstE nilA))
  (seqS (tryC exm_WayError 9 (exprS (callE 3 F_l_raise (· ++ []) (consA (nameE 2) (consA (nameE 4) (consA (nameE 5) nilA))))) s_law_1)
  (ifS (valB (binE (eqD true) (nameE 8) (lstE (consA (lcE (range1I (consA (constE (.int 13)) nilA)) (nameG 10) yesB e_law_1 [10]) (consA (binE ixD (nameE 6) (nameE 2)) nilA))))) (retS (constE (.bl false))) passS)))
noncomputable def m_law : MST :=
  (seqS (setS 1 (callE 2 F_l_draws (· ++ []) (consA (callE 2 F_l_cell (· ++ []) (consA (nameE 0) (consA (constE (.int 0)) nilA))) (consA (lstE (consA (constE (.int 13)) (consA (constE (.int 5)) (consA (constE (.int 5)) (consA (constE (.int 3)) nilA))))) nilA))))
  (seqS (setS 2 (binE ixD (nameE 1) (constE (.int 0))))
  (seqS (setS 3 (lstE (consA (constE (.str (sL ""))) (consA (constE (.str (sL "0"))) (consA (constE (.str (sL "A"))) (consA (constE (.str (sL "left"))) (consA (constE (.str (sL "z z"))) nilA)))))))
  (seqS (setS 4 (binE ixD (nameE 3) (binE ixD (nameE 1) (constE (.int 1)))))
  (seqS (ifS (orB (valB (binE (inTI false) (nameE 2) (tupE (consA (constE (.int 0)) (consA (constE (.int 5)) (consA (constE (.int 11)) nilA)))))) (valB (binE (eqD false) (binE ixD (nameE 1) (constE (.int 3))) (constE (.int 0))))) (setS 4 (binE subI (binE modI (appE intF (consA (callE 2 F_l_cell (· ++ []) (consA (nameE 0) (consA (constE (.int 1)) nilA))) nilA)) (binE powI (constE (.int 10)) (constE (.int 40)))) (binE powI (constE (.int 10)) (constE (.int 39))))) passS)
  (seqS (setS 5 (binE ixD (nameE 3) (binE ixD (nameE 1) (constE (.int 2)))))
  (seqS (setS 6 (binE addD (binE mulD (lstE (consA (lstE (consA (nameE 4) nilA)) nilA)) (constE (.int 9))) (lstE (consA (lstE (consA (nameE 4) (consA (nameE 5) nilA))) (consA (lstE nilA) (consA (lstE (consA (nameE 4) nilA)) (consA (lstE nilA) nilA)))))))
  (seqS (forS (range1I (consA (constE (.int 2)) nilA)) (nameG 7) b_law_1)
  (retS (constE (.bl true)))))))))))
noncomputable def F_law : FM := runD 11 m_law
section
variable {C C' : String} {a : Addr} {d : Option Addr} {y : Addr} {ns : List String} {ds : List D} {M : MS} {w : D}
theorem consA2_at {m : ME} {t e : D} {sd : SD} {M : MS} (hm : m sd M = .ok e M) : consA m (consA (constE t) nilA) sd M = .ok [e, t] M := by
  unfold consA
  rw [hm]
  rfl
theorem isx_run {m : ME} {sd : SD} {c : String} (hm : m sd M = .ok (.exn C' ns ds a y) M) (hd : d = none ∨ (d = some y ∧ ns ≠ [])) (hc : c ∈ hotX) :
    appE (isXF a d (isQ hotX C) isP) (consA m (consA (constE (.glo c)) nilA)) sd M = .ok (.bl (decide (C = c))) M := by
  unfold appE
  rw [consA2_at hm, Res.bind_ok, isXF_at y hd]
  unfold DL.isXR DL.isXN DL.isQ
  show (match (if c ∈ hotX then some (decide (C = c)) else none) with | some b => Res.ok (D.bl b) M | none => .stuck) = _
  rw [if_pos hc]
theorem isv_run {m : ME} {sd : SD} (hm : m sd M = .ok (.exn C' ns ds a y) M) (hd : d = none ∨ (d = some y ∧ ns ≠ [])) :
    appE (isXF a d (isQ hotX C) isP) (consA m (consA (constE (.ty "ValueError")) nilA)) sd M = .ok (.bl true) M := by
  unfold appE
  rw [consA2_at hm, Res.bind_ok, isXF_at y hd]
  rfl
theorem lst3_at {e1 e2 e3 : ME} {v1 v2 v3 : D} {sd : SD} (h1 : e1 sd M = .ok v1 M) (h2 : e2 sd M = .ok v2 M) (h3 : e3 sd M = .ok v3 M) : lstE (consA e1 (consA e2 (consA e3 nilA))) sd M = .ok (.lst [v1, v2, v3]) M := by
  unfold lstE consA; simp only [h1, h2, h3, Res.bind_ok, nilA]; rfl
theorem lst4_at {e1 e2 e3 e4 : ME} {v1 v2 v3 v4 : D} {sd : SD} (h1 : e1 sd M = .ok v1 M) (h2 : e2 sd M = .ok v2 M) (h3 : e3 sd M = .ok v3 M) (h4 : e4 sd M = .ok v4 M) : lstE (consA e1 (consA e2 (consA e3 (consA e4 nilA)))) sd M = .ok (.lst [v1, v2, v3, v4]) M := by
  unfold lstE consA; simp only [h1, h2, h3, h4, Res.bind_ok, nilA]; rfl
theorem addL_at {e1 e2 : ME} {v1 v2 : List D} {sd : SD} (h1 : e1 sd M = .ok (.lst v1) M) (h2 : e2 sd M = .ok (.lst v2) M) (hl : v1.length + v2.length ≤ 1000000) : binE addD e1 e2 sd M = .ok (.lst (v1 ++ v2)) M := by
  unfold binE
  rw [h1, Res.bind_ok, h2, Res.bind_ok, addD_lst hl]
theorem set_at {e : ME} {v : D} {sd : SD} {i : Nat} (h : e sd M = .ok v M) : setS i e sd M = .nx (sd.set i (some v)) M := by
  unfold setS
  rw [h]
  rfl
theorem ret_at {e : ME} {v : D} {sd : SD} (h : e sd M = .ok v M) : retS e sd M = .ret v M := by
  unfold retS
  rw [h]
  rfl
def flagL : List String := ["NoWay", "NoPlace", "BadRule", "NotAlike", "Alike", "BadTable", "UnknownName", "NoConstant", "BadFold", "NoStep", "SameWays", "BadPlan", "NothingToUndo"]
theorem flags_run (hd : d = none ∨ (d = some y ∧ ns ≠ [])) : F_l_flags C a d [.exn C' ns ds a y] M = .ok (.lst (flagL.map fun c => .bl (decide (C = c)))) M := by
  have n0 : ∀ o, nameE 0 [some (.exn C' ns ds a y), o] M = .ok (.exn C' ns ds a y) M := fun _ => rfl
  have n1 : ∀ v, nameE 1 [some (.exn C' ns ds a y), some v] M = .ok v M := fun _ => rfl
  have ix := fun (o : Option D) (c : String) (hc : c ∈ hotX) => isx_run (C := C) (C' := C') (ds := ds) (M := M) (c := c) (n0 o) hd hc
  show (m_l_flags C a d [some (.exn C' ns ds a y), none] M).res = _
  unfold m_l_flags
  rw [seqS_ap, set_at (lst4_at (ix _ "NoWay" (by decide)) (ix _ "NoPlace" (by decide)) (ix _ "BadRule" (by decide)) (ix _ "NotAlike" (by decide))), SRes.seq_nx, seqS_ap]
  simp only [List.set_cons_succ, List.set_cons_zero]
  rw [set_at (addL_at (n1 _) (lst3_at (ix _ "Alike" (by decide)) (ix _ "BadTable" (by decide)) (ix _ "UnknownName" (by decide))) (by simp)), SRes.seq_nx, seqS_ap]
  simp only [List.set_cons_succ, List.set_cons_zero]
  rw [set_at (addL_at (n1 _) (lst3_at (ix _ "NoConstant" (by decide)) (ix _ "BadFold" (by decide)) (ix _ "NoStep" (by decide))) (by simp)), SRes.seq_nx]
  simp only [List.set_cons_succ, List.set_cons_zero]
  rw [ret_at (addL_at (n1 _) (lst3_at (ix _ "SameWays" (by decide)) (ix _ "BadPlan" (by decide)) (ix _ "NothingToUndo" (by decide))) (by simp))]
  rfl
theorem res_ifret {t t' : MB} {e e' : ME} {r r' : MST} {s s' : SD} (ht : ∀ M, t s M = t' s' M) (ha : ∀ M, e s M = e' s' M) (hr : ∀ M, (r s M).res = (r' s' M).res) : ∀ M, (seqS (ifS t (retS e) passS) r s M).res = (seqS (ifS t' (retS e') passS) r' s' M).res := fun M => by
  rw [seqS_ap, seqS_ap, ifS_ap, ifS_ap, ht]
  cases h : t' s' M with
  | ok x M1 => cases x with
    | true =>
      show ((retS e s M1).seq r).res = ((retS e' s' M1).seq r').res
      rw [retS_ap, retS_ap, ha]
      cases e' s' M1 <;> rfl
    | false => exact hr M1
  | exc C ns ds M1 => rfl
  | stuck => rfl
theorem fields_eq (h : d = none ↔ ns = []) : F_l_fields C a d [w, .exn C' ns ds a (d.getD 0)] M = F_l_fields C 0 (if ns = [] then none else some 0) [w, .exn C' ns ds 0 0] M := by
  have hd : d = none ∨ d = some (d.getD 0) := by cases d <;> simp
  have hd0 : (if ns = [] then (none : Option Addr) else some 0) = none ∨ (if ns = [] then (none : Option Addr) else some 0) = some 0 := by split <;> simp
  have hn0 : (if ns = [] then (none : Option Addr) else some 0) = none → ns = [] := fun e => by
    by_cases q : ns = []
    · exact q
    · rw [if_neg q] at e; cases e
  have hx : ∀ f M, xfE a d f (nameE 1) [some w, some (.exn C' ns ds a (d.getD 0))] M = xfE 0 (if ns = [] then none else some 0) f (nameE 1) [some w, some (.exn C' ns ds 0 0)] M := fun f M => by
    rw [xfE_at (m := nameE 1) (sd := [some w, some (.exn C' ns ds a (d.getD 0))]) (M := M) (M1 := M) rfl hd h.mp, xfE_at (m := nameE 1) (sd := [some w, some (.exn C' ns ds 0 0)]) (M := M) (M1 := M) rfl hd0 hn0]
  show (m_l_fields C a d [some w, some (.exn C' ns ds a (d.getD 0))] M).res = (m_l_fields C 0 (if ns = [] then none else some 0) [some w, some (.exn C' ns ds 0 0)] M).res
  unfold m_l_fields
  have l1 := fun f => eqE_lst (eqA_cons (hx f) eqA_nil)
  have l2 := eqE_lst (eqA_cons (hx "rule") (eqA_cons (hx "path") eqA_nil))
  refine res_ifret ?_ ?_ ?_ M
  · exact fun _ => rfl
  · exact l1 _
  intro M
  refine res_ifret ?_ ?_ ?_ M
  · exact fun _ => rfl
  · exact l1 _
  intro M
  refine res_ifret ?_ ?_ ?_ M
  · exact fun _ => rfl
  · exact l1 _
  intro M
  refine res_ifret ?_ ?_ ?_ M
  · exact fun _ => rfl
  · exact l1 _
  intro M
  refine res_ifret ?_ ?_ ?_ M
  · exact fun _ => rfl
  · exact l1 _
  intro M
  refine res_ifret ?_ ?_ ?_ M
  · exact fun _ => rfl
  · exact l1 _
  intro M
  refine res_ifret ?_ ?_ ?_ M
  · exact fun _ => rfl
  · exact l2
  exact fun _ => rfl
end
theorem callE_of {n : Nat} {F : FM} {ms : MA} {sd : SD} {M M1 : MS} {ds : List D} (h : ms sd M = .ok ds M1) (hl : ds.length = n) : callE n F (· ++ []) ms sd M = F ds M1 := by
  unfold callE
  rw [h, Res.bind_ok]
  simp only [List.append_nil]
  exact if_pos hl
theorem callE_st {n : Nat} {F : FM} {ms : MA} {sd : SD} {M : MS} (h : ms sd M = .stuck) : callE n F (· ++ []) ms sd M = .stuck := by
  unfold callE
  rw [h]
  rfl
theorem seq_if_f {t : MB} {a r : MST} {sd : SD} {M : MS} (h : t sd M = .ok false M) : seqS (ifS t a passS) r sd M = r sd M := by
  rw [seqS_ap, ifS_ap, h]
  rfl
theorem seq_if_st {t : MB} {a r : MST} {sd : SD} {M : MS} (h : t sd M = .stuck) : seqS (ifS t a passS) r sd M = .stuck := by
  rw [seqS_ap, ifS_ap, h]
  rfl
theorem s_law_1_eq (a : Addr) (d : Option Addr) (C : String) (ns : List String) (ds : List D) (sd : SD) (M : MS) (h : d = none ↔ ns = []) : finS 9 (s_law_1 C a d (sd.set 9 (exSlot C ns ds a (d.getD 0))) M) = finS 9 (s_law_1 C 0 (if ns = [] then none else some 0) (sd.set 9 (exSlot C ns ds 0 0)) M) := by
  rw [exSlot_eq, exSlot_eq]
  generalize (if ns = [] then [] else ds) = es
  have hd : d = none ∨ (d = some (d.getD 0) ∧ ns ≠ []) := by
    cases d with
    | none => exact .inl rfl
    | some x => exact .inr ⟨rfl, fun q => by have := h.mpr q; cases this⟩
  have hd0 : (if ns = [] then (none : Option Addr) else some 0) = none ∨ ((if ns = [] then (none : Option Addr) else some 0) = some 0 ∧ ns ≠ []) := by
    by_cases q : ns = []
    · rw [if_pos q]; exact .inl rfl
    · rw [if_neg q]; exact .inr ⟨rfl, q⟩
  have seq9 : ∀ (u v : Option D) (e e' : ME) (M : MS), (∀ M, e (sd.set 9 u) M = e' (sd.set 9 v) M) → finS 9 (setS 8 e (sd.set 9 u) M) = finS 9 (setS 8 e' (sd.set 9 v) M) := fun u v e e' M q => by
    unfold setS
    rw [q]
    cases e' (sd.set 9 v) M with
    | ok x M1 =>
      show SRes.nx (((sd.set 9 u).set 8 (some x)).set 9 none) M1 = SRes.nx (((sd.set 9 v).set 8 (some x)).set 9 none) M1
      rw [set3 (by decide), set3 (by decide)]
    | exc => rfl
    | stuck => rfl
  by_cases h9 : 9 < sd.length
  · have n9 : ∀ (v : D) (M : MS), nameE 9 (sd.set 9 (some v)) M = .ok v M := fun v M => by
      unfold nameE
      rw [List.getElem?_set_self h9]
    have i1 := fun M => isv_run (C := C) (M := M) (n9 (.exn C ns es a (d.getD 0)) M) hd
    have i2 := fun M => isv_run (C := C) (M := M) (n9 (.exn C ns es 0 0) M) hd0
    have t1 : ∀ M, notB (truB (appE (isXF a d (isQ hotX C) isP) (consA (nameE 9) (consA (constE (.ty "ValueError")) nilA)))) (sd.set 9 (some (.exn C ns es a (d.getD 0)))) M = .ok false M := fun M => by
      unfold notB truB
      rw [i1]
      rfl
    have t2 : ∀ M, notB (truB (appE (isXF 0 (if ns = [] then none else some 0) (isQ hotX C) isP) (consA (nameE 9) (consA (constE (.ty "ValueError")) nilA)))) (sd.set 9 (some (.exn C ns es 0 0))) M = .ok false M := fun M => by
      unfold notB truB
      rw [i2]
      rfl
    unfold s_law_1
    rw [seq_if_f (t1 M), seq_if_f (t2 M)]
    refine seq9 _ _ _ _ _ (eqE_lst (eqA_cons (fun M => ?_) (eqA_cons (fun M => ?_) eqA_nil)))
    · have c1 : ∀ v, consA (nameE 9) nilA (sd.set 9 (some v)) M = .ok [v] M := fun v => by
        unfold consA
        rw [n9]
        rfl
      rw [callE_of (n := 1) (c1 _) rfl, callE_of (n := 1) (c1 _) rfl, flags_run hd, flags_run hd0]
    · have c1 : ∀ v, consA (nameE 9) nilA (sd.set 9 (some v)) M = .ok [v] M := fun v => by
        unfold consA
        rw [n9]
        rfl
      rcases nameE_dich 2 sd with ⟨w, hw⟩ | hw
      · have c2 : ∀ v, consA (nameE 2) (consA (nameE 9) nilA) (sd.set 9 (some v)) M = .ok [w, v] M := fun v => by
          have q := c1 v
          have e : consA (nameE 2) (consA (nameE 9) nilA) (sd.set 9 (some v)) M = (nameE 2 (sd.set 9 (some v)) M).bind fun d M1 => (consA (nameE 9) nilA (sd.set 9 (some v)) M1).bind fun ds M2 => .ok (d :: ds) M2 := rfl
          rw [e, nameE_ne (by decide), hw, Res.bind_ok, q]
          rfl
        rw [callE_of (n := 2) (c2 _) rfl, callE_of (n := 2) (c2 _) rfl]
        exact fields_eq h
      · have c2 : ∀ v, consA (nameE 2) (consA (nameE 9) nilA) (sd.set 9 v) M = .stuck := fun v => by
          have e : consA (nameE 2) (consA (nameE 9) nilA) (sd.set 9 v) M = (nameE 2 (sd.set 9 v) M).bind fun d M1 => (consA (nameE 9) nilA (sd.set 9 v) M1).bind fun ds M2 => .ok (d :: ds) M2 := rfl
          rw [e, nameE_ne (by decide), hw]
          rfl
        rw [callE_st (c2 _), callE_st (c2 _)]
  · have s9 : ∀ v : Option D, sd.set 9 v = sd := fun v => List.set_eq_of_length_le (by omega)
    have n9 : ∀ M, nameE 9 sd M = .stuck := fun M => by
      unfold nameE
      rw [List.getElem?_eq_none (by omega)]
    have z : ∀ (a : Addr) (d : Option Addr), s_law_1 C a d sd M = .stuck := fun a d => by
      have e : consA (nameE 9) (consA (constE (.ty "ValueError")) nilA) sd M = .stuck := by
        unfold consA
        rw [n9]
        rfl
      have e2 : notB (truB (appE (isXF a d (isQ hotX C) isP) (consA (nameE 9) (consA (constE (.ty "ValueError")) nilA)))) sd M = .stuck := by
        unfold notB truB appE
        rw [e]
        rfl
      unfold s_law_1
      rw [seq_if_st e2]
    rw [s9, s9, z, z]
structure Ad where
  f_l_draws : Addr
  d_l_draws : FuncData
  f_l_cell : Addr
  d_l_cell : FuncData
  f_NothingToUndoD_initD : Addr
  d_NothingToUndoD_initD : FuncData
  f_NoWayD_initD : Addr
  d_NoWayD_initD : FuncData
  f_NoPlaceD_initD : Addr
  d_NoPlaceD_initD : FuncData
  f_BadRuleD_initD : Addr
  d_BadRuleD_initD : FuncData
  f_NotAlikeD_initD : Addr
  d_NotAlikeD_initD : FuncData
  f_AlikeD_initD : Addr
  d_AlikeD_initD : FuncData
  f_BadTableD_initD : Addr
  d_BadTableD_initD : FuncData
  f_UnknownNameD_initD : Addr
  d_UnknownNameD_initD : FuncData
  f_NoConstantD_initD : Addr
  d_NoConstantD_initD : FuncData
  f_BadFoldD_initD : Addr
  d_BadFoldD_initD : FuncData
  f_NoStepD_initD : Addr
  d_NoStepD_initD : FuncData
  f_SameWaysD_initD : Addr
  d_SameWaysD_initD : FuncData
  f_BadPlanD_initD : Addr
  d_BadPlanD_initD : FuncData
  f_l_raise : Addr
  d_l_raise : FuncData
  f_l_flags : Addr
  d_l_flags : FuncData
  f_l_fields : Addr
  d_l_fields : FuncData
  f_law : Addr
  d_law : FuncData
  c_Alike : Addr
  c_BadFold : Addr
  c_BadPlan : Addr
  c_BadRule : Addr
  c_BadTable : Addr
  c_NoConstant : Addr
  c_NoPlace : Addr
  c_NoStep : Addr
  c_NoWay : Addr
  c_NotAlike : Addr
  c_NothingToUndo : Addr
  c_SameWays : Addr
  c_UnknownName : Addr
  c_WayError : Addr
structure Fx (K : PySem.W.Frag) (mg : Str → Option Value) (A : Ad) : Prop where
  n_ValueError : mg "ValueError" = none
  n_abs : mg "abs" = none
  n_int : mg "int" = none
  n_isinstance : mg "isinstance" = none
  n_len : mg "len" = none
  n_range : mg "range" = none
  F_l_draws : FnP K "_law_draws" "_law_draws" s_l_draws [] [] A.f_l_draws A.d_l_draws
  g_l_draws : mg "_law_draws" = some (.ref A.f_l_draws)
  F_l_cell : FnP K "_law_cell" "_law_cell" s_l_cell [] [] A.f_l_cell A.d_l_cell
  g_l_cell : mg "_law_cell" = some (.ref A.f_l_cell)
  F_NothingToUndoD_initD : FnP K "__init__" "NothingToUndo.__init__" s_NothingToUndoD_initD [] [] A.f_NothingToUndoD_initD A.d_NothingToUndoD_initD
  F_NoWayD_initD : FnP K "__init__" "NoWay.__init__" s_NoWayD_initD [] [] A.f_NoWayD_initD A.d_NoWayD_initD
  F_NoPlaceD_initD : FnP K "__init__" "NoPlace.__init__" s_NoPlaceD_initD [] [] A.f_NoPlaceD_initD A.d_NoPlaceD_initD
  F_BadRuleD_initD : FnP K "__init__" "BadRule.__init__" s_BadRuleD_initD [] [] A.f_BadRuleD_initD A.d_BadRuleD_initD
  F_NotAlikeD_initD : FnP K "__init__" "NotAlike.__init__" s_NotAlikeD_initD [] [] A.f_NotAlikeD_initD A.d_NotAlikeD_initD
  F_AlikeD_initD : FnP K "__init__" "Alike.__init__" s_AlikeD_initD [] [] A.f_AlikeD_initD A.d_AlikeD_initD
  F_BadTableD_initD : FnP K "__init__" "BadTable.__init__" s_BadTableD_initD [] [] A.f_BadTableD_initD A.d_BadTableD_initD
  F_UnknownNameD_initD : FnP K "__init__" "UnknownName.__init__" s_UnknownNameD_initD [] [] A.f_UnknownNameD_initD A.d_UnknownNameD_initD
  F_NoConstantD_initD : FnP K "__init__" "NoConstant.__init__" s_NoConstantD_initD [] [] A.f_NoConstantD_initD A.d_NoConstantD_initD
  F_BadFoldD_initD : FnP K "__init__" "BadFold.__init__" s_BadFoldD_initD [] [] A.f_BadFoldD_initD A.d_BadFoldD_initD
  F_NoStepD_initD : FnP K "__init__" "NoStep.__init__" s_NoStepD_initD [] [] A.f_NoStepD_initD A.d_NoStepD_initD
  F_SameWaysD_initD : FnP K "__init__" "SameWays.__init__" s_SameWaysD_initD [] [] A.f_SameWaysD_initD A.d_SameWaysD_initD
  F_BadPlanD_initD : FnP K "__init__" "BadPlan.__init__" s_BadPlanD_initD [] [] A.f_BadPlanD_initD A.d_BadPlanD_initD
  F_l_raise : FnP K "_law_raise" "_law_raise" s_l_raise [] [] A.f_l_raise A.d_l_raise
  g_l_raise : mg "_law_raise" = some (.ref A.f_l_raise)
  F_l_flags : FnP K "_law_flags" "_law_flags" s_l_flags [] [] A.f_l_flags A.d_l_flags
  g_l_flags : mg "_law_flags" = some (.ref A.f_l_flags)
  F_l_fields : FnP K "_law_fields" "_law_fields" s_l_fields [] [] A.f_l_fields A.d_l_fields
  g_l_fields : mg "_law_fields" = some (.ref A.f_l_fields)
  F_law : FnP K "law" "law" s_law [] [] A.f_law A.d_law
  g_law : mg "law" = some (.ref A.f_law)
  b_l_cell_2 : DflK K mg A.d_l_cell ["_law_script", "_law_k"] []
  b_l_draws_2 : DflK K mg A.d_l_draws ["_law_cell_here", "_law_sizes"] []
  b_l_raise_3 : DflK K mg A.d_l_raise ["_law_which", "_law_first", "_law_second"] []
  bd_AlikeD_initD : Binds K A.d_AlikeD_initD ["self", "rules"] []
  bd_BadFoldD_initD : Binds K A.d_BadFoldD_initD ["self", "kind"] []
  bd_BadPlanD_initD : Binds K A.d_BadPlanD_initD ["self", "at"] []
  bd_BadRuleD_initD : Binds K A.d_BadRuleD_initD ["self", "letter"] []
  bd_BadTableD_initD : Binds K A.d_BadTableD_initD ["self", "at"] []
  bd_NoConstantD_initD : Binds K A.d_NoConstantD_initD ["self", "name"] []
  bd_NoPlaceD_initD : Binds K A.d_NoPlaceD_initD ["self", "path"] []
  bd_NoStepD_initD : Binds K A.d_NoStepD_initD ["self", "rule", "path"] []
  bd_NoWayD_initD : Binds K A.d_NoWayD_initD ["self", "at"] []
  bd_NotAlikeD_initD : Binds K A.d_NotAlikeD_initD ["self", "rules"] []
  bd_NothingToUndoD_initD : Binds K A.d_NothingToUndoD_initD ["self"] []
  bd_SameWaysD_initD : Binds K A.d_SameWaysD_initD ["self"] []
  bd_UnknownNameD_initD : Binds K A.d_UnknownNameD_initD ["self", "name"] []
  bd_l_fields : Binds K A.d_l_fields ["_law_which", "_law_e"] []
  bd_l_flags : Binds K A.d_l_flags ["_law_e"] []
  g_Alike : mg "Alike" = some (.ref A.c_Alike)
  g_BadFold : mg "BadFold" = some (.ref A.c_BadFold)
  g_BadPlan : mg "BadPlan" = some (.ref A.c_BadPlan)
  g_BadRule : mg "BadRule" = some (.ref A.c_BadRule)
  g_BadTable : mg "BadTable" = some (.ref A.c_BadTable)
  g_NoConstant : mg "NoConstant" = some (.ref A.c_NoConstant)
  g_NoPlace : mg "NoPlace" = some (.ref A.c_NoPlace)
  g_NoStep : mg "NoStep" = some (.ref A.c_NoStep)
  g_NoWay : mg "NoWay" = some (.ref A.c_NoWay)
  g_NotAlike : mg "NotAlike" = some (.ref A.c_NotAlike)
  g_NothingToUndo : mg "NothingToUndo" = some (.ref A.c_NothingToUndo)
  g_SameWays : mg "SameWays" = some (.ref A.c_SameWays)
  g_UnknownName : mg "UnknownName" = some (.ref A.c_UnknownName)
  g_WayError : mg "WayError" = some (.ref A.c_WayError)
  bx_WayError : BaseX K A.c_WayError
  ex_Alike : ExC K mg "Alike" A.c_Alike A.f_AlikeD_initD ["rules"]
  ex_BadFold : ExC K mg "BadFold" A.c_BadFold A.f_BadFoldD_initD ["kind"]
  ex_BadPlan : ExC K mg "BadPlan" A.c_BadPlan A.f_BadPlanD_initD ["at"]
  ex_BadRule : ExC K mg "BadRule" A.c_BadRule A.f_BadRuleD_initD ["letter"]
  ex_BadTable : ExC K mg "BadTable" A.c_BadTable A.f_BadTableD_initD ["at"]
  ex_NoConstant : ExC K mg "NoConstant" A.c_NoConstant A.f_NoConstantD_initD ["name"]
  ex_NoPlace : ExC K mg "NoPlace" A.c_NoPlace A.f_NoPlaceD_initD ["path"]
  ex_NoStep : ExC K mg "NoStep" A.c_NoStep A.f_NoStepD_initD ["rule", "path"]
  ex_NoWay : ExC K mg "NoWay" A.c_NoWay A.f_NoWayD_initD ["at"]
  ex_NotAlike : ExC K mg "NotAlike" A.c_NotAlike A.f_NotAlikeD_initD ["rules"]
  ex_NothingToUndo : ExC K mg "NothingToUndo" A.c_NothingToUndo A.f_NothingToUndoD_initD []
  ex_SameWays : ExC K mg "SameWays" A.c_SameWays A.f_SameWaysD_initD []
  ex_UnknownName : ExC K mg "UnknownName" A.c_UnknownName A.f_UnknownNameD_initD ["name"]
  xm_WayError : ExM K mg (.ref A.c_WayError) exm_WayError
  hot : HotT K mg exm_WayError hotX hotF
section
variable {P : Program} {w : World} {K : PySem.W.Frag} {mg : Str → Option Value} {base : Heap} {A : Ad}
theorem sc_l_draws : FnScope ["_law_cell_here", "_law_sizes", "_law_drawn", "_law_left", "_law_at", "_law_mixed"] ["_law_cell_here", "_law_sizes"] (defScope s_l_draws) := ⟨rfl, rfl, rfl, by decide +kernel, rfl, by decide +kernel, by decide +kernel⟩
theorem ok_l_draws (T : Fx K mg A) : DOk P w K mg base 1 A.f_l_draws A.d_l_draws ["_law_cell_here", "_law_sizes"] F_l_draws := by
  have S := sc_l_draws
  refine funD_ok (st := s_l_draws) (N := ["_law_cell_here", "_law_sizes", "_law_drawn", "_law_left", "_law_at", "_law_mixed"]) (ps := ["_law_cell_here", "_law_sizes"]) (k := 0) (body := m_l_draws) T.F_l_draws S ?_
  intro cdv B outer s H E hr cx
  exact (dss_cons (ds_set (i := 2) (de_cel da_nil) S.nd)
    (dss_cons (ds_set (i := 3) (de_callB callS_abs rfl T.n_abs boot_abs (da_cons (de_name 0) da_nil)) S.nd)
    (dss_cons (ds_for cx (di_range1 rfl T.n_range (da_cons (de_callB callS_len rfl T.n_len boot_len (da_cons (de_name 1) da_nil)) da_nil)) (dg_name S.nd) (dss_one (ds_if (dt_cmp opS_ge (de_callB callS_abs rfl T.n_abs boot_abs (da_cons (de_name 0) da_nil)) (de_op opS_pow de_int de_int)) (dss_cons (ds_expr (de_bm mtS_append F.plainAttrs_list F.slot_list_append F.type_list_append (de_name 2) (da_cons (de_op opS_mod (de_callTy callS_int rfl T.n_int boot_int (da_cons (de_name 3) da_nil)) (de_ix ixS_any (de_name 1) (de_name 4))) da_nil)))
    (dss_one (ds_set (i := 3) (de_op opS_fdiv (de_name 3) (de_ix ixS_any (de_name 1) (de_name 4))) S.nd))) (dss_cons (ds_set (i := 5) (de_op opS_mod (de_callTy callS_int rfl T.n_int boot_int (da_cons (de_op opS_mul (de_op opS_add (de_op opS_add (de_name 3) (de_op opS_mul de_int (de_name 4))) de_int) de_int) da_nil)) de_int) S.nd)
    (dss_cons (ds_set (i := 5) (de_op opS_mod (de_callTy callS_int rfl T.n_int boot_int (da_cons (de_op opS_add (de_op opS_add (de_op opS_mul (de_op opS_mul (de_name 5) (de_name 5)) de_int) (de_op opS_mul de_int (de_name 4))) (de_name 5)) da_nil)) de_int) S.nd)
    (dss_one (ds_expr (de_bm mtS_append F.plainAttrs_list F.slot_list_append F.type_list_append (de_name 2) (da_cons (de_op opS_mod (de_op opS_fdiv (de_name 5) de_int) (de_ix ixS_any (de_name 1) (de_name 4))) da_nil)))))))))
    (dss_one (ds_ret (de_name 2))))))
theorem sc_l_cell : FnScope ["_law_script", "_law_k"] ["_law_script", "_law_k"] (defScope s_l_cell) := ⟨rfl, rfl, rfl, by decide +kernel, rfl, by decide +kernel, by decide +kernel⟩
theorem ok_l_cell (T : Fx K mg A) : DOk P w K mg base 1 A.f_l_cell A.d_l_cell ["_law_script", "_law_k"] F_l_cell := by
  have S := sc_l_cell
  refine funD_ok (st := s_l_cell) (N := ["_law_script", "_law_k"]) (ps := ["_law_script", "_law_k"]) (k := 0) (body := m_l_cell) T.F_l_cell S ?_
  intro cdv B outer s H E hr cx
  exact (dss_cons (ds_if (dt_cmp opS_lt (de_name 1) (de_callB callS_len rfl T.n_len boot_len (da_cons (de_name 0) da_nil))) (dss_one (ds_ret (de_ix ixS_any (de_name 0) (de_name 1)))) dss_nil)
    (dss_one (ds_ret de_int)))
theorem sc_NothingToUndoD_initD : FnScope ["self"] ["self"] (defScope s_NothingToUndoD_initD) := ⟨rfl, rfl, rfl, by decide +kernel, rfl, by decide +kernel, by decide +kernel⟩
theorem ok_NothingToUndoD_initD (T : Fx K mg A) : FnOk P w K mg base (L2.CX P w) 1 A.f_NothingToUndoD_initD A.d_NothingToUndoD_initD ["self"] (spI0 K A.c_NothingToUndo ) := init0_ok T.F_NothingToUndoD_initD sc_NothingToUndoD_initD T.g_WayError T.bx_WayError
theorem sc_NoWayD_initD : FnScope ["self", "at"] ["self", "at"] (defScope s_NoWayD_initD) := ⟨rfl, rfl, rfl, by decide +kernel, rfl, by decide +kernel, by decide +kernel⟩
theorem ok_NoWayD_initD (T : Fx K mg A) : FnOk P w K mg base (L2.CX P w) 1 A.f_NoWayD_initD A.d_NoWayD_initD ["self", "at"] (spI1 K A.c_NoWay (Str.ofString "at")) := init1_ok T.F_NoWayD_initD sc_NoWayD_initD T.g_WayError T.bx_WayError
theorem sc_NoPlaceD_initD : FnScope ["self", "path"] ["self", "path"] (defScope s_NoPlaceD_initD) := ⟨rfl, rfl, rfl, by decide +kernel, rfl, by decide +kernel, by decide +kernel⟩
theorem ok_NoPlaceD_initD (T : Fx K mg A) : FnOk P w K mg base (L2.CX P w) 1 A.f_NoPlaceD_initD A.d_NoPlaceD_initD ["self", "path"] (spI1 K A.c_NoPlace (Str.ofString "path")) := init1_ok T.F_NoPlaceD_initD sc_NoPlaceD_initD T.g_WayError T.bx_WayError
theorem sc_BadRuleD_initD : FnScope ["self", "letter"] ["self", "letter"] (defScope s_BadRuleD_initD) := ⟨rfl, rfl, rfl, by decide +kernel, rfl, by decide +kernel, by decide +kernel⟩
theorem ok_BadRuleD_initD (T : Fx K mg A) : FnOk P w K mg base (L2.CX P w) 1 A.f_BadRuleD_initD A.d_BadRuleD_initD ["self", "letter"] (spI1 K A.c_BadRule (Str.ofString "letter")) := init1_ok T.F_BadRuleD_initD sc_BadRuleD_initD T.g_WayError T.bx_WayError
theorem sc_NotAlikeD_initD : FnScope ["self", "rules"] ["self", "rules"] (defScope s_NotAlikeD_initD) := ⟨rfl, rfl, rfl, by decide +kernel, rfl, by decide +kernel, by decide +kernel⟩
theorem ok_NotAlikeD_initD (T : Fx K mg A) : FnOk P w K mg base (L2.CX P w) 1 A.f_NotAlikeD_initD A.d_NotAlikeD_initD ["self", "rules"] (spI1 K A.c_NotAlike (Str.ofString "rules")) := init1_ok T.F_NotAlikeD_initD sc_NotAlikeD_initD T.g_WayError T.bx_WayError
theorem sc_AlikeD_initD : FnScope ["self", "rules"] ["self", "rules"] (defScope s_AlikeD_initD) := ⟨rfl, rfl, rfl, by decide +kernel, rfl, by decide +kernel, by decide +kernel⟩
theorem ok_AlikeD_initD (T : Fx K mg A) : FnOk P w K mg base (L2.CX P w) 1 A.f_AlikeD_initD A.d_AlikeD_initD ["self", "rules"] (spI1 K A.c_Alike (Str.ofString "rules")) := init1_ok T.F_AlikeD_initD sc_AlikeD_initD T.g_WayError T.bx_WayError
theorem sc_BadTableD_initD : FnScope ["self", "at"] ["self", "at"] (defScope s_BadTableD_initD) := ⟨rfl, rfl, rfl, by decide +kernel, rfl, by decide +kernel, by decide +kernel⟩
theorem ok_BadTableD_initD (T : Fx K mg A) : FnOk P w K mg base (L2.CX P w) 1 A.f_BadTableD_initD A.d_BadTableD_initD ["self", "at"] (spI1 K A.c_BadTable (Str.ofString "at")) := init1_ok T.F_BadTableD_initD sc_BadTableD_initD T.g_WayError T.bx_WayError
theorem sc_UnknownNameD_initD : FnScope ["self", "name"] ["self", "name"] (defScope s_UnknownNameD_initD) := ⟨rfl, rfl, rfl, by decide +kernel, rfl, by decide +kernel, by decide +kernel⟩
theorem ok_UnknownNameD_initD (T : Fx K mg A) : FnOk P w K mg base (L2.CX P w) 1 A.f_UnknownNameD_initD A.d_UnknownNameD_initD ["self", "name"] (spI1 K A.c_UnknownName (Str.ofString "name")) := init1_ok T.F_UnknownNameD_initD sc_UnknownNameD_initD T.g_WayError T.bx_WayError
theorem sc_NoConstantD_initD : FnScope ["self", "name"] ["self", "name"] (defScope s_NoConstantD_initD) := ⟨rfl, rfl, rfl, by decide +kernel, rfl, by decide +kernel, by decide +kernel⟩
theorem ok_NoConstantD_initD (T : Fx K mg A) : FnOk P w K mg base (L2.CX P w) 1 A.f_NoConstantD_initD A.d_NoConstantD_initD ["self", "name"] (spI1 K A.c_NoConstant (Str.ofString "name")) := init1_ok T.F_NoConstantD_initD sc_NoConstantD_initD T.g_WayError T.bx_WayError
theorem sc_BadFoldD_initD : FnScope ["self", "kind"] ["self", "kind"] (defScope s_BadFoldD_initD) := ⟨rfl, rfl, rfl, by decide +kernel, rfl, by decide +kernel, by decide +kernel⟩
theorem ok_BadFoldD_initD (T : Fx K mg A) : FnOk P w K mg base (L2.CX P w) 1 A.f_BadFoldD_initD A.d_BadFoldD_initD ["self", "kind"] (spI1 K A.c_BadFold (Str.ofString "kind")) := init1_ok T.F_BadFoldD_initD sc_BadFoldD_initD T.g_WayError T.bx_WayError
theorem sc_NoStepD_initD : FnScope ["self", "rule", "path"] ["self", "rule", "path"] (defScope s_NoStepD_initD) := ⟨rfl, rfl, rfl, by decide +kernel, rfl, by decide +kernel, by decide +kernel⟩
theorem ok_NoStepD_initD (T : Fx K mg A) : FnOk P w K mg base (L2.CX P w) 1 A.f_NoStepD_initD A.d_NoStepD_initD ["self", "rule", "path"] (spI2 K A.c_NoStep (Str.ofString "rule") (Str.ofString "path")) := init2_ok T.F_NoStepD_initD sc_NoStepD_initD T.g_WayError T.bx_WayError
theorem sc_SameWaysD_initD : FnScope ["self"] ["self"] (defScope s_SameWaysD_initD) := ⟨rfl, rfl, rfl, by decide +kernel, rfl, by decide +kernel, by decide +kernel⟩
theorem ok_SameWaysD_initD (T : Fx K mg A) : FnOk P w K mg base (L2.CX P w) 1 A.f_SameWaysD_initD A.d_SameWaysD_initD ["self"] (spI0 K A.c_SameWays ) := init0_ok T.F_SameWaysD_initD sc_SameWaysD_initD T.g_WayError T.bx_WayError
theorem sc_BadPlanD_initD : FnScope ["self", "at"] ["self", "at"] (defScope s_BadPlanD_initD) := ⟨rfl, rfl, rfl, by decide +kernel, rfl, by decide +kernel, by decide +kernel⟩
theorem ok_BadPlanD_initD (T : Fx K mg A) : FnOk P w K mg base (L2.CX P w) 1 A.f_BadPlanD_initD A.d_BadPlanD_initD ["self", "at"] (spI1 K A.c_BadPlan (Str.ofString "at")) := init1_ok T.F_BadPlanD_initD sc_BadPlanD_initD T.g_WayError T.bx_WayError
theorem sc_l_raise : FnScope ["_law_which", "_law_first", "_law_second"] ["_law_which", "_law_first", "_law_second"] (defScope s_l_raise) := ⟨rfl, rfl, rfl, by decide +kernel, rfl, by decide +kernel, by decide +kernel⟩
theorem ok_l_raise (T : Fx K mg A) : DOk P w K mg base 3 A.f_l_raise A.d_l_raise ["_law_which", "_law_first", "_law_second"] F_l_raise := by
  have S := sc_l_raise
  refine funD_ok (st := s_l_raise) (N := ["_law_which", "_law_first", "_law_second"]) (ps := ["_law_which", "_law_first", "_law_second"]) (k := 2) (body := m_l_raise) T.F_l_raise S ?_
  intro cdv B outer s H E hr cx
  exact (dss_cons (ds_if (dt_cmp (opS_eq hr.units) (de_name 0) de_int) (dss_one (ds_raise1 cx T.ex_NoWay (ok_NoWayD_initD T) (hr.mono (by omega)) T.bd_NoWayD_initD rfl (da_cons (de_name 1) da_nil))) dss_nil)
    (dss_cons (ds_if (dt_cmp (opS_eq hr.units) (de_name 0) de_int) (dss_one (ds_raise1 cx T.ex_NoPlace (ok_NoPlaceD_initD T) (hr.mono (by omega)) T.bd_NoPlaceD_initD rfl (da_cons (de_name 1) da_nil))) dss_nil)
    (dss_cons (ds_if (dt_cmp (opS_eq hr.units) (de_name 0) de_int) (dss_one (ds_raise1 cx T.ex_BadRule (ok_BadRuleD_initD T) (hr.mono (by omega)) T.bd_BadRuleD_initD rfl (da_cons (de_name 1) da_nil))) dss_nil)
    (dss_cons (ds_if (dt_cmp (opS_eq hr.units) (de_name 0) de_int) (dss_one (ds_raise1 cx T.ex_NotAlike (ok_NotAlikeD_initD T) (hr.mono (by omega)) T.bd_NotAlikeD_initD rfl (da_cons (de_name 1) da_nil))) dss_nil)
    (dss_cons (ds_if (dt_cmp (opS_eq hr.units) (de_name 0) de_int) (dss_one (ds_raise1 cx T.ex_Alike (ok_AlikeD_initD T) (hr.mono (by omega)) T.bd_AlikeD_initD rfl (da_cons (de_name 1) da_nil))) dss_nil)
    (dss_cons (ds_if (dt_cmp (opS_eq hr.units) (de_name 0) de_int) (dss_one (ds_raise1 cx T.ex_BadTable (ok_BadTableD_initD T) (hr.mono (by omega)) T.bd_BadTableD_initD rfl (da_cons (de_name 1) da_nil))) dss_nil)
    (dss_cons (ds_if (dt_cmp (opS_eq hr.units) (de_name 0) de_int) (dss_one (ds_raise1 cx T.ex_UnknownName (ok_UnknownNameD_initD T) (hr.mono (by omega)) T.bd_UnknownNameD_initD rfl (da_cons (de_name 1) da_nil))) dss_nil)
    (dss_cons (ds_if (dt_cmp (opS_eq hr.units) (de_name 0) de_int) (dss_one (ds_raise1 cx T.ex_NoConstant (ok_NoConstantD_initD T) (hr.mono (by omega)) T.bd_NoConstantD_initD rfl (da_cons (de_name 1) da_nil))) dss_nil)
    (dss_cons (ds_if (dt_cmp (opS_eq hr.units) (de_name 0) de_int) (dss_one (ds_raise1 cx T.ex_BadFold (ok_BadFoldD_initD T) (hr.mono (by omega)) T.bd_BadFoldD_initD rfl (da_cons (de_name 1) da_nil))) dss_nil)
    (dss_cons (ds_if (dt_cmp (opS_eq hr.units) (de_name 0) de_int) (dss_one (ds_raise2 cx T.ex_NoStep (ok_NoStepD_initD T) (hr.mono (by omega)) T.bd_NoStepD_initD rfl (da_cons (de_name 1) (da_cons (de_name 2) da_nil)))) dss_nil)
    (dss_cons (ds_if (dt_cmp (opS_eq hr.units) (de_name 0) de_int) (dss_one (ds_raise0 cx T.ex_SameWays (ok_SameWaysD_initD T) (hr.mono (by omega)) T.bd_SameWaysD_initD rfl)) dss_nil)
    (dss_cons (ds_if (dt_cmp (opS_eq hr.units) (de_name 0) de_int) (dss_one (ds_raise1 cx T.ex_BadPlan (ok_BadPlanD_initD T) (hr.mono (by omega)) T.bd_BadPlanD_initD rfl (da_cons (de_name 1) da_nil))) dss_nil)
    (dss_one (ds_raise0 cx T.ex_NothingToUndo (ok_NothingToUndoD_initD T) (hr.mono (by omega)) T.bd_NothingToUndoD_initD rfl))))))))))))))
theorem sc_l_flags : FnScope ["_law_e", "_law_flags_here"] ["_law_e"] (defScope s_l_flags) := ⟨rfl, rfl, rfl, by decide +kernel, rfl, by decide +kernel, by decide +kernel⟩
theorem ok_l_flags (T : Fx K mg A) {C : String} {a cc : Addr} {d : Option Addr} {oe : Obj} (h1 : exm_WayError C = some true) (h2 : mg (Str.ofString C) = some (.ref cc)) (hz : Zc (.ref cc) d oe) (hf : ∃ vs, oe.data = .fields vs) : DOkP (a, oe) P w K mg base 1 A.f_l_flags A.d_l_flags ["_law_e"] (F_l_flags C a d) := by
  have S := sc_l_flags
  refine funP_ok (st := s_l_flags) (N := ["_law_e", "_law_flags_here"]) (ps := ["_law_e"]) (k := 0) (body := m_l_flags C a d) T.F_l_flags S ?_
  intro cdv B outer s H E hr
  exact (dss_cons (ds_set (i := 1) (de_lst (da_cons (de_callB (callS_isX List.mem_cons_self (T.hot _ _ h1 h2).ex hz hf (T.hot _ _ h1 h2).q (T.hot _ _ h1 h2).p) rfl T.n_isinstance boot_isinstance (da_cons (de_name 0) (da_cons (de_glo rfl T.g_NoWay) da_nil))) (da_cons (de_callB (callS_isX List.mem_cons_self (T.hot _ _ h1 h2).ex hz hf (T.hot _ _ h1 h2).q (T.hot _ _ h1 h2).p) rfl T.n_isinstance boot_isinstance (da_cons (de_name 0) (da_cons (de_glo rfl T.g_NoPlace) da_nil))) (da_cons (de_callB (callS_isX List.mem_cons_self (T.hot _ _ h1 h2).ex hz hf (T.hot _ _ h1 h2).q (T.hot _ _ h1 h2).p) rfl T.n_isinstance boot_isinstance (da_cons (de_name 0) (da_cons (de_glo rfl T.g_BadRule) da_nil))) (da_cons (de_callB (callS_isX List.mem_cons_self (T.hot _ _ h1 h2).ex hz hf (T.hot _ _ h1 h2).q (T.hot _ _ h1 h2).p) rfl T.n_isinstance boot_isinstance (da_cons (de_name 0) (da_cons (de_glo rfl T.g_NotAlike) da_nil))) da_nil))))) S.nd)
    (dss_cons (ds_set (i := 1) (de_op opS_add (de_name 1) (de_lst (da_cons (de_callB (callS_isX List.mem_cons_self (T.hot _ _ h1 h2).ex hz hf (T.hot _ _ h1 h2).q (T.hot _ _ h1 h2).p) rfl T.n_isinstance boot_isinstance (da_cons (de_name 0) (da_cons (de_glo rfl T.g_Alike) da_nil))) (da_cons (de_callB (callS_isX List.mem_cons_self (T.hot _ _ h1 h2).ex hz hf (T.hot _ _ h1 h2).q (T.hot _ _ h1 h2).p) rfl T.n_isinstance boot_isinstance (da_cons (de_name 0) (da_cons (de_glo rfl T.g_BadTable) da_nil))) (da_cons (de_callB (callS_isX List.mem_cons_self (T.hot _ _ h1 h2).ex hz hf (T.hot _ _ h1 h2).q (T.hot _ _ h1 h2).p) rfl T.n_isinstance boot_isinstance (da_cons (de_name 0) (da_cons (de_glo rfl T.g_UnknownName) da_nil))) da_nil))))) S.nd)
    (dss_cons (ds_set (i := 1) (de_op opS_add (de_name 1) (de_lst (da_cons (de_callB (callS_isX List.mem_cons_self (T.hot _ _ h1 h2).ex hz hf (T.hot _ _ h1 h2).q (T.hot _ _ h1 h2).p) rfl T.n_isinstance boot_isinstance (da_cons (de_name 0) (da_cons (de_glo rfl T.g_NoConstant) da_nil))) (da_cons (de_callB (callS_isX List.mem_cons_self (T.hot _ _ h1 h2).ex hz hf (T.hot _ _ h1 h2).q (T.hot _ _ h1 h2).p) rfl T.n_isinstance boot_isinstance (da_cons (de_name 0) (da_cons (de_glo rfl T.g_BadFold) da_nil))) (da_cons (de_callB (callS_isX List.mem_cons_self (T.hot _ _ h1 h2).ex hz hf (T.hot _ _ h1 h2).q (T.hot _ _ h1 h2).p) rfl T.n_isinstance boot_isinstance (da_cons (de_name 0) (da_cons (de_glo rfl T.g_NoStep) da_nil))) da_nil))))) S.nd)
    (dss_one (ds_ret (de_op opS_add (de_name 1) (de_lst (da_cons (de_callB (callS_isX List.mem_cons_self (T.hot _ _ h1 h2).ex hz hf (T.hot _ _ h1 h2).q (T.hot _ _ h1 h2).p) rfl T.n_isinstance boot_isinstance (da_cons (de_name 0) (da_cons (de_glo rfl T.g_SameWays) da_nil))) (da_cons (de_callB (callS_isX List.mem_cons_self (T.hot _ _ h1 h2).ex hz hf (T.hot _ _ h1 h2).q (T.hot _ _ h1 h2).p) rfl T.n_isinstance boot_isinstance (da_cons (de_name 0) (da_cons (de_glo rfl T.g_BadPlan) da_nil))) (da_cons (de_callB (callS_isX List.mem_cons_self (T.hot _ _ h1 h2).ex hz hf (T.hot _ _ h1 h2).q (T.hot _ _ h1 h2).p) rfl T.n_isinstance boot_isinstance (da_cons (de_name 0) (da_cons (de_glo rfl T.g_NothingToUndo) da_nil))) da_nil))))))))))
theorem sc_l_fields : FnScope ["_law_which", "_law_e"] ["_law_which", "_law_e"] (defScope s_l_fields) := ⟨rfl, rfl, rfl, by decide +kernel, rfl, by decide +kernel, by decide +kernel⟩
theorem ok_l_fields (T : Fx K mg A) {C : String} {a cc : Addr} {d : Option Addr} {oe : Obj} (h1 : exm_WayError C = some true) (h2 : mg (Str.ofString C) = some (.ref cc)) (hz : Zc (.ref cc) d oe) (hf : ∃ vs, oe.data = .fields vs) : DOkP (a, oe) P w K mg base 1 A.f_l_fields A.d_l_fields ["_law_which", "_law_e"] (F_l_fields C a d) := by
  have S := sc_l_fields
  refine funP_ok (st := s_l_fields) (N := ["_law_which", "_law_e"]) (ps := ["_law_which", "_law_e"]) (k := 0) (body := m_l_fields C a d) T.F_l_fields S ?_
  intro cdv B outer s H E hr
  exact (dss_cons (ds_if (dt_cmp (opS_inTI false) (de_name 0) (de_tup (da_cons de_int (da_cons de_int (da_cons de_int da_nil))))) (dss_one (ds_ret (de_lst (da_cons (de_xfG (f := "at") List.mem_cons_self hz hf ⟨(T.hot _ _ h1 h2).xf, (T.hot _ _ h1 h2).fl _ (by decide)⟩ (de_name 1)) da_nil)))) dss_nil)
    (dss_cons (ds_if (dt_cmp (opS_eq hr.units) (de_name 0) de_int) (dss_one (ds_ret (de_lst (da_cons (de_xfG (f := "path") List.mem_cons_self hz hf ⟨(T.hot _ _ h1 h2).xf, (T.hot _ _ h1 h2).fl _ (by decide)⟩ (de_name 1)) da_nil)))) dss_nil)
    (dss_cons (ds_if (dt_cmp (opS_eq hr.units) (de_name 0) de_int) (dss_one (ds_ret (de_lst (da_cons (de_xfG (f := "letter") List.mem_cons_self hz hf ⟨(T.hot _ _ h1 h2).xf, (T.hot _ _ h1 h2).fl _ (by decide)⟩ (de_name 1)) da_nil)))) dss_nil)
    (dss_cons (ds_if (DW.dt (dw_or (dt_cmp (opS_eq hr.units) (de_name 0) de_int) (dw_or1 (dt_cmp (opS_eq hr.units) (de_name 0) de_int)))) (dss_one (ds_ret (de_lst (da_cons (de_xfG (f := "rules") List.mem_cons_self hz hf ⟨(T.hot _ _ h1 h2).xf, (T.hot _ _ h1 h2).fl _ (by decide)⟩ (de_name 1)) da_nil)))) dss_nil)
    (dss_cons (ds_if (DW.dt (dw_or (dt_cmp (opS_eq hr.units) (de_name 0) de_int) (dw_or1 (dt_cmp (opS_eq hr.units) (de_name 0) de_int)))) (dss_one (ds_ret (de_lst (da_cons (de_xfG (f := "name") List.mem_cons_self hz hf ⟨(T.hot _ _ h1 h2).xf, (T.hot _ _ h1 h2).fl _ (by decide)⟩ (de_name 1)) da_nil)))) dss_nil)
    (dss_cons (ds_if (dt_cmp (opS_eq hr.units) (de_name 0) de_int) (dss_one (ds_ret (de_lst (da_cons (de_xfG (f := "kind") List.mem_cons_self hz hf ⟨(T.hot _ _ h1 h2).xf, (T.hot _ _ h1 h2).fl _ (by decide)⟩ (de_name 1)) da_nil)))) dss_nil)
    (dss_cons (ds_if (dt_cmp (opS_eq hr.units) (de_name 0) de_int) (dss_one (ds_ret (de_lst (da_cons (de_xfG (f := "rule") List.mem_cons_self hz hf ⟨(T.hot _ _ h1 h2).xf, (T.hot _ _ h1 h2).fl _ (by decide)⟩ (de_name 1)) (da_cons (de_xfG (f := "path") List.mem_cons_self hz hf ⟨(T.hot _ _ h1 h2).xf, (T.hot _ _ h1 h2).fl _ (by decide)⟩ (de_name 1)) da_nil))))) dss_nil)
    (dss_one (ds_ret (de_lst da_nil))))))))))
theorem sc_law : FnScope ["_law_script", "_law_head", "_law_which", "_law_texts", "_law_first", "_law_second", "_law_due", "_law_turn", "_law_seen", "_law_e", "_law_k"] ["_law_script"] (defScope s_law) := ⟨rfl, rfl, rfl, by decide +kernel, rfl, by decide +kernel, by decide +kernel⟩
theorem ok_law (T : Fx K mg A) : DOk P w K mg base 4 A.f_law A.d_law ["_law_script"] F_law := by
  have S := sc_law
  refine funD_ok (st := s_law) (N := ["_law_script", "_law_head", "_law_which", "_law_texts", "_law_first", "_law_second", "_law_due", "_law_turn", "_law_seen", "_law_e", "_law_k"]) (ps := ["_law_script"]) (k := 3) (body := m_law) T.F_law S ?_
  intro cdv B outer s H E hr cx
  exact (dss_cons (ds_set (i := 1) (de_call (x := "_law_draws") (ps := ["_law_cell_here", "_law_sizes"]) (ok_l_draws T) (hr.mono (by omega)) cx.tk rfl T.g_l_draws T.F_l_draws.kp ⟨T.b_l_draws_2⟩ (da_cons (de_call (x := "_law_cell") (ps := ["_law_script", "_law_k"]) (ok_l_cell T) (hr.mono (by omega)) cx.tk rfl T.g_l_cell T.F_l_cell.kp ⟨T.b_l_cell_2⟩ (da_cons (de_name 0) (da_cons de_int da_nil))) (da_cons (de_lst (da_cons de_int (da_cons de_int (da_cons de_int (da_cons de_int da_nil))))) da_nil))) S.nd)
    (dss_cons (ds_set (i := 2) (de_ix ixS_any (de_name 1) de_int) S.nd)
    (dss_cons (ds_set (i := 3) (de_lst (da_cons (de_str (s := "")) (da_cons (de_str (s := "0")) (da_cons (de_str (s := "A")) (da_cons (de_str (s := "left")) (da_cons (de_str (s := "z z")) da_nil)))))) S.nd)
    (dss_cons (ds_set (i := 4) (de_ix ixS_any (de_name 3) (de_ix ixS_any (de_name 1) de_int)) S.nd)
    (dss_cons (ds_if (DW.dt (dw_or (dt_cmp (opS_inTI false) (de_name 2) (de_tup (da_cons de_int (da_cons de_int (da_cons de_int da_nil))))) (dw_or1 (dt_cmp (opS_eq hr.units) (de_ix ixS_any (de_name 1) de_int) de_int)))) (dss_one (ds_set (i := 4) (de_op opS_sub (de_op opS_mod (de_callTy callS_int rfl T.n_int boot_int (da_cons (de_call (x := "_law_cell") (ps := ["_law_script", "_law_k"]) (ok_l_cell T) (hr.mono (by omega)) cx.tk rfl T.g_l_cell T.F_l_cell.kp ⟨T.b_l_cell_2⟩ (da_cons (de_name 0) (da_cons de_int da_nil))) da_nil)) (de_op opS_pow de_int de_int)) (de_op opS_pow de_int de_int)) S.nd)) dss_nil)
    (dss_cons (ds_set (i := 5) (de_ix ixS_any (de_name 3) (de_ix ixS_any (de_name 1) de_int)) S.nd)
    (dss_cons (ds_set (i := 6) (de_op opS_add (de_op opS_mul (de_lst (da_cons (de_lst (da_cons (de_name 4) da_nil)) da_nil)) de_int) (de_lst (da_cons (de_lst (da_cons (de_name 4) (da_cons (de_name 5) da_nil))) (da_cons (de_lst da_nil) (da_cons (de_lst (da_cons (de_name 4) da_nil)) (da_cons (de_lst da_nil) da_nil)))))) S.nd)
    (dss_cons (ds_for cx (di_range1 rfl T.n_range (da_cons de_int da_nil)) (dg_name S.nd) (dss_cons (ds_set (i := 8) (de_lst da_nil) S.nd)
    (dss_cons (ds_try_asC (i := 9) (ms := s_law_1) rfl rfl S.nd cx.tk ⟨rfl, by decide, .inl T.g_WayError⟩ T.xm_WayError (fun W' pn xe cx => (dss_one (ds_expr (de_call (x := "_law_raise") (ps := ["_law_which", "_law_first", "_law_second"]) (ok_l_raise T) (hr.mono (by omega)) cx.tk rfl T.g_l_raise T.F_l_raise.kp ⟨T.b_l_raise_3⟩ (da_cons (de_name 2) (da_cons (de_name 4) (da_cons (de_name 5) da_nil))))))) (fun C cc a oe d pn h1 h2 hz hf => (dss_cons (ds_if (dt_not (dt_tru (de_callB (callS_isX List.mem_cons_self (T.hot _ _ h1 h2).ex hz hf (T.hot _ _ h1 h2).q (T.hot _ _ h1 h2).p) rfl T.n_isinstance boot_isinstance (da_cons (de_name 9) (da_cons (de_ty rfl T.n_ValueError boot_ValueError) da_nil))))) (dss_one (ds_ret de_bl)) dss_nil)
    (dss_one (ds_set (i := 8) (de_lst (da_cons (de_callP (p := (a, oe)) (ps := ["_law_e"]) (ok_l_flags T h1 h2 hz hf) (roomH_mark (hr.mono (by omega))) List.mem_cons_self rfl T.g_l_flags T.F_l_flags.kp T.bd_l_flags (da_cons (de_name 9) da_nil)) (da_cons (de_callP (p := (a, oe)) (ps := ["_law_which", "_law_e"]) (ok_l_fields T h1 h2 hz hf) (roomH_mark (hr.mono (by omega))) List.mem_cons_self rfl T.g_l_fields T.F_l_fields.kp T.bd_l_fields (da_cons (de_name 2) (da_cons (de_name 9) da_nil))) da_nil))) S.nd)))) s_law_1_eq cx.calm)
    (dss_one (ds_if (dt_cmp (opS_ne hr.units) (de_name 8) (de_lst (da_cons (de_lc (own := [("_law_k", 10)]) cx.calm S.nd (by exact (di_range1 rfl T.n_range (da_cons de_int da_nil))) (blkOk_by (by first | kernel_rfl | decide +kernel)) (by decide) (fun _ _ _ _ _ => (dg_name S.nd)) (fun _ _ _ _ _ => by exact dts_nil) (fun _ _ _ _ _ => by exact (de_cmp (opS_eq hr.units) (de_name 10) (de_name 2)))) (da_cons (de_ix ixS_any (de_name 6) (de_name 2)) da_nil)))) (dss_one (ds_ret de_bl)) dss_nil)))))
    (dss_one (ds_ret de_bl))))))))))
end
end Lk01
namespace Lk01
open PySem PySem.Spec L2 DL
open PyProof.Rows hiding St
theorem cell_run (ns : List Int) (k : Int) (hk : 0 ≤ k) (M : MS) : ∃ c, F_l_cell [.flst (ns.map D.int), .int k] M = .ok (.int c) M := by
  unfold F_l_cell
  rw [runD_ap]
  by_cases h : k < ns.length
  · obtain ⟨j, rfl⟩ : ∃ j : Nat, k = (j : Int) := ⟨k.toNat, by omega⟩
    have hj : j < ns.length := by omega
    refine ⟨ns[j], ?_⟩
    have e : ixD (.flst (ns.map D.int)) (.int (j : Int)) M = .ok (.int ns[j]) M := ixD_flst (atI_of (by simp [List.getElem?_eq_getElem hj]))
    simp [m_l_cell, startD, hj, e]
  · refine ⟨0, ?_⟩
    simp [m_l_cell, startD, h]
theorem get_last {M : MS} {o : MO} : (M ++ [o])[M.length]? = some o := by simp
theorem set_last {M : MS} {o o' : MO} : (M ++ [o]).set M.length o' = M ++ [o'] := by simp
/-- the draws for sizes -/
def DrawsOk (sizes xs : List Int) : Prop := xs.length = sizes.length ∧ ∀ (i : Nat) (x s : Int), xs[i]? = some x → sizes[i]? = some s → 0 ≤ x ∧ x < s
theorem draws_run {M : MS} {c : Int} {sizes : List Int} (hl : sizes.length ≤ 1000) (hs : ∀ s, s ∈ sizes → 0 < s ∧ s < 1073741824) :
    ∃ xs, F_l_draws [.int c, .lst (sizes.map D.int)] M = .ok (.cell M.length) (M ++ [.lst (xs.map D.int)]) ∧ DrawsOk sizes xs := by
  have key : ∃ sd' M', forGo (fun _ => True) (nameG 4) b_l_draws_1 (intsI (rangeN 0 (sizes.length : Int))).ds [some (.int c), some (.lst (sizes.map D.int)), some (.cell M.length), some (.int (if c < 0 then -c else c)), none, none] (M ++ [.lst []]) = .nx sd' M' ∧
      ∃ (xs : List Int) (left : Int) (o4 o5 : Option D), sd' = [some (.int c), some (.lst (sizes.map D.int)), some (.cell M.length), some (.int left), o4, o5] ∧ M' = M ++ [.lst (xs.map D.int)] ∧ xs.length = 0 + (intsI (rangeN 0 (sizes.length : Int))).ds.length ∧ ∀ (i : Nat) (x s : Int), xs[i]? = some x → sizes[i]? = some s → 0 ≤ x ∧ x < s := by
    refine forGo_go (chk := fun _ => True) (g := nameG 4) (body := b_l_draws_1) (fun k sd M' => ∃ (xs : List Int) (left : Int) (o4 o5 : Option D), sd = [some (.int c), some (.lst (sizes.map D.int)), some (.cell M.length), some (.int left), o4, o5] ∧ M' = M ++ [.lst (xs.map D.int)] ∧ xs.length = k ∧ ∀ (i : Nat) (x s : Int), xs[i]? = some x → sizes[i]? = some s → 0 ≤ x ∧ x < s) _ 0 _ _ ⟨[], _, _, _, rfl, rfl, rfl, fun i x s h => by simp at h⟩ (fun i d sd M' hi hI => ?_) (fun _ _ _ => trivial)
    obtain ⟨xs, left, o4, o5, rfl, rfl, hxl, hx⟩ := hI
    rw [Nat.zero_add] at hxl
    obtain ⟨rfl, hi2⟩ := get_rangeN hi
    rw [Int.zero_add]
    have hi3 : i < sizes.length := by omega
    obtain ⟨s0, s1⟩ := hs sizes[i] (List.getElem_mem hi3)
    have e1 : ixD (.lst (sizes.map D.int)) (.int (i : Int)) (M ++ [.lst (xs.map D.int)]) = .ok (.int sizes[i]) (M ++ [.lst (xs.map D.int)]) := ixD_lst (atI_of (by simp [List.getElem?_eq_getElem hi3]))
    have ap : ∀ y : Int, appendF (.cell M.length) [.int y] (M ++ [.lst (xs.map D.int)]) = .ok .non (M ++ [.lst ((xs ++ [y]).map D.int)]) := fun y => by
      unfold appendF
      simp only [get_last]
      rw [if_pos (by rw [List.length_map]; omega), set_last, List.map_append]
      rfl
    have hq : ∀ y : Int, 0 ≤ y ∧ y < sizes[i] → ∀ (j : Nat) (x s : Int), (xs ++ [y])[j]? = some x → sizes[j]? = some s → 0 ≤ x ∧ x < s := fun y hy j x s h1 h2 => by
      by_cases hj : j < xs.length
      · rw [List.getElem?_append_left hj] at h1
        exact hx j x s h1 h2
      · rw [List.getElem?_append_right (by omega)] at h1
        have hj0 : j - xs.length = 0 := by
          by_cases z : j - xs.length = 0
          · exact z
          · rw [List.getElem?_eq_none (by simp; omega)] at h1; cases h1
        rw [hj0] at h1
        have hx1 : y = x := by simpa using h1
        have hj1 : j = i := by omega
        subst hj1
        rw [List.getElem?_eq_getElem hi3] at h2
        cases h2
        subst hx1
        exact hy
    have tyv : ∀ L : List D, tyvD (M ++ [.lst L]) "list" (.cell M.length) = true := fun L => by unfold tyvD; simp
    refine ⟨trivial, _, rfl, ?_⟩
    have big : ((10 : Int) ^ (18 : Int).toNat) = 1000000000000000000 := by decide
    by_cases hc : (1000000000000000000 : Int) ≤ (if c < 0 then -c else c)
    · refine ⟨[some (.int c), some (.lst (sizes.map D.int)), some (.cell M.length), some (.int (left / sizes[i])), some (.int (i : Int)), o5], M ++ [.lst ((xs ++ [left % sizes[i]]).map D.int)], .inl ?_, xs ++ [left % sizes[i]], _, _, _, rfl, rfl, by simp [hxl], hq _ ⟨Int.emod_nonneg _ (by omega), Int.emod_lt_of_pos _ s0⟩⟩
      have e2 : ixD (.lst (sizes.map D.int)) (.int (i : Int)) (M ++ [.lst ((xs ++ [left % sizes[i]]).map D.int)]) = .ok (.int sizes[i]) (M ++ [.lst ((xs ++ [left % sizes[i]]).map D.int)]) := ixD_lst (atI_of (by simp [List.getElem?_eq_getElem hi3]))
      have a1 := ap (left % sizes[i])
      have t1 := tyv (xs.map D.int)
      generalize M ++ [.lst ((xs ++ [left % sizes[i]]).map D.int)] = MB at *
      generalize M ++ [.lst (xs.map D.int)] = MA at *
      generalize sizes.map D.int = sz at *
      simp [b_l_draws_1, powI_int, big, hc, bmK_ap t1, e1, a1, e2, modI_int s0, fdivI_int ⟨s0, s1⟩]
    · generalize hm1 : ((left + 11 * (i : Int) + 3) * 48271) % 2147483647 = m1
      have b1 : 0 ≤ m1 ∧ m1 < 2147483647 := by rw [← hm1]; exact ⟨Int.emod_nonneg _ (by decide), Int.emod_lt_of_pos _ (by decide)⟩
      generalize hm2 : (m1 * m1 * 16807 + 97 * (i : Int) + m1) % 2147483629 = m2
      refine ⟨[some (.int c), some (.lst (sizes.map D.int)), some (.cell M.length), some (.int left), some (.int (i : Int)), some (.int m2)], M ++ [.lst ((xs ++ [m2 / 5 % sizes[i]]).map D.int)], .inl ?_, xs ++ [m2 / 5 % sizes[i]], _, _, _, rfl, rfl, by simp [hxl], hq _ ⟨Int.emod_nonneg _ (by omega), Int.emod_lt_of_pos _ s0⟩⟩
      have a1 := ap (m2 / 5 % sizes[i])
      have t1 := tyv (xs.map D.int)
      generalize M ++ [.lst ((xs ++ [m2 / 5 % sizes[i]]).map D.int)] = MB at *
      generalize M ++ [.lst (xs.map D.int)] = MA at *
      generalize sizes.map D.int = sz at *
      simp [b_l_draws_1, powI_int, big, hc, bmK_ap t1, e1, a1, modI_int, fdivI_int, mulD_int (i := 11) (j := (i : Int)) (M := MA) (.inl ⟨by decide, by decide⟩), mulD_int (j := 48271) (M := MA) (.inr ⟨by decide, by decide⟩), hm1, mulD_int (i := m1) (j := m1) (M := MA) (.inr ⟨by omega, by omega⟩), mulD_int (j := 16807) (M := MA) (.inr ⟨by decide, by decide⟩), mulD_int (i := 97) (j := (i : Int)) (M := MA) (.inl ⟨by decide, by decide⟩), hm2, s0]
  obtain ⟨sd', M', e, xs, left, o4, o5, rfl, rfl, hxl, hx⟩ := key
  rw [Nat.zero_add, show (intsI (rangeN 0 (sizes.length : Int))).ds.length = sizes.length by rw [len_rangeN]; omega] at hxl
  refine ⟨xs, ?_, hxl, hx⟩
  unfold F_l_draws
  rw [runD_ap]
  have hr : r1K [.int (sizes.length : Int)] (M ++ [.lst []]) = .ok (intsI (rangeN 0 (sizes.length : Int))) (M ++ [.lst []]) := r1K_ap (by omega)
  simp [m_l_draws, startD, celK_ap, hr, e]
theorem DrawsOk.get {sizes xs : List Int} (h : DrawsOk sizes xs) (i : Nat) (s : Int) (hs : sizes[i]? = some s) : ∃ x, xs[i]? = some x ∧ 0 ≤ x ∧ x < s := by
  have hi : i < xs.length := by rw [h.1]; exact (List.getElem?_eq_some_iff.mp hs).1
  exact ⟨xs[i], List.getElem?_eq_getElem hi, h.2 i _ s (List.getElem?_eq_getElem hi) hs⟩
theorem DrawsOk.ix {sizes xs : List Int} (h : DrawsOk sizes xs) {M : MS} {n : Nat} (hm : M[n]? = some (.lst (xs.map D.int))) (i : Nat) (s : Int) (hs : sizes[i]? = some s) : ∃ x, xs[i]? = some x ∧ ixD (.cell n) (.int (i : Int)) M = .ok (.int x) M ∧ 0 ≤ x ∧ x < s := by
  obtain ⟨x, h1, h2, h3⟩ := h.get i s hs
  exact ⟨x, h1, ixD_cell hm (atI_of (by rw [List.getElem?_map, h1]; rfl)), h2, h3⟩
section
variable {sd : SD} {M : MS} {ta tb : MB} {p q : Bool} {a : ME} {d : D} {r st : MST}
theorem orB_ok (h1 : ta sd M = .ok p M) (h2 : tb sd M = .ok q M) : orB ta tb sd M = .ok (p || q) M := by
  rw [orB_ap, h1, Res.bind_ok]
  cases p
  · rw [orBK_f, h2]; rfl
  · rfl
end
section
variable {sd : SD} {M : MS} {ta tb : MB} {p q : Bool} {a b : ME} {d : D} {r st : MST}
theorem ifS_ok {s1 s2 : MST} (h1 : ta sd M = .ok p M) : ifS ta s1 s2 sd M = if p = true then s1 sd M else s2 sd M := by
  rw [ifS_ap, h1]
  cases p <;> rfl
end
theorem range_ds (n : Nat) : (intsI (rangeN 0 (n : Int))).ds = (List.range n).map fun k : Nat => D.int (k : Int) := by
  simp [intsI, rangeN]
theorem lc_rng {ma : MA} {s : Nat} {te : ME} {sd : SD} {M : MS} {n : Nat} {g : Nat → D} (hn : n ≤ 1000000) (h : ma sd M = .ok [.int (n : Int)] M) (ht : ∀ i, i < n → te ((wipeD sd [s]).set s (some (.int (i : Int)))) M = .ok (g i) M) : lcE (range1I ma) (nameG s) yesB te [s] sd M = .ok (.lst ((List.range n).map g)) M := by
  have lc := lc_map (te := te) (i := s) (w := wipeD sd [s]) (M := M) (g := fun j : Nat => D.int (j : Int)) (f := g) (xs := List.range n) (by simp; omega) (fun j hj => ht j (List.mem_range.mp hj))
  rw [← range_ds] at lc
  rw [lcE_ap, range1I_ap, h, Res.bind_ok, r1K_ap (by omega), Res.bind_ok, lcK_ap]
  show (Res.bind (Res.ne (lcGo (fun _ => True) _ _ _ _ _ _ _)) _) = _
  rw [lc]
  rfl
def cN : Nat → String
  | 0 => "NoWay" | 1 => "NoPlace" | 2 => "BadRule" | 3 => "NotAlike" | 4 => "Alike" | 5 => "BadTable" | 6 => "UnknownName" | 7 => "NoConstant" | 8 => "BadFold" | 9 => "NoStep" | 10 => "SameWays" | 11 => "BadPlan" | _ => "NothingToUndo"
def nN : Nat → List String
  | 0 => ["at"] | 1 => ["path"] | 2 => ["letter"] | 3 => ["rules"] | 4 => ["rules"] | 5 => ["at"] | 6 => ["name"] | 7 => ["name"] | 8 => ["kind"] | 9 => ["path", "rule"] | 10 => [] | 11 => ["at"] | _ => []
def dN (A B : D) : Nat → List D
  | 9 => [B, A] | 10 => [] | 12 => [] | _ => [A]
def uN (A B : D) : Nat → List D
  | 9 => [A, B] | 10 => [] | 12 => [] | _ => [A]
section
variable {A B : D} {M : MS}
theorem rs_no {r a : MST} {k j : Int} (h : (k == j) = false) : seqS (ifS (valB (binE (eqD false) (nameE 0) (constE (.int j)))) a passS) r [some (.int k), some A, some B] M = r [some (.int k), some A, some B] M := by
  simp [h]
theorem rs_yes {r a : MST} {k j : Int} (h : (k == j) = true) : seqS (ifS (valB (binE (eqD false) (nameE 0) (constE (.int j)))) a passS) r [some (.int k), some A, some B] M = (a [some (.int k), some A, some B] M).seq r := by
  simp [h]
theorem raise_0 : F_l_raise [.int 0, A, B] M = .exc (cN 0) (nN 0) (dN A B 0) M := by
  show (m_l_raise [some (.int 0), some A, some B] M).res = _
  unfold m_l_raise
  rw [rs_yes (by decide)]
  rfl
theorem raise_1 : F_l_raise [.int 1, A, B] M = .exc (cN 1) (nN 1) (dN A B 1) M := by
  show (m_l_raise [some (.int 1), some A, some B] M).res = _
  unfold m_l_raise
  rw [rs_no (by decide), rs_yes (by decide)]
  rfl
theorem raise_2 : F_l_raise [.int 2, A, B] M = .exc (cN 2) (nN 2) (dN A B 2) M := by
  show (m_l_raise [some (.int 2), some A, some B] M).res = _
  unfold m_l_raise
  rw [rs_no (by decide), rs_no (by decide), rs_yes (by decide)]
  rfl
theorem raise_3 : F_l_raise [.int 3, A, B] M = .exc (cN 3) (nN 3) (dN A B 3) M := by
  show (m_l_raise [some (.int 3), some A, some B] M).res = _
  unfold m_l_raise
  rw [rs_no (by decide), rs_no (by decide), rs_no (by decide), rs_yes (by decide)]
  rfl
theorem raise_4 : F_l_raise [.int 4, A, B] M = .exc (cN 4) (nN 4) (dN A B 4) M := by
  show (m_l_raise [some (.int 4), some A, some B] M).res = _
  unfold m_l_raise
  rw [rs_no (by decide), rs_no (by decide), rs_no (by decide), rs_no (by decide), rs_yes (by decide)]
  rfl
theorem raise_5 : F_l_raise [.int 5, A, B] M = .exc (cN 5) (nN 5) (dN A B 5) M := by
  show (m_l_raise [some (.int 5), some A, some B] M).res = _
  unfold m_l_raise
  rw [rs_no (by decide), rs_no (by decide), rs_no (by decide), rs_no (by decide), rs_no (by decide), rs_yes (by decide)]
  rfl
theorem raise_6 : F_l_raise [.int 6, A, B] M = .exc (cN 6) (nN 6) (dN A B 6) M := by
  show (m_l_raise [some (.int 6), some A, some B] M).res = _
  unfold m_l_raise
  rw [rs_no (by decide), rs_no (by decide), rs_no (by decide), rs_no (by decide), rs_no (by decide), rs_no (by decide), rs_yes (by decide)]
  rfl
theorem raise_7 : F_l_raise [.int 7, A, B] M = .exc (cN 7) (nN 7) (dN A B 7) M := by
  show (m_l_raise [some (.int 7), some A, some B] M).res = _
  unfold m_l_raise
  rw [rs_no (by decide), rs_no (by decide), rs_no (by decide), rs_no (by decide), rs_no (by decide), rs_no (by decide), rs_no (by decide), rs_yes (by decide)]
  rfl
theorem raise_8 : F_l_raise [.int 8, A, B] M = .exc (cN 8) (nN 8) (dN A B 8) M := by
  show (m_l_raise [some (.int 8), some A, some B] M).res = _
  unfold m_l_raise
  rw [rs_no (by decide), rs_no (by decide), rs_no (by decide), rs_no (by decide), rs_no (by decide), rs_no (by decide), rs_no (by decide), rs_no (by decide), rs_yes (by decide)]
  rfl
theorem raise_9 : F_l_raise [.int 9, A, B] M = .exc (cN 9) (nN 9) (dN A B 9) M := by
  show (m_l_raise [some (.int 9), some A, some B] M).res = _
  unfold m_l_raise
  rw [rs_no (by decide), rs_no (by decide), rs_no (by decide), rs_no (by decide), rs_no (by decide), rs_no (by decide), rs_no (by decide), rs_no (by decide), rs_no (by decide), rs_yes (by decide)]
  rfl
theorem raise_10 : F_l_raise [.int 10, A, B] M = .exc (cN 10) (nN 10) (dN A B 10) M := by
  show (m_l_raise [some (.int 10), some A, some B] M).res = _
  unfold m_l_raise
  rw [rs_no (by decide), rs_no (by decide), rs_no (by decide), rs_no (by decide), rs_no (by decide), rs_no (by decide), rs_no (by decide), rs_no (by decide), rs_no (by decide), rs_no (by decide), rs_yes (by decide)]
  rfl
theorem raise_11 : F_l_raise [.int 11, A, B] M = .exc (cN 11) (nN 11) (dN A B 11) M := by
  show (m_l_raise [some (.int 11), some A, some B] M).res = _
  unfold m_l_raise
  rw [rs_no (by decide), rs_no (by decide), rs_no (by decide), rs_no (by decide), rs_no (by decide), rs_no (by decide), rs_no (by decide), rs_no (by decide), rs_no (by decide), rs_no (by decide), rs_no (by decide), rs_yes (by decide)]
  rfl
theorem raise_12 : F_l_raise [.int 12, A, B] M = .exc (cN 12) (nN 12) (dN A B 12) M := by
  show (m_l_raise [some (.int 12), some A, some B] M).res = _
  unfold m_l_raise
  rw [rs_no (by decide), rs_no (by decide), rs_no (by decide), rs_no (by decide), rs_no (by decide), rs_no (by decide), rs_no (by decide), rs_no (by decide), rs_no (by decide), rs_no (by decide), rs_no (by decide), rs_no (by decide)]
  rfl
theorem raise_run : ∀ w : Nat, w < 13 → F_l_raise [.int (w : Int), A, B] M = .exc (cN w) (nN w) (dN A B w) M
  | 0, _ => raise_0
  | 1, _ => raise_1
  | 2, _ => raise_2
  | 3, _ => raise_3
  | 4, _ => raise_4
  | 5, _ => raise_5
  | 6, _ => raise_6
  | 7, _ => raise_7
  | 8, _ => raise_8
  | 9, _ => raise_9
  | 10, _ => raise_10
  | 11, _ => raise_11
  | 12, _ => raise_12
theorem in5_run (x : Int) : inTI false (.int x) (.tup [.int 0, .int 5, .int 11]) M = .ok (.bl (decide (x ∈ [(0 : Int), 5, 11]) != false)) M := inTI_tup (xs := [0, 5, 11])
theorem fields_run {C : String} : ∀ w : Nat, w < 13 → F_l_fields C 0 (if nN w = [] then none else some 0) [.int (w : Int), .exn C (nN w) (dN A B w) 0 0] M = .ok (.lst (uN A B w)) M
  | 0, _ | 1, _ | 2, _ | 3, _ | 4, _ | 5, _ | 6, _ | 7, _ | 8, _ | 9, _ | 10, _ | 11, _ | 12, _ => by
    have t := fun x => in5_run (M := M) x
    unfold F_l_fields
    rw [runD_ap]
    simp [m_l_fields, startD, xfE, lookF, nN, dN, uN, tupK_ap, lstK_ap, t]
theorem exm_run : ∀ w : Nat, w < 13 → exm_WayError (cN w) = some true
  | 0, _ | 1, _ | 2, _ | 3, _ | 4, _ | 5, _ | 6, _ | 7, _ | 8, _ | 9, _ | 10, _ | 11, _ | 12, _ => by decide +kernel
theorem flags_due : ∀ w : Nat, w < 13 → (flagL.map fun c => D.bl (decide (cN w = c))) = (List.range 13).map fun k => D.bl (k == w) := fun w hw => by
  have h : ∀ w : Nat, w < 13 → (flagL.map fun c => decide (cN w = c)) = (List.range 13).map fun k => k == w := by decide +kernel
  have q := congrArg (List.map D.bl) (h w hw)
  rw [List.map_map, List.map_map] at q
  exact q
theorem dN_nil {w : Nat} (hw : w < 13) : (if nN w = [] then [] else dN A B w) = dN A B w := by
  match w, hw with
  | 0, _ | 1, _ | 2, _ | 3, _ | 4, _ | 5, _ | 6, _ | 7, _ | 8, _ | 9, _ | 10, _ | 11, _ | 12, _ => rfl
def seenD (A B : D) (w : Nat) : D := .lst [.lst ((List.range 13).map fun k => D.bl (k == w)), .lst (uN A B w)]
theorem seen_run {w : Nat} (hw : w < 13) {h0 h1 h3 h6 h7 o8 o9 o10 : Option D} :
    tryC exm_WayError 9 (exprS (callE 3 F_l_raise (· ++ []) (consA (nameE 2) (consA (nameE 4) (consA (nameE 5) nilA))))) s_law_1 [h0, h1, some (.int (w : Int)), h3, some A, some B, h6, h7, o8, o9, o10] M =
      .nx [h0, h1, some (.int (w : Int)), h3, some A, some B, h6, h7, some (seenD A B w), none, o10] M := by
  have r := raise_run (A := A) (B := B) (M := M) w hw
  have b : exprS (callE 3 F_l_raise (· ++ []) (consA (nameE 2) (consA (nameE 4) (consA (nameE 5) nilA)))) [h0, h1, some (.int (w : Int)), h3, some A, some B, h6, h7, o8, o9, o10] M = .exc (cN w) (nN w) (dN A B w) [h0, h1, some (.int (w : Int)), h3, some A, some B, h6, h7, o8, o9, o10] M := by
    simp [callK_ap, r]
  unfold tryC
  rw [b]
  show (match exm_WayError (cN w) with | some true => _ | some false => _ | none => _) = _
  rw [exm_run w hw]
  show finS 9 (s_law_1 (cN w) 0 (if nN w = [] then none else some 0) [h0, h1, some (.int (w : Int)), h3, some A, some B, h6, h7, o8, exSlot (cN w) (nN w) (dN A B w) 0 0, o10] M) = _
  rw [exSlot_eq, dN_nil hw]
  have hd : (if nN w = [] then (none : Option Addr) else some 0) = none ∨ ((if nN w = [] then (none : Option Addr) else some 0) = some 0 ∧ nN w ≠ []) := by
    by_cases q : nN w = []
    · rw [if_pos q]; exact .inl rfl
    · rw [if_neg q]; exact .inr ⟨rfl, q⟩
  have f1 := flags_run (C := cN w) (C' := cN w) (a := 0) (y := 0) (ns := nN w) (ds := dN A B w) (M := M) hd
  have f2 := fields_run (A := A) (B := B) (C := cN w) (M := M) w hw
  have i1 := fun o8 => isv_run (C := cN w) (C' := cN w) (a := 0) (ns := nN w) (ds := dN A B w) (y := 0) (M := M) (m := nameE 9) (sd := [h0, h1, some (.int (w : Int)), h3, some A, some B, h6, h7, o8, some (.exn (cN w) (nN w) (dN A B w) 0 0), o10]) rfl hd
  have t1 : notB (truB (appE (isXF 0 (if nN w = [] then none else some 0) (isQ hotX (cN w)) isP) (consA (nameE 9) (consA (constE (.ty "ValueError")) nilA)))) [h0, h1, some (.int (w : Int)), h3, some A, some B, h6, h7, o8, some (.exn (cN w) (nN w) (dN A B w) 0 0), o10] M = .ok false M := by
    unfold notB truB
    rw [i1]
    rfl
  unfold s_law_1
  rw [seq_if_f t1]
  rw [flags_due w hw] at f1
  generalize D.exn (cN w) (nN w) (dN A B w) 0 0 = e at *
  generalize (if nN w = [] then (none : Option Addr) else some 0) = d at *
  generalize hF1 : F_l_flags (cN w) 0 d = F1 at *
  generalize hF2 : F_l_fields (cN w) 0 d = F2 at *
  have s : lstE (consA (callE 1 F1 (· ++ []) (consA (nameE 9) nilA)) (consA (callE 2 F2 (· ++ []) (consA (nameE 2) (consA (nameE 9) nilA))) nilA)) [h0, h1, some (.int (w : Int)), h3, some A, some B, h6, h7, o8, some e, o10] M = .ok (seenD A B w) M := by
    simp [callK_ap, f1, f2, lstK_ap, seenD]
  rw [set_at s]
  rfl
theorem due_ix {w : Nat} (hw : w < 13) : ixD (.lst (List.replicate 9 (.lst [A]) ++ [.lst [A, B], .lst [], .lst [A], .lst []])) (.int (w : Int)) M = .ok (.lst (uN A B w)) M := by
  refine ixD_lst (atI_of ?_)
  match w, hw with
  | 0, _ | 1, _ | 2, _ | 3, _ | 4, _ | 5, _ | 6, _ | 7, _ | 8, _ | 9, _ | 10, _ | 11, _ | 12, _ => rfl
theorem seen_pl {w : Nat} (hw : w < 13) (hA : plN 5 A) (hB : plN 5 B) : plN 7 (seenD A B w) := by
  have h1 : ∀ l : List Nat, plNs 5 (l.map fun k => D.bl (k == w)) := fun l => by
    induction l with
    | nil => trivial
    | cons k l ih => exact ⟨by simp, ih⟩
  have h2 : plNs 5 (uN A B w) := by
    match w, hw with
    | 0, _ | 1, _ | 2, _ | 3, _ | 4, _ | 5, _ | 6, _ | 7, _ | 8, _ | 11, _ => exact ⟨hA, trivial⟩
    | 9, _ => exact ⟨hA, hB, trivial⟩
    | 10, _ | 12, _ => trivial
  exact ⟨h1 _, h2, trivial⟩
theorem body_run {w : Nat} (hw : w < 13) (hA : plN 5 A) (hB : plN 5 B) {h0 h1 h3 h7 o8 o9 o10 : Option D} : ∃ p8 p9 p10,
    b_law_1 [h0, h1, some (.int (w : Int)), h3, some A, some B, some (.lst (List.replicate 9 (.lst [A]) ++ [.lst [A, B], .lst [], .lst [A], .lst []])), h7, o8, o9, o10] M =
      .nx [h0, h1, some (.int (w : Int)), h3, some A, some B, some (.lst (List.replicate 9 (.lst [A]) ++ [.lst [A, B], .lst [], .lst [A], .lst []])), h7, p8, p9, p10] M := by
  have dx := due_ix (A := A) (B := B) (M := M) hw
  generalize D.lst (List.replicate 9 (.lst [A]) ++ [.lst [A, B], .lst [], .lst [A], .lst []]) = L at *
  have s := seen_run (A := A) (B := B) (M := M) hw (h0 := h0) (h1 := h1) (h3 := h3) (h6 := some L) (h7 := h7) (o8 := some (.lst [])) (o9 := o9) (o10 := o10)
  refine ⟨some (seenD A B w), none, o10, ?_⟩
  unfold b_law_1
  have s0 : setS 8 (lstE nilA) [h0, h1, some (.int (w : Int)), h3, some A, some B, some L, h7, o8, o9, o10] M = .nx [h0, h1, some (.int (w : Int)), h3, some A, some B, some L, h7, some (.lst []), o9, o10] M := by simp [lstK_ap]
  rw [seqS_ap, s0, SRes.seq_nx, seqS_ap, s, SRes.seq_nx]
  have lc := lc_rng (ma := consA (constE (.int 13)) nilA) (s := 10) (te := e_law_1) (sd := [h0, h1, some (.int (w : Int)), h3, some A, some B, some L, h7, some (seenD A B w), none, o10]) (M := M) (n := 13) (g := fun k => D.bl (k == w)) (by omega) rfl (fun i hi => by
    have : ((i : Int) == (w : Int)) = (i == w) := by
      rw [Bool.eq_iff_iff, beq_iff_eq, beq_iff_eq]
      omega
    simp [e_law_1, wipeD, this])
  have e := eqD_refl (neg := true) (M := M) (seen_pl (A := A) (B := B) hw hA hB)
  have t : valB (binE (eqD true) (nameE 8) (lstE (consA (lcE (range1I (consA (constE (.int 13)) nilA)) (nameG 10) yesB e_law_1 [10]) (consA (binE ixD (nameE 6) (nameE 2)) nilA)))) [h0, h1, some (.int (w : Int)), h3, some A, some B, some L, h7, some (seenD A B w), none, o10] M = .ok false M := by
    have r : lstE (consA (lcE (range1I (consA (constE (.int 13)) nilA)) (nameG 10) yesB e_law_1 [10]) (consA (binE ixD (nameE 6) (nameE 2)) nilA)) [h0, h1, some (.int (w : Int)), h3, some A, some B, some L, h7, some (seenD A B w), none, o10] M = .ok (seenD A B w) M := by
      rw [lstE_ap, consA_ap, lc, Res.bind_ok, consK_ap]
      simp [dx, seenD, lstK_ap]
    rw [valB_ap, binE_ap]
    show (Res.bind (Res.ok (seenD A B w) M) _).bind _ = _
    rw [Res.bind_ok, binK_ap, r, Res.bind_ok]
    show (eqD true (seenD A B w) (seenD A B w) M).bind _ = _
    rw [e]
    rfl
  rw [ifS_ap, t]
  rfl
end
theorem texts_ok : ∀ x, x ∈ [sL "", sL "0", sL "A", sL "left", sL "z z"] → okC x := by unfold okC; decide +kernel
def textsD : D := .lst [.str (sL ""), .str (sL "0"), .str (sL "A"), .str (sL "left"), .str (sL "z z")]
theorem text_ix {i : Int} {M : MS} (h0 : 0 ≤ i) (h1 : i < 5) : ∃ x, ixD textsD (.int i) M = .ok (.str x) M ∧ okC x := by
  obtain ⟨n, rfl⟩ : ∃ n : Nat, i = (n : Int) := ⟨i.toNat, by omega⟩
  have hn : n < [sL "", sL "0", sL "A", sL "left", sL "z z"].length := by show n < 5; omega
  refine ⟨[sL "", sL "0", sL "A", sL "left", sL "z z"][n], ixD_lst (atI_of ?_), texts_ok _ (List.getElem_mem hn)⟩
  show ([sL "", sL "0", sL "A", sL "left", sL "z z"].map D.str)[n]? = _
  rw [List.getElem?_map, List.getElem?_eq_getElem hn]
  rfl
theorem law_plain (ns : List Int) (hn : ns.length ≤ 63) : ∃ M', F_law [.flst (ns.map D.int)] [] = .ok (.bl true) M' := by
  obtain ⟨c, hc⟩ := cell_run ns 0 (by omega) []
  obtain ⟨xs, hd, hx⟩ := draws_run (M := []) (c := c) (sizes := [13, 5, 5, 3]) (by decide) (by decide)
  obtain ⟨w, _, w1, w2, w3⟩ := hx.ix (M := [.lst (xs.map D.int)]) (n := 0) rfl 0 13 rfl
  obtain ⟨t, _, t1, t2, t3⟩ := hx.ix (M := [.lst (xs.map D.int)]) (n := 0) rfl 1 5 rfl
  obtain ⟨u, _, u1, u2, u3⟩ := hx.ix (M := [.lst (xs.map D.int)]) (n := 0) rfl 2 5 rfl
  obtain ⟨k, _, k1, k2, k3⟩ := hx.ix (M := [.lst (xs.map D.int)]) (n := 0) rfl 3 3 rfl
  obtain ⟨W, rfl⟩ : ∃ n : Nat, w = (n : Int) := ⟨w.toNat, by omega⟩
  have hW : W < 13 := by omega
  obtain ⟨x1, a1, o1⟩ := text_ix (M := [.lst (xs.map D.int)]) t2 t3
  obtain ⟨x2, a2, o2⟩ := text_ix (M := [.lst (xs.map D.int)]) u2 u3
  obtain ⟨c1, hc1⟩ := cell_run ns 1 (by omega) [.lst (xs.map D.int)]
  generalize hM : ([.lst (xs.map D.int)] : MS) = M1 at *
  rw [show ([13, 5, 5, 3] : List Int).map D.int = [.int 13, .int 5, .int 5, .int 3] from rfl, List.nil_append] at hd
  have hd : F_l_draws [.int c, .lst [.int 13, .int 5, .int 5, .int 3]] [] = .ok (.cell 0) M1 := hd
  generalize D.flst (ns.map D.int) = S at *
  have in5 := in5_run (M := M1) (W : Int)
  -- the statements
  have z0 : (setS 1 (callE 2 F_l_draws (· ++ []) (consA (callE 2 F_l_cell (· ++ []) (consA (nameE 0) (consA (constE (.int 0)) nilA))) (consA (lstE (consA (constE (.int 13)) (consA (constE (.int 5)) (consA (constE (.int 5)) (consA (constE (.int 3)) nilA))))) nilA)))) [some S, none, none, none, none, none, none, none, none, none, none] [] = .nx [some S, some (.cell 0), none, none, none, none, none, none, none, none, none] M1 := by
    simp [callK_ap, hc, lstK_ap, hd]
  have z1 : (setS 2 (binE ixD (nameE 1) (constE (.int 0)))) [some S, some (.cell 0), none, none, none, none, none, none, none, none, none] M1 = .nx [some S, some (.cell 0), some (.int (W : Int)), none, none, none, none, none, none, none, none] M1 := by
    have w1 : ixD (.cell 0) (.int 0) M1 = .ok (.int (W : Int)) M1 := w1
    simp [w1]
  have z2 : (setS 3 (lstE (consA (constE (.str (sL ""))) (consA (constE (.str (sL "0"))) (consA (constE (.str (sL "A"))) (consA (constE (.str (sL "left"))) (consA (constE (.str (sL "z z"))) nilA))))))) [some S, some (.cell 0), some (.int (W : Int)), none, none, none, none, none, none, none, none] M1 = .nx [some S, some (.cell 0), some (.int (W : Int)), some textsD, none, none, none, none, none, none, none] M1 := by
    simp [lstK_ap, textsD]
  have z3 : (setS 4 (binE ixD (nameE 3) (binE ixD (nameE 1) (constE (.int 1))))) [some S, some (.cell 0), some (.int (W : Int)), some textsD, none, none, none, none, none, none, none] M1 = .nx [some S, some (.cell 0), some (.int (W : Int)), some textsD, some (.str x1), none, none, none, none, none, none] M1 := by
    have t1 : ixD (.cell 0) (.int 1) M1 = .ok (.int t) M1 := t1
    generalize textsD = T at *
    simp [t1, a1]
  have z4 : ∃ A, plN 5 A ∧ (ifS (orB (valB (binE (inTI false) (nameE 2) (tupE (consA (constE (.int 0)) (consA (constE (.int 5)) (consA (constE (.int 11)) nilA)))))) (valB (binE (eqD false) (binE ixD (nameE 1) (constE (.int 3))) (constE (.int 0))))) (setS 4 (binE subI (binE modI (appE intF (consA (callE 2 F_l_cell (· ++ []) (consA (nameE 0) (consA (constE (.int 1)) nilA))) nilA)) (binE powI (constE (.int 10)) (constE (.int 40)))) (binE powI (constE (.int 10)) (constE (.int 39))))) passS) [some S, some (.cell 0), some (.int (W : Int)), some textsD, some (.str x1), none, none, none, none, none, none] M1 = .nx [some S, some (.cell 0), some (.int (W : Int)), some textsD, some A, none, none, none, none, none, none] M1 := by
    have k1 : ixD (.cell 0) (.int 3) M1 = .ok (.int k) M1 := k1
    generalize textsD = T at *
    have p1 : valB (binE (inTI false) (nameE 2) (tupE (consA (constE (.int 0)) (consA (constE (.int 5)) (consA (constE (.int 11)) nilA))))) [some S, some (.cell 0), some (.int (W : Int)), some T, some (.str x1), none, none, none, none, none, none] M1 = .ok (decide ((W : Int) ∈ [(0 : Int), 5, 11]) != false) M1 := by
      simp only [valB_ap, binE_ap, nameE, List.getElem?_cons_succ, List.getElem?_cons_zero, Res.bind_ok, binK_ap, tupE_ap, consA_ap, constE, consK_ap, nilA, consK2_ap, binK2_ap]
      rw [tupK_ap (by decide), Res.bind_ok, binK2_ap, in5]
      rfl
    have p2 : valB (binE (eqD false) (binE ixD (nameE 1) (constE (.int 3))) (constE (.int 0))) [some S, some (.cell 0), some (.int (W : Int)), some T, some (.str x1), none, none, none, none, none, none] M1 = .ok (k == 0) M1 := by
      simp [k1]
    have p := orB_ok p1 p2
    by_cases q : ((decide ((W : Int) ∈ [(0 : Int), 5, 11]) != false) || (k == 0)) = true
    · rw [q] at p
      refine ⟨.int (c1 % 10 ^ 40 - 10 ^ 39), by simp, ?_⟩
      rw [ifS_ok p, if_pos rfl]
      have e1 : ((10 : Int) ^ (40 : Int).toNat) = 10 ^ 40 := by decide
      have e2 : ((10 : Int) ^ (39 : Int).toNat) = 10 ^ 39 := by decide
      simp [callK_ap, hc1, powI_int, e1, e2, modI_int]
    · rw [Bool.eq_false_iff.mpr q] at p
      refine ⟨.str x1, by simpa using o1, ?_⟩
      rw [ifS_ok p, if_neg (by decide)]
      rfl
  obtain ⟨A, hA, z4⟩ := z4
  have hB : plN 5 (.str x2) := by simpa using o2
  have z5 : (setS 5 (binE ixD (nameE 3) (binE ixD (nameE 1) (constE (.int 2))))) [some S, some (.cell 0), some (.int (W : Int)), some textsD, some A, none, none, none, none, none, none] M1 = .nx [some S, some (.cell 0), some (.int (W : Int)), some textsD, some A, some (.str x2), none, none, none, none, none] M1 := by
    have u1 : ixD (.cell 0) (.int 2) M1 = .ok (.int u) M1 := u1
    generalize textsD = T at *
    simp [u1, a2]
  generalize D.str x2 = B at *
  have z6 : (setS 6 (binE addD (binE mulD (lstE (consA (lstE (consA (nameE 4) nilA)) nilA)) (constE (.int 9))) (lstE (consA (lstE (consA (nameE 4) (consA (nameE 5) nilA))) (consA (lstE nilA) (consA (lstE (consA (nameE 4) nilA)) (consA (lstE nilA) nilA))))))) [some S, some (.cell 0), some (.int (W : Int)), some textsD, some A, some B, none, none, none, none, none] M1 = .nx [some S, some (.cell 0), some (.int (W : Int)), some textsD, some A, some B, some (.lst (List.replicate 9 (.lst [A]) ++ [.lst [A, B], .lst [], .lst [A], .lst []])), none, none, none, none] M1 := by
    generalize textsD = T at *
    simp [lstK_ap, List.replicate]
    rfl
  have b1 := fun (M : MS) (o7 o8 o9 o10 : Option D) => body_run (A := A) (B := B) (M := M) hW hA hB (h0 := some S) (h1 := some (.cell 0)) (h3 := some textsD) (h7 := o7) (o8 := o8) (o9 := o9) (o10 := o10)
  have z7 : ∃ sd', (forS (range1I (consA (constE (.int 2)) nilA)) (nameG 7) b_law_1) [some S, some (.cell 0), some (.int (W : Int)), some textsD, some A, some B, some (.lst (List.replicate 9 (.lst [A]) ++ [.lst [A, B], .lst [], .lst [A], .lst []])), none, none, none, none] M1 = .nx sd' M1 := by
    generalize D.lst (List.replicate 9 (.lst [A]) ++ [.lst [A, B], .lst [], .lst [A], .lst []]) = L at *
    generalize textsD = T at *
    obtain ⟨p8, p9, p10, e1⟩ := b1 M1 (some (.int 0)) none none none
    obtain ⟨q8, q9, q10, e2⟩ := b1 M1 (some (.int 1)) p8 p9 p10
    refine ⟨[some S, some (.cell 0), some (.int (W : Int)), some T, some A, some B, some L, some (.int 1), q8, q9, q10], ?_⟩
    rw [forS_ap, range1I_ap]
    show SRes.ofE ((Res.ok [D.int 2] M1).bind r1K) _ _ = _
    rw [Res.bind_ok, r1K_ap (by decide)]
    show forGo (fun _ => True) (nameG 7) b_law_1 (intsI (rangeN 0 2)).ds _ M1 = _
    rw [show (intsI (rangeN 0 2)).ds = [.int 0, .int 1] from by have := range_ds 2; simpa [List.range, List.range.loop] using this]
    rw [forGo_cons]
    simp only [List.set_cons_succ, List.set_cons_zero]
    rw [e1, SRes.loop_nx, forGo_cons]
    simp only [List.set_cons_succ, List.set_cons_zero]
    rw [e2, SRes.loop_nx, forGo_nil]
  obtain ⟨sd', z7⟩ := z7
  refine ⟨M1, ?_⟩
  unfold F_law
  rw [runD_ap]
  show (m_law [some S, none, none, none, none, none, none, none, none, none, none] []).res = _
  unfold m_law
  rw [seqS_ap, z0, SRes.seq_nx, seqS_ap, z1, SRes.seq_nx, seqS_ap, z2, SRes.seq_nx, seqS_ap, z3, SRes.seq_nx, seqS_ap, z4, SRes.seq_nx, seqS_ap, z5, SRes.seq_nx, seqS_ap, z6, SRes.seq_nx, seqS_ap, z7, SRes.seq_nx]
  rfl
end Lk01
namespace Lk01
open PySem PySem.Spec L2 DL
open PyProof.Rows hiding St
set_option maxHeartbeats 0 in
theorem facts {l : PySem.W.OpenLaw} {w : World} {K : PySem.W.Frag} {h : Heap} {mg : Str → Option Value} {fa : Addr} (X : K.In h) (G : h.Ns mainGlobals mg) (hfa : mg "law" = some (.ref fa))
    {c_Alike : Addr}
    {c_BadFold : Addr}
    {c_BadPlan : Addr}
    {c_BadRule : Addr}
    {c_BadTable : Addr}
    {c_NoConstant : Addr}
    {c_NoPlace : Addr}
    {c_NoStep : Addr}
    {c_NoWay : Addr}
    {c_NotAlike : Addr}
    {c_NothingToUndo : Addr}
    {c_SameWays : Addr}
    {c_UnknownName : Addr}
    {c_WayError : Addr}
    {f_l_draws : Addr}
    {od_l_draws an_l_draws : Option Addr}
    {sl_l_draws : Array (Option Value)}
    {oc_l_draws kV_l_draws dc_l_draws pm_l_draws cd_l_draws ct_l_draws : Value}
    {f_l_cell : Addr}
    {od_l_cell an_l_cell : Option Addr}
    {sl_l_cell : Array (Option Value)}
    {oc_l_cell kV_l_cell dc_l_cell pm_l_cell cd_l_cell ct_l_cell : Value}
    {f_NothingToUndoD_initD : Addr}
    {od_NothingToUndoD_initD an_NothingToUndoD_initD : Option Addr}
    {sl_NothingToUndoD_initD : Array (Option Value)}
    {oc_NothingToUndoD_initD kV_NothingToUndoD_initD dc_NothingToUndoD_initD pm_NothingToUndoD_initD cd_NothingToUndoD_initD ct_NothingToUndoD_initD : Value}
    {f_NoWayD_initD : Addr}
    {od_NoWayD_initD an_NoWayD_initD : Option Addr}
    {sl_NoWayD_initD : Array (Option Value)}
    {oc_NoWayD_initD kV_NoWayD_initD dc_NoWayD_initD pm_NoWayD_initD cd_NoWayD_initD ct_NoWayD_initD : Value}
    {f_NoPlaceD_initD : Addr}
    {od_NoPlaceD_initD an_NoPlaceD_initD : Option Addr}
    {sl_NoPlaceD_initD : Array (Option Value)}
    {oc_NoPlaceD_initD kV_NoPlaceD_initD dc_NoPlaceD_initD pm_NoPlaceD_initD cd_NoPlaceD_initD ct_NoPlaceD_initD : Value}
    {f_BadRuleD_initD : Addr}
    {od_BadRuleD_initD an_BadRuleD_initD : Option Addr}
    {sl_BadRuleD_initD : Array (Option Value)}
    {oc_BadRuleD_initD kV_BadRuleD_initD dc_BadRuleD_initD pm_BadRuleD_initD cd_BadRuleD_initD ct_BadRuleD_initD : Value}
    {f_NotAlikeD_initD : Addr}
    {od_NotAlikeD_initD an_NotAlikeD_initD : Option Addr}
    {sl_NotAlikeD_initD : Array (Option Value)}
    {oc_NotAlikeD_initD kV_NotAlikeD_initD dc_NotAlikeD_initD pm_NotAlikeD_initD cd_NotAlikeD_initD ct_NotAlikeD_initD : Value}
    {f_AlikeD_initD : Addr}
    {od_AlikeD_initD an_AlikeD_initD : Option Addr}
    {sl_AlikeD_initD : Array (Option Value)}
    {oc_AlikeD_initD kV_AlikeD_initD dc_AlikeD_initD pm_AlikeD_initD cd_AlikeD_initD ct_AlikeD_initD : Value}
    {f_BadTableD_initD : Addr}
    {od_BadTableD_initD an_BadTableD_initD : Option Addr}
    {sl_BadTableD_initD : Array (Option Value)}
    {oc_BadTableD_initD kV_BadTableD_initD dc_BadTableD_initD pm_BadTableD_initD cd_BadTableD_initD ct_BadTableD_initD : Value}
    {f_UnknownNameD_initD : Addr}
    {od_UnknownNameD_initD an_UnknownNameD_initD : Option Addr}
    {sl_UnknownNameD_initD : Array (Option Value)}
    {oc_UnknownNameD_initD kV_UnknownNameD_initD dc_UnknownNameD_initD pm_UnknownNameD_initD cd_UnknownNameD_initD ct_UnknownNameD_initD : Value}
    {f_NoConstantD_initD : Addr}
    {od_NoConstantD_initD an_NoConstantD_initD : Option Addr}
    {sl_NoConstantD_initD : Array (Option Value)}
    {oc_NoConstantD_initD kV_NoConstantD_initD dc_NoConstantD_initD pm_NoConstantD_initD cd_NoConstantD_initD ct_NoConstantD_initD : Value}
    {f_BadFoldD_initD : Addr}
    {od_BadFoldD_initD an_BadFoldD_initD : Option Addr}
    {sl_BadFoldD_initD : Array (Option Value)}
    {oc_BadFoldD_initD kV_BadFoldD_initD dc_BadFoldD_initD pm_BadFoldD_initD cd_BadFoldD_initD ct_BadFoldD_initD : Value}
    {f_NoStepD_initD : Addr}
    {od_NoStepD_initD an_NoStepD_initD : Option Addr}
    {sl_NoStepD_initD : Array (Option Value)}
    {oc_NoStepD_initD kV_NoStepD_initD dc_NoStepD_initD pm_NoStepD_initD cd_NoStepD_initD ct_NoStepD_initD : Value}
    {f_SameWaysD_initD : Addr}
    {od_SameWaysD_initD an_SameWaysD_initD : Option Addr}
    {sl_SameWaysD_initD : Array (Option Value)}
    {oc_SameWaysD_initD kV_SameWaysD_initD dc_SameWaysD_initD pm_SameWaysD_initD cd_SameWaysD_initD ct_SameWaysD_initD : Value}
    {f_BadPlanD_initD : Addr}
    {od_BadPlanD_initD an_BadPlanD_initD : Option Addr}
    {sl_BadPlanD_initD : Array (Option Value)}
    {oc_BadPlanD_initD kV_BadPlanD_initD dc_BadPlanD_initD pm_BadPlanD_initD cd_BadPlanD_initD ct_BadPlanD_initD : Value}
    {f_l_raise : Addr}
    {od_l_raise an_l_raise : Option Addr}
    {sl_l_raise : Array (Option Value)}
    {oc_l_raise kV_l_raise dc_l_raise pm_l_raise cd_l_raise ct_l_raise : Value}
    {f_l_flags : Addr}
    {od_l_flags an_l_flags : Option Addr}
    {sl_l_flags : Array (Option Value)}
    {oc_l_flags kV_l_flags dc_l_flags pm_l_flags cd_l_flags ct_l_flags : Value}
    {f_l_fields : Addr}
    {od_l_fields an_l_fields : Option Addr}
    {sl_l_fields : Array (Option Value)}
    {oc_l_fields kV_l_fields dc_l_fields pm_l_fields cd_l_fields ct_l_fields : Value}
    {f_law : Addr}
    {od_law an_law : Option Addr}
    {sl_law : Array (Option Value)}
    {oc_law kV_law dc_law pm_law cd_law ct_law : Value}
    {Xnm_Alike Xq_Alike : Str}
    {XN_Alike : Addr}
    {Xbs_Alike Xbm_Alike Xsub_Alike : List Value}
    {Xsn_Alike : List Str}
    {Xab_Alike : Bool}
    {Xcol_Alike : Option Bool}
    {Xdd_Alike : Option Addr}
    {X0_Alike X1_Alike X2_Alike X3_Alike X5_Alike : Option Value}
    {Xnm_BadFold Xq_BadFold : Str}
    {XN_BadFold : Addr}
    {Xbs_BadFold Xbm_BadFold Xsub_BadFold : List Value}
    {Xsn_BadFold : List Str}
    {Xab_BadFold : Bool}
    {Xcol_BadFold : Option Bool}
    {Xdd_BadFold : Option Addr}
    {X0_BadFold X1_BadFold X2_BadFold X3_BadFold X5_BadFold : Option Value}
    {Xnm_BadPlan Xq_BadPlan : Str}
    {XN_BadPlan : Addr}
    {Xbs_BadPlan Xbm_BadPlan Xsub_BadPlan : List Value}
    {Xsn_BadPlan : List Str}
    {Xab_BadPlan : Bool}
    {Xcol_BadPlan : Option Bool}
    {Xdd_BadPlan : Option Addr}
    {X0_BadPlan X1_BadPlan X2_BadPlan X3_BadPlan X5_BadPlan : Option Value}
    {Xnm_BadRule Xq_BadRule : Str}
    {XN_BadRule : Addr}
    {Xbs_BadRule Xbm_BadRule Xsub_BadRule : List Value}
    {Xsn_BadRule : List Str}
    {Xab_BadRule : Bool}
    {Xcol_BadRule : Option Bool}
    {Xdd_BadRule : Option Addr}
    {X0_BadRule X1_BadRule X2_BadRule X3_BadRule X5_BadRule : Option Value}
    {Xnm_BadTable Xq_BadTable : Str}
    {XN_BadTable : Addr}
    {Xbs_BadTable Xbm_BadTable Xsub_BadTable : List Value}
    {Xsn_BadTable : List Str}
    {Xab_BadTable : Bool}
    {Xcol_BadTable : Option Bool}
    {Xdd_BadTable : Option Addr}
    {X0_BadTable X1_BadTable X2_BadTable X3_BadTable X5_BadTable : Option Value}
    {Xnm_NoConstant Xq_NoConstant : Str}
    {XN_NoConstant : Addr}
    {Xbs_NoConstant Xbm_NoConstant Xsub_NoConstant : List Value}
    {Xsn_NoConstant : List Str}
    {Xab_NoConstant : Bool}
    {Xcol_NoConstant : Option Bool}
    {Xdd_NoConstant : Option Addr}
    {X0_NoConstant X1_NoConstant X2_NoConstant X3_NoConstant X5_NoConstant : Option Value}
    {Xnm_NoPlace Xq_NoPlace : Str}
    {XN_NoPlace : Addr}
    {Xbs_NoPlace Xbm_NoPlace Xsub_NoPlace : List Value}
    {Xsn_NoPlace : List Str}
    {Xab_NoPlace : Bool}
    {Xcol_NoPlace : Option Bool}
    {Xdd_NoPlace : Option Addr}
    {X0_NoPlace X1_NoPlace X2_NoPlace X3_NoPlace X5_NoPlace : Option Value}
    {Xnm_NoStep Xq_NoStep : Str}
    {XN_NoStep : Addr}
    {Xbs_NoStep Xbm_NoStep Xsub_NoStep : List Value}
    {Xsn_NoStep : List Str}
    {Xab_NoStep : Bool}
    {Xcol_NoStep : Option Bool}
    {Xdd_NoStep : Option Addr}
    {X0_NoStep X1_NoStep X2_NoStep X3_NoStep X5_NoStep : Option Value}
    {Xnm_NoWay Xq_NoWay : Str}
    {XN_NoWay : Addr}
    {Xbs_NoWay Xbm_NoWay Xsub_NoWay : List Value}
    {Xsn_NoWay : List Str}
    {Xab_NoWay : Bool}
    {Xcol_NoWay : Option Bool}
    {Xdd_NoWay : Option Addr}
    {X0_NoWay X1_NoWay X2_NoWay X3_NoWay X5_NoWay : Option Value}
    {Xnm_NotAlike Xq_NotAlike : Str}
    {XN_NotAlike : Addr}
    {Xbs_NotAlike Xbm_NotAlike Xsub_NotAlike : List Value}
    {Xsn_NotAlike : List Str}
    {Xab_NotAlike : Bool}
    {Xcol_NotAlike : Option Bool}
    {Xdd_NotAlike : Option Addr}
    {X0_NotAlike X1_NotAlike X2_NotAlike X3_NotAlike X5_NotAlike : Option Value}
    {Xnm_NothingToUndo Xq_NothingToUndo : Str}
    {XN_NothingToUndo : Addr}
    {Xbs_NothingToUndo Xbm_NothingToUndo Xsub_NothingToUndo : List Value}
    {Xsn_NothingToUndo : List Str}
    {Xab_NothingToUndo : Bool}
    {Xcol_NothingToUndo : Option Bool}
    {Xdd_NothingToUndo : Option Addr}
    {X0_NothingToUndo X1_NothingToUndo X2_NothingToUndo X3_NothingToUndo X5_NothingToUndo : Option Value}
    {Xnm_SameWays Xq_SameWays : Str}
    {XN_SameWays : Addr}
    {Xbs_SameWays Xbm_SameWays Xsub_SameWays : List Value}
    {Xsn_SameWays : List Str}
    {Xab_SameWays : Bool}
    {Xcol_SameWays : Option Bool}
    {Xdd_SameWays : Option Addr}
    {X0_SameWays X1_SameWays X2_SameWays X3_SameWays X5_SameWays : Option Value}
    {Xnm_UnknownName Xq_UnknownName : Str}
    {XN_UnknownName : Addr}
    {Xbs_UnknownName Xbm_UnknownName Xsub_UnknownName : List Value}
    {Xsn_UnknownName : List Str}
    {Xab_UnknownName : Bool}
    {Xcol_UnknownName : Option Bool}
    {Xdd_UnknownName : Option Addr}
    {X0_UnknownName X1_UnknownName X2_UnknownName X3_UnknownName X5_UnknownName : Option Value}
    (aC_Alike : PySem.W.nsIn K mainGlobals "Alike" = some (some (.ref c_Alike)))
    (aC_BadFold : PySem.W.nsIn K mainGlobals "BadFold" = some (some (.ref c_BadFold)))
    (aC_BadPlan : PySem.W.nsIn K mainGlobals "BadPlan" = some (some (.ref c_BadPlan)))
    (aC_BadRule : PySem.W.nsIn K mainGlobals "BadRule" = some (some (.ref c_BadRule)))
    (aC_BadTable : PySem.W.nsIn K mainGlobals "BadTable" = some (some (.ref c_BadTable)))
    (aC_NoConstant : PySem.W.nsIn K mainGlobals "NoConstant" = some (some (.ref c_NoConstant)))
    (aC_NoPlace : PySem.W.nsIn K mainGlobals "NoPlace" = some (some (.ref c_NoPlace)))
    (aC_NoStep : PySem.W.nsIn K mainGlobals "NoStep" = some (some (.ref c_NoStep)))
    (aC_NoWay : PySem.W.nsIn K mainGlobals "NoWay" = some (some (.ref c_NoWay)))
    (aC_NotAlike : PySem.W.nsIn K mainGlobals "NotAlike" = some (some (.ref c_NotAlike)))
    (aC_NothingToUndo : PySem.W.nsIn K mainGlobals "NothingToUndo" = some (some (.ref c_NothingToUndo)))
    (aC_SameWays : PySem.W.nsIn K mainGlobals "SameWays" = some (some (.ref c_SameWays)))
    (aC_UnknownName : PySem.W.nsIn K mainGlobals "UnknownName" = some (some (.ref c_UnknownName)))
    (aC_WayError : PySem.W.nsIn K mainGlobals "WayError" = some (some (.ref c_WayError)))
    (a_l_draws : PySem.W.nsIn K mainGlobals "_law_draws" = some (some (.ref f_l_draws)))
    (l_l_draws : K.lookup f_l_draws = some ⟨oc_l_draws, od_l_draws, .func (PySem.W.fnOf "_law_draws" "_law_draws" (defArgs s_l_draws) (defBody s_l_draws) (defScope s_l_draws) .none kV_l_draws dc_l_draws pm_l_draws an_l_draws cd_l_draws ct_l_draws), sl_l_draws⟩)
    (c_l_draws : PySem.W.codeIn K cd_l_draws "_law_draws" = true)
    (k_l_draws : PySem.W.keepIn K (.ref f_l_draws) = true)
    (a_l_cell : PySem.W.nsIn K mainGlobals "_law_cell" = some (some (.ref f_l_cell)))
    (l_l_cell : K.lookup f_l_cell = some ⟨oc_l_cell, od_l_cell, .func (PySem.W.fnOf "_law_cell" "_law_cell" (defArgs s_l_cell) (defBody s_l_cell) (defScope s_l_cell) .none kV_l_cell dc_l_cell pm_l_cell an_l_cell cd_l_cell ct_l_cell), sl_l_cell⟩)
    (c_l_cell : PySem.W.codeIn K cd_l_cell "_law_cell" = true)
    (k_l_cell : PySem.W.keepIn K (.ref f_l_cell) = true)
    (a_NothingToUndoD_initD : PySem.W.findIn K (.ref c_NothingToUndo) "__init__" = some (some (.ref f_NothingToUndoD_initD)))
    (i_NothingToUndoD_initD : PySem.W.isFn K (.ref f_NothingToUndoD_initD) = true)
    (l_NothingToUndoD_initD : K.lookup f_NothingToUndoD_initD = some ⟨oc_NothingToUndoD_initD, od_NothingToUndoD_initD, .func (PySem.W.fnOf "__init__" "NothingToUndo.__init__" (defArgs s_NothingToUndoD_initD) (defBody s_NothingToUndoD_initD) (defScope s_NothingToUndoD_initD) .none kV_NothingToUndoD_initD dc_NothingToUndoD_initD pm_NothingToUndoD_initD an_NothingToUndoD_initD cd_NothingToUndoD_initD ct_NothingToUndoD_initD), sl_NothingToUndoD_initD⟩)
    (c_NothingToUndoD_initD : PySem.W.codeIn K cd_NothingToUndoD_initD "NothingToUndo.__init__" = true)
    (k_NothingToUndoD_initD : PySem.W.keepIn K (.ref f_NothingToUndoD_initD) = true)
    (a_NoWayD_initD : PySem.W.findIn K (.ref c_NoWay) "__init__" = some (some (.ref f_NoWayD_initD)))
    (i_NoWayD_initD : PySem.W.isFn K (.ref f_NoWayD_initD) = true)
    (l_NoWayD_initD : K.lookup f_NoWayD_initD = some ⟨oc_NoWayD_initD, od_NoWayD_initD, .func (PySem.W.fnOf "__init__" "NoWay.__init__" (defArgs s_NoWayD_initD) (defBody s_NoWayD_initD) (defScope s_NoWayD_initD) .none kV_NoWayD_initD dc_NoWayD_initD pm_NoWayD_initD an_NoWayD_initD cd_NoWayD_initD ct_NoWayD_initD), sl_NoWayD_initD⟩)
    (c_NoWayD_initD : PySem.W.codeIn K cd_NoWayD_initD "NoWay.__init__" = true)
    (k_NoWayD_initD : PySem.W.keepIn K (.ref f_NoWayD_initD) = true)
    (a_NoPlaceD_initD : PySem.W.findIn K (.ref c_NoPlace) "__init__" = some (some (.ref f_NoPlaceD_initD)))
    (i_NoPlaceD_initD : PySem.W.isFn K (.ref f_NoPlaceD_initD) = true)
    (l_NoPlaceD_initD : K.lookup f_NoPlaceD_initD = some ⟨oc_NoPlaceD_initD, od_NoPlaceD_initD, .func (PySem.W.fnOf "__init__" "NoPlace.__init__" (defArgs s_NoPlaceD_initD) (defBody s_NoPlaceD_initD) (defScope s_NoPlaceD_initD) .none kV_NoPlaceD_initD dc_NoPlaceD_initD pm_NoPlaceD_initD an_NoPlaceD_initD cd_NoPlaceD_initD ct_NoPlaceD_initD), sl_NoPlaceD_initD⟩)
    (c_NoPlaceD_initD : PySem.W.codeIn K cd_NoPlaceD_initD "NoPlace.__init__" = true)
    (k_NoPlaceD_initD : PySem.W.keepIn K (.ref f_NoPlaceD_initD) = true)
    (a_BadRuleD_initD : PySem.W.findIn K (.ref c_BadRule) "__init__" = some (some (.ref f_BadRuleD_initD)))
    (i_BadRuleD_initD : PySem.W.isFn K (.ref f_BadRuleD_initD) = true)
    (l_BadRuleD_initD : K.lookup f_BadRuleD_initD = some ⟨oc_BadRuleD_initD, od_BadRuleD_initD, .func (PySem.W.fnOf "__init__" "BadRule.__init__" (defArgs s_BadRuleD_initD) (defBody s_BadRuleD_initD) (defScope s_BadRuleD_initD) .none kV_BadRuleD_initD dc_BadRuleD_initD pm_BadRuleD_initD an_BadRuleD_initD cd_BadRuleD_initD ct_BadRuleD_initD), sl_BadRuleD_initD⟩)
    (c_BadRuleD_initD : PySem.W.codeIn K cd_BadRuleD_initD "BadRule.__init__" = true)
    (k_BadRuleD_initD : PySem.W.keepIn K (.ref f_BadRuleD_initD) = true)
    (a_NotAlikeD_initD : PySem.W.findIn K (.ref c_NotAlike) "__init__" = some (some (.ref f_NotAlikeD_initD)))
    (i_NotAlikeD_initD : PySem.W.isFn K (.ref f_NotAlikeD_initD) = true)
    (l_NotAlikeD_initD : K.lookup f_NotAlikeD_initD = some ⟨oc_NotAlikeD_initD, od_NotAlikeD_initD, .func (PySem.W.fnOf "__init__" "NotAlike.__init__" (defArgs s_NotAlikeD_initD) (defBody s_NotAlikeD_initD) (defScope s_NotAlikeD_initD) .none kV_NotAlikeD_initD dc_NotAlikeD_initD pm_NotAlikeD_initD an_NotAlikeD_initD cd_NotAlikeD_initD ct_NotAlikeD_initD), sl_NotAlikeD_initD⟩)
    (c_NotAlikeD_initD : PySem.W.codeIn K cd_NotAlikeD_initD "NotAlike.__init__" = true)
    (k_NotAlikeD_initD : PySem.W.keepIn K (.ref f_NotAlikeD_initD) = true)
    (a_AlikeD_initD : PySem.W.findIn K (.ref c_Alike) "__init__" = some (some (.ref f_AlikeD_initD)))
    (i_AlikeD_initD : PySem.W.isFn K (.ref f_AlikeD_initD) = true)
    (l_AlikeD_initD : K.lookup f_AlikeD_initD = some ⟨oc_AlikeD_initD, od_AlikeD_initD, .func (PySem.W.fnOf "__init__" "Alike.__init__" (defArgs s_AlikeD_initD) (defBody s_AlikeD_initD) (defScope s_AlikeD_initD) .none kV_AlikeD_initD dc_AlikeD_initD pm_AlikeD_initD an_AlikeD_initD cd_AlikeD_initD ct_AlikeD_initD), sl_AlikeD_initD⟩)
    (c_AlikeD_initD : PySem.W.codeIn K cd_AlikeD_initD "Alike.__init__" = true)
    (k_AlikeD_initD : PySem.W.keepIn K (.ref f_AlikeD_initD) = true)
    (a_BadTableD_initD : PySem.W.findIn K (.ref c_BadTable) "__init__" = some (some (.ref f_BadTableD_initD)))
    (i_BadTableD_initD : PySem.W.isFn K (.ref f_BadTableD_initD) = true)
    (l_BadTableD_initD : K.lookup f_BadTableD_initD = some ⟨oc_BadTableD_initD, od_BadTableD_initD, .func (PySem.W.fnOf "__init__" "BadTable.__init__" (defArgs s_BadTableD_initD) (defBody s_BadTableD_initD) (defScope s_BadTableD_initD) .none kV_BadTableD_initD dc_BadTableD_initD pm_BadTableD_initD an_BadTableD_initD cd_BadTableD_initD ct_BadTableD_initD), sl_BadTableD_initD⟩)
    (c_BadTableD_initD : PySem.W.codeIn K cd_BadTableD_initD "BadTable.__init__" = true)
    (k_BadTableD_initD : PySem.W.keepIn K (.ref f_BadTableD_initD) = true)
    (a_UnknownNameD_initD : PySem.W.findIn K (.ref c_UnknownName) "__init__" = some (some (.ref f_UnknownNameD_initD)))
    (i_UnknownNameD_initD : PySem.W.isFn K (.ref f_UnknownNameD_initD) = true)
    (l_UnknownNameD_initD : K.lookup f_UnknownNameD_initD = some ⟨oc_UnknownNameD_initD, od_UnknownNameD_initD, .func (PySem.W.fnOf "__init__" "UnknownName.__init__" (defArgs s_UnknownNameD_initD) (defBody s_UnknownNameD_initD) (defScope s_UnknownNameD_initD) .none kV_UnknownNameD_initD dc_UnknownNameD_initD pm_UnknownNameD_initD an_UnknownNameD_initD cd_UnknownNameD_initD ct_UnknownNameD_initD), sl_UnknownNameD_initD⟩)
    (c_UnknownNameD_initD : PySem.W.codeIn K cd_UnknownNameD_initD "UnknownName.__init__" = true)
    (k_UnknownNameD_initD : PySem.W.keepIn K (.ref f_UnknownNameD_initD) = true)
    (a_NoConstantD_initD : PySem.W.findIn K (.ref c_NoConstant) "__init__" = some (some (.ref f_NoConstantD_initD)))
    (i_NoConstantD_initD : PySem.W.isFn K (.ref f_NoConstantD_initD) = true)
    (l_NoConstantD_initD : K.lookup f_NoConstantD_initD = some ⟨oc_NoConstantD_initD, od_NoConstantD_initD, .func (PySem.W.fnOf "__init__" "NoConstant.__init__" (defArgs s_NoConstantD_initD) (defBody s_NoConstantD_initD) (defScope s_NoConstantD_initD) .none kV_NoConstantD_initD dc_NoConstantD_initD pm_NoConstantD_initD an_NoConstantD_initD cd_NoConstantD_initD ct_NoConstantD_initD), sl_NoConstantD_initD⟩)
    (c_NoConstantD_initD : PySem.W.codeIn K cd_NoConstantD_initD "NoConstant.__init__" = true)
    (k_NoConstantD_initD : PySem.W.keepIn K (.ref f_NoConstantD_initD) = true)
    (a_BadFoldD_initD : PySem.W.findIn K (.ref c_BadFold) "__init__" = some (some (.ref f_BadFoldD_initD)))
    (i_BadFoldD_initD : PySem.W.isFn K (.ref f_BadFoldD_initD) = true)
    (l_BadFoldD_initD : K.lookup f_BadFoldD_initD = some ⟨oc_BadFoldD_initD, od_BadFoldD_initD, .func (PySem.W.fnOf "__init__" "BadFold.__init__" (defArgs s_BadFoldD_initD) (defBody s_BadFoldD_initD) (defScope s_BadFoldD_initD) .none kV_BadFoldD_initD dc_BadFoldD_initD pm_BadFoldD_initD an_BadFoldD_initD cd_BadFoldD_initD ct_BadFoldD_initD), sl_BadFoldD_initD⟩)
    (c_BadFoldD_initD : PySem.W.codeIn K cd_BadFoldD_initD "BadFold.__init__" = true)
    (k_BadFoldD_initD : PySem.W.keepIn K (.ref f_BadFoldD_initD) = true)
    (a_NoStepD_initD : PySem.W.findIn K (.ref c_NoStep) "__init__" = some (some (.ref f_NoStepD_initD)))
    (i_NoStepD_initD : PySem.W.isFn K (.ref f_NoStepD_initD) = true)
    (l_NoStepD_initD : K.lookup f_NoStepD_initD = some ⟨oc_NoStepD_initD, od_NoStepD_initD, .func (PySem.W.fnOf "__init__" "NoStep.__init__" (defArgs s_NoStepD_initD) (defBody s_NoStepD_initD) (defScope s_NoStepD_initD) .none kV_NoStepD_initD dc_NoStepD_initD pm_NoStepD_initD an_NoStepD_initD cd_NoStepD_initD ct_NoStepD_initD), sl_NoStepD_initD⟩)
    (c_NoStepD_initD : PySem.W.codeIn K cd_NoStepD_initD "NoStep.__init__" = true)
    (k_NoStepD_initD : PySem.W.keepIn K (.ref f_NoStepD_initD) = true)
    (a_SameWaysD_initD : PySem.W.findIn K (.ref c_SameWays) "__init__" = some (some (.ref f_SameWaysD_initD)))
    (i_SameWaysD_initD : PySem.W.isFn K (.ref f_SameWaysD_initD) = true)
    (l_SameWaysD_initD : K.lookup f_SameWaysD_initD = some ⟨oc_SameWaysD_initD, od_SameWaysD_initD, .func (PySem.W.fnOf "__init__" "SameWays.__init__" (defArgs s_SameWaysD_initD) (defBody s_SameWaysD_initD) (defScope s_SameWaysD_initD) .none kV_SameWaysD_initD dc_SameWaysD_initD pm_SameWaysD_initD an_SameWaysD_initD cd_SameWaysD_initD ct_SameWaysD_initD), sl_SameWaysD_initD⟩)
    (c_SameWaysD_initD : PySem.W.codeIn K cd_SameWaysD_initD "SameWays.__init__" = true)
    (k_SameWaysD_initD : PySem.W.keepIn K (.ref f_SameWaysD_initD) = true)
    (a_BadPlanD_initD : PySem.W.findIn K (.ref c_BadPlan) "__init__" = some (some (.ref f_BadPlanD_initD)))
    (i_BadPlanD_initD : PySem.W.isFn K (.ref f_BadPlanD_initD) = true)
    (l_BadPlanD_initD : K.lookup f_BadPlanD_initD = some ⟨oc_BadPlanD_initD, od_BadPlanD_initD, .func (PySem.W.fnOf "__init__" "BadPlan.__init__" (defArgs s_BadPlanD_initD) (defBody s_BadPlanD_initD) (defScope s_BadPlanD_initD) .none kV_BadPlanD_initD dc_BadPlanD_initD pm_BadPlanD_initD an_BadPlanD_initD cd_BadPlanD_initD ct_BadPlanD_initD), sl_BadPlanD_initD⟩)
    (c_BadPlanD_initD : PySem.W.codeIn K cd_BadPlanD_initD "BadPlan.__init__" = true)
    (k_BadPlanD_initD : PySem.W.keepIn K (.ref f_BadPlanD_initD) = true)
    (a_l_raise : PySem.W.nsIn K mainGlobals "_law_raise" = some (some (.ref f_l_raise)))
    (l_l_raise : K.lookup f_l_raise = some ⟨oc_l_raise, od_l_raise, .func (PySem.W.fnOf "_law_raise" "_law_raise" (defArgs s_l_raise) (defBody s_l_raise) (defScope s_l_raise) .none kV_l_raise dc_l_raise pm_l_raise an_l_raise cd_l_raise ct_l_raise), sl_l_raise⟩)
    (c_l_raise : PySem.W.codeIn K cd_l_raise "_law_raise" = true)
    (k_l_raise : PySem.W.keepIn K (.ref f_l_raise) = true)
    (a_l_flags : PySem.W.nsIn K mainGlobals "_law_flags" = some (some (.ref f_l_flags)))
    (l_l_flags : K.lookup f_l_flags = some ⟨oc_l_flags, od_l_flags, .func (PySem.W.fnOf "_law_flags" "_law_flags" (defArgs s_l_flags) (defBody s_l_flags) (defScope s_l_flags) .none kV_l_flags dc_l_flags pm_l_flags an_l_flags cd_l_flags ct_l_flags), sl_l_flags⟩)
    (c_l_flags : PySem.W.codeIn K cd_l_flags "_law_flags" = true)
    (k_l_flags : PySem.W.keepIn K (.ref f_l_flags) = true)
    (a_l_fields : PySem.W.nsIn K mainGlobals "_law_fields" = some (some (.ref f_l_fields)))
    (l_l_fields : K.lookup f_l_fields = some ⟨oc_l_fields, od_l_fields, .func (PySem.W.fnOf "_law_fields" "_law_fields" (defArgs s_l_fields) (defBody s_l_fields) (defScope s_l_fields) .none kV_l_fields dc_l_fields pm_l_fields an_l_fields cd_l_fields ct_l_fields), sl_l_fields⟩)
    (c_l_fields : PySem.W.codeIn K cd_l_fields "_law_fields" = true)
    (k_l_fields : PySem.W.keepIn K (.ref f_l_fields) = true)
    (a_law : PySem.W.nsIn K mainGlobals "law" = some (some (.ref f_law)))
    (l_law : K.lookup f_law = some ⟨oc_law, od_law, .func (PySem.W.fnOf "law" "law" (defArgs s_law) (defBody s_law) (defScope s_law) .none kV_law dc_law pm_law an_law cd_law ct_law), sl_law⟩)
    (c_law : PySem.W.codeIn K cd_law "law" = true)
    (k_law : PySem.W.keepIn K (.ref f_law) = true)
    (br_WayError : PySem.W.readsIn K c_WayError (.type "type") = true)
    (bg_WayError : PySem.W.specialIn K (.ref c_WayError) "__getattribute__" = some (some (.builtin "type.__getattribute__")))
    (bv_WayError : PySem.W.findCls K (.ref c_WayError) (.type "type") "__init__" = some (.val (.builtin "ValueError.__init__")))
    (xl_Alike : K.lookup c_Alike = some (excClassObj Xnm_Alike Xq_Alike c_Alike XN_Alike Xbs_Alike Xbm_Alike true Xsn_Alike Xsub_Alike Xab_Alike Xcol_Alike Xdd_Alike X0_Alike X1_Alike X2_Alike X3_Alike X5_Alike "ValueError.__new__"))
    (xr_Alike : PySem.HandSPX.refsVE Xbm_Alike = true)
    (xs_Alike : PySem.W.findIn K (.ref c_Alike) "__setattr__" = some (some (.builtin "object.__setattr__")))
    (xe_Alike : PySem.W.subIn K (.ref c_Alike) (.type "BaseException") = some true)
    (xt_Alike : PySem.W.typeIn K (.ref c_Alike) = some (.type "type"))
    (xk_Alike : PySem.W.keepIn K (.ref c_Alike) = true)
    (xi_Alike : PySem.W.typeIn K (.ref f_AlikeD_initD) = some (.type "function"))
    (xn_Alike_rules : PySem.W.findIn K (.ref c_Alike) "rules" = some none)
    (xl_BadFold : K.lookup c_BadFold = some (excClassObj Xnm_BadFold Xq_BadFold c_BadFold XN_BadFold Xbs_BadFold Xbm_BadFold true Xsn_BadFold Xsub_BadFold Xab_BadFold Xcol_BadFold Xdd_BadFold X0_BadFold X1_BadFold X2_BadFold X3_BadFold X5_BadFold "ValueError.__new__"))
    (xr_BadFold : PySem.HandSPX.refsVE Xbm_BadFold = true)
    (xs_BadFold : PySem.W.findIn K (.ref c_BadFold) "__setattr__" = some (some (.builtin "object.__setattr__")))
    (xe_BadFold : PySem.W.subIn K (.ref c_BadFold) (.type "BaseException") = some true)
    (xt_BadFold : PySem.W.typeIn K (.ref c_BadFold) = some (.type "type"))
    (xk_BadFold : PySem.W.keepIn K (.ref c_BadFold) = true)
    (xi_BadFold : PySem.W.typeIn K (.ref f_BadFoldD_initD) = some (.type "function"))
    (xn_BadFold_kind : PySem.W.findIn K (.ref c_BadFold) "kind" = some none)
    (xl_BadPlan : K.lookup c_BadPlan = some (excClassObj Xnm_BadPlan Xq_BadPlan c_BadPlan XN_BadPlan Xbs_BadPlan Xbm_BadPlan true Xsn_BadPlan Xsub_BadPlan Xab_BadPlan Xcol_BadPlan Xdd_BadPlan X0_BadPlan X1_BadPlan X2_BadPlan X3_BadPlan X5_BadPlan "ValueError.__new__"))
    (xr_BadPlan : PySem.HandSPX.refsVE Xbm_BadPlan = true)
    (xs_BadPlan : PySem.W.findIn K (.ref c_BadPlan) "__setattr__" = some (some (.builtin "object.__setattr__")))
    (xe_BadPlan : PySem.W.subIn K (.ref c_BadPlan) (.type "BaseException") = some true)
    (xt_BadPlan : PySem.W.typeIn K (.ref c_BadPlan) = some (.type "type"))
    (xk_BadPlan : PySem.W.keepIn K (.ref c_BadPlan) = true)
    (xi_BadPlan : PySem.W.typeIn K (.ref f_BadPlanD_initD) = some (.type "function"))
    (xn_BadPlan_at : PySem.W.findIn K (.ref c_BadPlan) "at" = some none)
    (xl_BadRule : K.lookup c_BadRule = some (excClassObj Xnm_BadRule Xq_BadRule c_BadRule XN_BadRule Xbs_BadRule Xbm_BadRule true Xsn_BadRule Xsub_BadRule Xab_BadRule Xcol_BadRule Xdd_BadRule X0_BadRule X1_BadRule X2_BadRule X3_BadRule X5_BadRule "ValueError.__new__"))
    (xr_BadRule : PySem.HandSPX.refsVE Xbm_BadRule = true)
    (xs_BadRule : PySem.W.findIn K (.ref c_BadRule) "__setattr__" = some (some (.builtin "object.__setattr__")))
    (xe_BadRule : PySem.W.subIn K (.ref c_BadRule) (.type "BaseException") = some true)
    (xt_BadRule : PySem.W.typeIn K (.ref c_BadRule) = some (.type "type"))
    (xk_BadRule : PySem.W.keepIn K (.ref c_BadRule) = true)
    (xi_BadRule : PySem.W.typeIn K (.ref f_BadRuleD_initD) = some (.type "function"))
    (xn_BadRule_letter : PySem.W.findIn K (.ref c_BadRule) "letter" = some none)
    (xl_BadTable : K.lookup c_BadTable = some (excClassObj Xnm_BadTable Xq_BadTable c_BadTable XN_BadTable Xbs_BadTable Xbm_BadTable true Xsn_BadTable Xsub_BadTable Xab_BadTable Xcol_BadTable Xdd_BadTable X0_BadTable X1_BadTable X2_BadTable X3_BadTable X5_BadTable "ValueError.__new__"))
    (xr_BadTable : PySem.HandSPX.refsVE Xbm_BadTable = true)
    (xs_BadTable : PySem.W.findIn K (.ref c_BadTable) "__setattr__" = some (some (.builtin "object.__setattr__")))
    (xe_BadTable : PySem.W.subIn K (.ref c_BadTable) (.type "BaseException") = some true)
    (xt_BadTable : PySem.W.typeIn K (.ref c_BadTable) = some (.type "type"))
    (xk_BadTable : PySem.W.keepIn K (.ref c_BadTable) = true)
    (xi_BadTable : PySem.W.typeIn K (.ref f_BadTableD_initD) = some (.type "function"))
    (xn_BadTable_at : PySem.W.findIn K (.ref c_BadTable) "at" = some none)
    (xl_NoConstant : K.lookup c_NoConstant = some (excClassObj Xnm_NoConstant Xq_NoConstant c_NoConstant XN_NoConstant Xbs_NoConstant Xbm_NoConstant true Xsn_NoConstant Xsub_NoConstant Xab_NoConstant Xcol_NoConstant Xdd_NoConstant X0_NoConstant X1_NoConstant X2_NoConstant X3_NoConstant X5_NoConstant "ValueError.__new__"))
    (xr_NoConstant : PySem.HandSPX.refsVE Xbm_NoConstant = true)
    (xs_NoConstant : PySem.W.findIn K (.ref c_NoConstant) "__setattr__" = some (some (.builtin "object.__setattr__")))
    (xe_NoConstant : PySem.W.subIn K (.ref c_NoConstant) (.type "BaseException") = some true)
    (xt_NoConstant : PySem.W.typeIn K (.ref c_NoConstant) = some (.type "type"))
    (xk_NoConstant : PySem.W.keepIn K (.ref c_NoConstant) = true)
    (xi_NoConstant : PySem.W.typeIn K (.ref f_NoConstantD_initD) = some (.type "function"))
    (xn_NoConstant_name : PySem.W.findIn K (.ref c_NoConstant) "name" = some none)
    (xl_NoPlace : K.lookup c_NoPlace = some (excClassObj Xnm_NoPlace Xq_NoPlace c_NoPlace XN_NoPlace Xbs_NoPlace Xbm_NoPlace true Xsn_NoPlace Xsub_NoPlace Xab_NoPlace Xcol_NoPlace Xdd_NoPlace X0_NoPlace X1_NoPlace X2_NoPlace X3_NoPlace X5_NoPlace "ValueError.__new__"))
    (xr_NoPlace : PySem.HandSPX.refsVE Xbm_NoPlace = true)
    (xs_NoPlace : PySem.W.findIn K (.ref c_NoPlace) "__setattr__" = some (some (.builtin "object.__setattr__")))
    (xe_NoPlace : PySem.W.subIn K (.ref c_NoPlace) (.type "BaseException") = some true)
    (xt_NoPlace : PySem.W.typeIn K (.ref c_NoPlace) = some (.type "type"))
    (xk_NoPlace : PySem.W.keepIn K (.ref c_NoPlace) = true)
    (xi_NoPlace : PySem.W.typeIn K (.ref f_NoPlaceD_initD) = some (.type "function"))
    (xn_NoPlace_path : PySem.W.findIn K (.ref c_NoPlace) "path" = some none)
    (xl_NoStep : K.lookup c_NoStep = some (excClassObj Xnm_NoStep Xq_NoStep c_NoStep XN_NoStep Xbs_NoStep Xbm_NoStep true Xsn_NoStep Xsub_NoStep Xab_NoStep Xcol_NoStep Xdd_NoStep X0_NoStep X1_NoStep X2_NoStep X3_NoStep X5_NoStep "ValueError.__new__"))
    (xr_NoStep : PySem.HandSPX.refsVE Xbm_NoStep = true)
    (xs_NoStep : PySem.W.findIn K (.ref c_NoStep) "__setattr__" = some (some (.builtin "object.__setattr__")))
    (xe_NoStep : PySem.W.subIn K (.ref c_NoStep) (.type "BaseException") = some true)
    (xt_NoStep : PySem.W.typeIn K (.ref c_NoStep) = some (.type "type"))
    (xk_NoStep : PySem.W.keepIn K (.ref c_NoStep) = true)
    (xi_NoStep : PySem.W.typeIn K (.ref f_NoStepD_initD) = some (.type "function"))
    (xn_NoStep_rule : PySem.W.findIn K (.ref c_NoStep) "rule" = some none)
    (xn_NoStep_path : PySem.W.findIn K (.ref c_NoStep) "path" = some none)
    (xl_NoWay : K.lookup c_NoWay = some (excClassObj Xnm_NoWay Xq_NoWay c_NoWay XN_NoWay Xbs_NoWay Xbm_NoWay true Xsn_NoWay Xsub_NoWay Xab_NoWay Xcol_NoWay Xdd_NoWay X0_NoWay X1_NoWay X2_NoWay X3_NoWay X5_NoWay "ValueError.__new__"))
    (xr_NoWay : PySem.HandSPX.refsVE Xbm_NoWay = true)
    (xs_NoWay : PySem.W.findIn K (.ref c_NoWay) "__setattr__" = some (some (.builtin "object.__setattr__")))
    (xe_NoWay : PySem.W.subIn K (.ref c_NoWay) (.type "BaseException") = some true)
    (xt_NoWay : PySem.W.typeIn K (.ref c_NoWay) = some (.type "type"))
    (xk_NoWay : PySem.W.keepIn K (.ref c_NoWay) = true)
    (xi_NoWay : PySem.W.typeIn K (.ref f_NoWayD_initD) = some (.type "function"))
    (xn_NoWay_at : PySem.W.findIn K (.ref c_NoWay) "at" = some none)
    (xl_NotAlike : K.lookup c_NotAlike = some (excClassObj Xnm_NotAlike Xq_NotAlike c_NotAlike XN_NotAlike Xbs_NotAlike Xbm_NotAlike true Xsn_NotAlike Xsub_NotAlike Xab_NotAlike Xcol_NotAlike Xdd_NotAlike X0_NotAlike X1_NotAlike X2_NotAlike X3_NotAlike X5_NotAlike "ValueError.__new__"))
    (xr_NotAlike : PySem.HandSPX.refsVE Xbm_NotAlike = true)
    (xs_NotAlike : PySem.W.findIn K (.ref c_NotAlike) "__setattr__" = some (some (.builtin "object.__setattr__")))
    (xe_NotAlike : PySem.W.subIn K (.ref c_NotAlike) (.type "BaseException") = some true)
    (xt_NotAlike : PySem.W.typeIn K (.ref c_NotAlike) = some (.type "type"))
    (xk_NotAlike : PySem.W.keepIn K (.ref c_NotAlike) = true)
    (xi_NotAlike : PySem.W.typeIn K (.ref f_NotAlikeD_initD) = some (.type "function"))
    (xn_NotAlike_rules : PySem.W.findIn K (.ref c_NotAlike) "rules" = some none)
    (xl_NothingToUndo : K.lookup c_NothingToUndo = some (excClassObj Xnm_NothingToUndo Xq_NothingToUndo c_NothingToUndo XN_NothingToUndo Xbs_NothingToUndo Xbm_NothingToUndo true Xsn_NothingToUndo Xsub_NothingToUndo Xab_NothingToUndo Xcol_NothingToUndo Xdd_NothingToUndo X0_NothingToUndo X1_NothingToUndo X2_NothingToUndo X3_NothingToUndo X5_NothingToUndo "ValueError.__new__"))
    (xr_NothingToUndo : PySem.HandSPX.refsVE Xbm_NothingToUndo = true)
    (xs_NothingToUndo : PySem.W.findIn K (.ref c_NothingToUndo) "__setattr__" = some (some (.builtin "object.__setattr__")))
    (xe_NothingToUndo : PySem.W.subIn K (.ref c_NothingToUndo) (.type "BaseException") = some true)
    (xt_NothingToUndo : PySem.W.typeIn K (.ref c_NothingToUndo) = some (.type "type"))
    (xk_NothingToUndo : PySem.W.keepIn K (.ref c_NothingToUndo) = true)
    (xi_NothingToUndo : PySem.W.typeIn K (.ref f_NothingToUndoD_initD) = some (.type "function"))
    (xl_SameWays : K.lookup c_SameWays = some (excClassObj Xnm_SameWays Xq_SameWays c_SameWays XN_SameWays Xbs_SameWays Xbm_SameWays true Xsn_SameWays Xsub_SameWays Xab_SameWays Xcol_SameWays Xdd_SameWays X0_SameWays X1_SameWays X2_SameWays X3_SameWays X5_SameWays "ValueError.__new__"))
    (xr_SameWays : PySem.HandSPX.refsVE Xbm_SameWays = true)
    (xs_SameWays : PySem.W.findIn K (.ref c_SameWays) "__setattr__" = some (some (.builtin "object.__setattr__")))
    (xe_SameWays : PySem.W.subIn K (.ref c_SameWays) (.type "BaseException") = some true)
    (xt_SameWays : PySem.W.typeIn K (.ref c_SameWays) = some (.type "type"))
    (xk_SameWays : PySem.W.keepIn K (.ref c_SameWays) = true)
    (xi_SameWays : PySem.W.typeIn K (.ref f_SameWaysD_initD) = some (.type "function"))
    (xl_UnknownName : K.lookup c_UnknownName = some (excClassObj Xnm_UnknownName Xq_UnknownName c_UnknownName XN_UnknownName Xbs_UnknownName Xbm_UnknownName true Xsn_UnknownName Xsub_UnknownName Xab_UnknownName Xcol_UnknownName Xdd_UnknownName X0_UnknownName X1_UnknownName X2_UnknownName X3_UnknownName X5_UnknownName "ValueError.__new__"))
    (xr_UnknownName : PySem.HandSPX.refsVE Xbm_UnknownName = true)
    (xs_UnknownName : PySem.W.findIn K (.ref c_UnknownName) "__setattr__" = some (some (.builtin "object.__setattr__")))
    (xe_UnknownName : PySem.W.subIn K (.ref c_UnknownName) (.type "BaseException") = some true)
    (xt_UnknownName : PySem.W.typeIn K (.ref c_UnknownName) = some (.type "type"))
    (xk_UnknownName : PySem.W.keepIn K (.ref c_UnknownName) = true)
    (xi_UnknownName : PySem.W.typeIn K (.ref f_UnknownNameD_initD) = some (.type "function"))
    (xn_UnknownName_name : PySem.W.findIn K (.ref c_UnknownName) "name" = some none)
    (cf_WayError : PySem.W.isClsIn K c_WayError = true)
    (ct_WayError : PySem.W.typeIn K (.ref c_WayError) = some (.type "type"))
    (xe_WayError : PySem.W.subIn K (.ref c_WayError) (.type "BaseException") = some true)
    (xm_WayError_Alike : PySem.W.subIn K (.ref c_Alike) (.ref c_WayError) = some true)
    (xm_WayError_BadFold : PySem.W.subIn K (.ref c_BadFold) (.ref c_WayError) = some true)
    (xm_WayError_BadPlan : PySem.W.subIn K (.ref c_BadPlan) (.ref c_WayError) = some true)
    (xm_WayError_BadRule : PySem.W.subIn K (.ref c_BadRule) (.ref c_WayError) = some true)
    (xm_WayError_BadTable : PySem.W.subIn K (.ref c_BadTable) (.ref c_WayError) = some true)
    (xm_WayError_NoConstant : PySem.W.subIn K (.ref c_NoConstant) (.ref c_WayError) = some true)
    (xm_WayError_NoPlace : PySem.W.subIn K (.ref c_NoPlace) (.ref c_WayError) = some true)
    (xm_WayError_NoStep : PySem.W.subIn K (.ref c_NoStep) (.ref c_WayError) = some true)
    (xm_WayError_NoWay : PySem.W.subIn K (.ref c_NoWay) (.ref c_WayError) = some true)
    (xm_WayError_NotAlike : PySem.W.subIn K (.ref c_NotAlike) (.ref c_WayError) = some true)
    (xm_WayError_NothingToUndo : PySem.W.subIn K (.ref c_NothingToUndo) (.ref c_WayError) = some true)
    (xm_WayError_SameWays : PySem.W.subIn K (.ref c_SameWays) (.ref c_WayError) = some true)
    (xm_WayError_UnknownName : PySem.W.subIn K (.ref c_UnknownName) (.ref c_WayError) = some true)
    (ohn : PySem.W.specialIn K (.builtin "object.__class__") "__get__" = some (some (.builtin "getset_descriptor.__get__")))
    (otk : PySem.W.takesIn K (.builtin "object.__class__") = some true)
    (km_ve : PySem.W.kitMeta "ValueError" = true)
    (cf_Alike : PySem.W.isClsIn K c_Alike = true)
    (ct_Alike : PySem.W.typeIn K (.ref c_Alike) = some (.type "type"))
    (xg_Alike : PySem.W.findIn K (.ref c_Alike) "__getattribute__" = some (some (.builtin "BaseException.__getattribute__")))
    (xh_Alike : PySem.W.findIn K (.ref c_Alike) "__getattr__" = some none)
    (xd_Alike : PySem.W.hasDictIn K c_Alike = true)
    (oha_Alike : PySem.W.findIn K (.ref c_Alike) "__class__" = some (some (.builtin "object.__class__")))
    (mo_Alike : PySem.W.mroIn K c_Alike (.type "object") = some true)
    (iv_Alike : PySem.W.subIn K (.ref c_Alike) (.type "ValueError") = some true)
    (is_Alike_Alike : PySem.W.subIn K (.ref c_Alike) (.ref c_Alike) = some true)
    (is_Alike_BadFold : PySem.W.subIn K (.ref c_Alike) (.ref c_BadFold) = some false)
    (kne_Alike_BadFold : (Value.ref c_Alike == Value.ref c_BadFold) = false)
    (is_Alike_BadPlan : PySem.W.subIn K (.ref c_Alike) (.ref c_BadPlan) = some false)
    (kne_Alike_BadPlan : (Value.ref c_Alike == Value.ref c_BadPlan) = false)
    (is_Alike_BadRule : PySem.W.subIn K (.ref c_Alike) (.ref c_BadRule) = some false)
    (kne_Alike_BadRule : (Value.ref c_Alike == Value.ref c_BadRule) = false)
    (is_Alike_BadTable : PySem.W.subIn K (.ref c_Alike) (.ref c_BadTable) = some false)
    (kne_Alike_BadTable : (Value.ref c_Alike == Value.ref c_BadTable) = false)
    (is_Alike_NoConstant : PySem.W.subIn K (.ref c_Alike) (.ref c_NoConstant) = some false)
    (kne_Alike_NoConstant : (Value.ref c_Alike == Value.ref c_NoConstant) = false)
    (is_Alike_NoPlace : PySem.W.subIn K (.ref c_Alike) (.ref c_NoPlace) = some false)
    (kne_Alike_NoPlace : (Value.ref c_Alike == Value.ref c_NoPlace) = false)
    (is_Alike_NoStep : PySem.W.subIn K (.ref c_Alike) (.ref c_NoStep) = some false)
    (kne_Alike_NoStep : (Value.ref c_Alike == Value.ref c_NoStep) = false)
    (is_Alike_NoWay : PySem.W.subIn K (.ref c_Alike) (.ref c_NoWay) = some false)
    (kne_Alike_NoWay : (Value.ref c_Alike == Value.ref c_NoWay) = false)
    (is_Alike_NotAlike : PySem.W.subIn K (.ref c_Alike) (.ref c_NotAlike) = some false)
    (kne_Alike_NotAlike : (Value.ref c_Alike == Value.ref c_NotAlike) = false)
    (is_Alike_NothingToUndo : PySem.W.subIn K (.ref c_Alike) (.ref c_NothingToUndo) = some false)
    (kne_Alike_NothingToUndo : (Value.ref c_Alike == Value.ref c_NothingToUndo) = false)
    (is_Alike_SameWays : PySem.W.subIn K (.ref c_Alike) (.ref c_SameWays) = some false)
    (kne_Alike_SameWays : (Value.ref c_Alike == Value.ref c_SameWays) = false)
    (is_Alike_UnknownName : PySem.W.subIn K (.ref c_Alike) (.ref c_UnknownName) = some false)
    (kne_Alike_UnknownName : (Value.ref c_Alike == Value.ref c_UnknownName) = false)
    (xn_Alike_at : PySem.W.findIn K (.ref c_Alike) "at" = some none)
    (xn_Alike_kind : PySem.W.findIn K (.ref c_Alike) "kind" = some none)
    (xn_Alike_letter : PySem.W.findIn K (.ref c_Alike) "letter" = some none)
    (xn_Alike_name : PySem.W.findIn K (.ref c_Alike) "name" = some none)
    (xn_Alike_path : PySem.W.findIn K (.ref c_Alike) "path" = some none)
    (xn_Alike_rule : PySem.W.findIn K (.ref c_Alike) "rule" = some none)
    (cf_BadFold : PySem.W.isClsIn K c_BadFold = true)
    (ct_BadFold : PySem.W.typeIn K (.ref c_BadFold) = some (.type "type"))
    (xg_BadFold : PySem.W.findIn K (.ref c_BadFold) "__getattribute__" = some (some (.builtin "BaseException.__getattribute__")))
    (xh_BadFold : PySem.W.findIn K (.ref c_BadFold) "__getattr__" = some none)
    (xd_BadFold : PySem.W.hasDictIn K c_BadFold = true)
    (oha_BadFold : PySem.W.findIn K (.ref c_BadFold) "__class__" = some (some (.builtin "object.__class__")))
    (mo_BadFold : PySem.W.mroIn K c_BadFold (.type "object") = some true)
    (iv_BadFold : PySem.W.subIn K (.ref c_BadFold) (.type "ValueError") = some true)
    (is_BadFold_Alike : PySem.W.subIn K (.ref c_BadFold) (.ref c_Alike) = some false)
    (kne_BadFold_Alike : (Value.ref c_BadFold == Value.ref c_Alike) = false)
    (is_BadFold_BadFold : PySem.W.subIn K (.ref c_BadFold) (.ref c_BadFold) = some true)
    (is_BadFold_BadPlan : PySem.W.subIn K (.ref c_BadFold) (.ref c_BadPlan) = some false)
    (kne_BadFold_BadPlan : (Value.ref c_BadFold == Value.ref c_BadPlan) = false)
    (is_BadFold_BadRule : PySem.W.subIn K (.ref c_BadFold) (.ref c_BadRule) = some false)
    (kne_BadFold_BadRule : (Value.ref c_BadFold == Value.ref c_BadRule) = false)
    (is_BadFold_BadTable : PySem.W.subIn K (.ref c_BadFold) (.ref c_BadTable) = some false)
    (kne_BadFold_BadTable : (Value.ref c_BadFold == Value.ref c_BadTable) = false)
    (is_BadFold_NoConstant : PySem.W.subIn K (.ref c_BadFold) (.ref c_NoConstant) = some false)
    (kne_BadFold_NoConstant : (Value.ref c_BadFold == Value.ref c_NoConstant) = false)
    (is_BadFold_NoPlace : PySem.W.subIn K (.ref c_BadFold) (.ref c_NoPlace) = some false)
    (kne_BadFold_NoPlace : (Value.ref c_BadFold == Value.ref c_NoPlace) = false)
    (is_BadFold_NoStep : PySem.W.subIn K (.ref c_BadFold) (.ref c_NoStep) = some false)
    (kne_BadFold_NoStep : (Value.ref c_BadFold == Value.ref c_NoStep) = false)
    (is_BadFold_NoWay : PySem.W.subIn K (.ref c_BadFold) (.ref c_NoWay) = some false)
    (kne_BadFold_NoWay : (Value.ref c_BadFold == Value.ref c_NoWay) = false)
    (is_BadFold_NotAlike : PySem.W.subIn K (.ref c_BadFold) (.ref c_NotAlike) = some false)
    (kne_BadFold_NotAlike : (Value.ref c_BadFold == Value.ref c_NotAlike) = false)
    (is_BadFold_NothingToUndo : PySem.W.subIn K (.ref c_BadFold) (.ref c_NothingToUndo) = some false)
    (kne_BadFold_NothingToUndo : (Value.ref c_BadFold == Value.ref c_NothingToUndo) = false)
    (is_BadFold_SameWays : PySem.W.subIn K (.ref c_BadFold) (.ref c_SameWays) = some false)
    (kne_BadFold_SameWays : (Value.ref c_BadFold == Value.ref c_SameWays) = false)
    (is_BadFold_UnknownName : PySem.W.subIn K (.ref c_BadFold) (.ref c_UnknownName) = some false)
    (kne_BadFold_UnknownName : (Value.ref c_BadFold == Value.ref c_UnknownName) = false)
    (xn_BadFold_at : PySem.W.findIn K (.ref c_BadFold) "at" = some none)
    (xn_BadFold_letter : PySem.W.findIn K (.ref c_BadFold) "letter" = some none)
    (xn_BadFold_name : PySem.W.findIn K (.ref c_BadFold) "name" = some none)
    (xn_BadFold_path : PySem.W.findIn K (.ref c_BadFold) "path" = some none)
    (xn_BadFold_rule : PySem.W.findIn K (.ref c_BadFold) "rule" = some none)
    (xn_BadFold_rules : PySem.W.findIn K (.ref c_BadFold) "rules" = some none)
    (cf_BadPlan : PySem.W.isClsIn K c_BadPlan = true)
    (ct_BadPlan : PySem.W.typeIn K (.ref c_BadPlan) = some (.type "type"))
    (xg_BadPlan : PySem.W.findIn K (.ref c_BadPlan) "__getattribute__" = some (some (.builtin "BaseException.__getattribute__")))
    (xh_BadPlan : PySem.W.findIn K (.ref c_BadPlan) "__getattr__" = some none)
    (xd_BadPlan : PySem.W.hasDictIn K c_BadPlan = true)
    (oha_BadPlan : PySem.W.findIn K (.ref c_BadPlan) "__class__" = some (some (.builtin "object.__class__")))
    (mo_BadPlan : PySem.W.mroIn K c_BadPlan (.type "object") = some true)
    (iv_BadPlan : PySem.W.subIn K (.ref c_BadPlan) (.type "ValueError") = some true)
    (is_BadPlan_Alike : PySem.W.subIn K (.ref c_BadPlan) (.ref c_Alike) = some false)
    (kne_BadPlan_Alike : (Value.ref c_BadPlan == Value.ref c_Alike) = false)
    (is_BadPlan_BadFold : PySem.W.subIn K (.ref c_BadPlan) (.ref c_BadFold) = some false)
    (kne_BadPlan_BadFold : (Value.ref c_BadPlan == Value.ref c_BadFold) = false)
    (is_BadPlan_BadPlan : PySem.W.subIn K (.ref c_BadPlan) (.ref c_BadPlan) = some true)
    (is_BadPlan_BadRule : PySem.W.subIn K (.ref c_BadPlan) (.ref c_BadRule) = some false)
    (kne_BadPlan_BadRule : (Value.ref c_BadPlan == Value.ref c_BadRule) = false)
    (is_BadPlan_BadTable : PySem.W.subIn K (.ref c_BadPlan) (.ref c_BadTable) = some false)
    (kne_BadPlan_BadTable : (Value.ref c_BadPlan == Value.ref c_BadTable) = false)
    (is_BadPlan_NoConstant : PySem.W.subIn K (.ref c_BadPlan) (.ref c_NoConstant) = some false)
    (kne_BadPlan_NoConstant : (Value.ref c_BadPlan == Value.ref c_NoConstant) = false)
    (is_BadPlan_NoPlace : PySem.W.subIn K (.ref c_BadPlan) (.ref c_NoPlace) = some false)
    (kne_BadPlan_NoPlace : (Value.ref c_BadPlan == Value.ref c_NoPlace) = false)
    (is_BadPlan_NoStep : PySem.W.subIn K (.ref c_BadPlan) (.ref c_NoStep) = some false)
    (kne_BadPlan_NoStep : (Value.ref c_BadPlan == Value.ref c_NoStep) = false)
    (is_BadPlan_NoWay : PySem.W.subIn K (.ref c_BadPlan) (.ref c_NoWay) = some false)
    (kne_BadPlan_NoWay : (Value.ref c_BadPlan == Value.ref c_NoWay) = false)
    (is_BadPlan_NotAlike : PySem.W.subIn K (.ref c_BadPlan) (.ref c_NotAlike) = some false)
    (kne_BadPlan_NotAlike : (Value.ref c_BadPlan == Value.ref c_NotAlike) = false)
    (is_BadPlan_NothingToUndo : PySem.W.subIn K (.ref c_BadPlan) (.ref c_NothingToUndo) = some false)
    (kne_BadPlan_NothingToUndo : (Value.ref c_BadPlan == Value.ref c_NothingToUndo) = false)
    (is_BadPlan_SameWays : PySem.W.subIn K (.ref c_BadPlan) (.ref c_SameWays) = some false)
    (kne_BadPlan_SameWays : (Value.ref c_BadPlan == Value.ref c_SameWays) = false)
    (is_BadPlan_UnknownName : PySem.W.subIn K (.ref c_BadPlan) (.ref c_UnknownName) = some false)
    (kne_BadPlan_UnknownName : (Value.ref c_BadPlan == Value.ref c_UnknownName) = false)
    (xn_BadPlan_kind : PySem.W.findIn K (.ref c_BadPlan) "kind" = some none)
    (xn_BadPlan_letter : PySem.W.findIn K (.ref c_BadPlan) "letter" = some none)
    (xn_BadPlan_name : PySem.W.findIn K (.ref c_BadPlan) "name" = some none)
    (xn_BadPlan_path : PySem.W.findIn K (.ref c_BadPlan) "path" = some none)
    (xn_BadPlan_rule : PySem.W.findIn K (.ref c_BadPlan) "rule" = some none)
    (xn_BadPlan_rules : PySem.W.findIn K (.ref c_BadPlan) "rules" = some none)
    (cf_BadRule : PySem.W.isClsIn K c_BadRule = true)
    (ct_BadRule : PySem.W.typeIn K (.ref c_BadRule) = some (.type "type"))
    (xg_BadRule : PySem.W.findIn K (.ref c_BadRule) "__getattribute__" = some (some (.builtin "BaseException.__getattribute__")))
    (xh_BadRule : PySem.W.findIn K (.ref c_BadRule) "__getattr__" = some none)
    (xd_BadRule : PySem.W.hasDictIn K c_BadRule = true)
    (oha_BadRule : PySem.W.findIn K (.ref c_BadRule) "__class__" = some (some (.builtin "object.__class__")))
    (mo_BadRule : PySem.W.mroIn K c_BadRule (.type "object") = some true)
    (iv_BadRule : PySem.W.subIn K (.ref c_BadRule) (.type "ValueError") = some true)
    (is_BadRule_Alike : PySem.W.subIn K (.ref c_BadRule) (.ref c_Alike) = some false)
    (kne_BadRule_Alike : (Value.ref c_BadRule == Value.ref c_Alike) = false)
    (is_BadRule_BadFold : PySem.W.subIn K (.ref c_BadRule) (.ref c_BadFold) = some false)
    (kne_BadRule_BadFold : (Value.ref c_BadRule == Value.ref c_BadFold) = false)
    (is_BadRule_BadPlan : PySem.W.subIn K (.ref c_BadRule) (.ref c_BadPlan) = some false)
    (kne_BadRule_BadPlan : (Value.ref c_BadRule == Value.ref c_BadPlan) = false)
    (is_BadRule_BadRule : PySem.W.subIn K (.ref c_BadRule) (.ref c_BadRule) = some true)
    (is_BadRule_BadTable : PySem.W.subIn K (.ref c_BadRule) (.ref c_BadTable) = some false)
    (kne_BadRule_BadTable : (Value.ref c_BadRule == Value.ref c_BadTable) = false)
    (is_BadRule_NoConstant : PySem.W.subIn K (.ref c_BadRule) (.ref c_NoConstant) = some false)
    (kne_BadRule_NoConstant : (Value.ref c_BadRule == Value.ref c_NoConstant) = false)
    (is_BadRule_NoPlace : PySem.W.subIn K (.ref c_BadRule) (.ref c_NoPlace) = some false)
    (kne_BadRule_NoPlace : (Value.ref c_BadRule == Value.ref c_NoPlace) = false)
    (is_BadRule_NoStep : PySem.W.subIn K (.ref c_BadRule) (.ref c_NoStep) = some false)
    (kne_BadRule_NoStep : (Value.ref c_BadRule == Value.ref c_NoStep) = false)
    (is_BadRule_NoWay : PySem.W.subIn K (.ref c_BadRule) (.ref c_NoWay) = some false)
    (kne_BadRule_NoWay : (Value.ref c_BadRule == Value.ref c_NoWay) = false)
    (is_BadRule_NotAlike : PySem.W.subIn K (.ref c_BadRule) (.ref c_NotAlike) = some false)
    (kne_BadRule_NotAlike : (Value.ref c_BadRule == Value.ref c_NotAlike) = false)
    (is_BadRule_NothingToUndo : PySem.W.subIn K (.ref c_BadRule) (.ref c_NothingToUndo) = some false)
    (kne_BadRule_NothingToUndo : (Value.ref c_BadRule == Value.ref c_NothingToUndo) = false)
    (is_BadRule_SameWays : PySem.W.subIn K (.ref c_BadRule) (.ref c_SameWays) = some false)
    (kne_BadRule_SameWays : (Value.ref c_BadRule == Value.ref c_SameWays) = false)
    (is_BadRule_UnknownName : PySem.W.subIn K (.ref c_BadRule) (.ref c_UnknownName) = some false)
    (kne_BadRule_UnknownName : (Value.ref c_BadRule == Value.ref c_UnknownName) = false)
    (xn_BadRule_at : PySem.W.findIn K (.ref c_BadRule) "at" = some none)
    (xn_BadRule_kind : PySem.W.findIn K (.ref c_BadRule) "kind" = some none)
    (xn_BadRule_name : PySem.W.findIn K (.ref c_BadRule) "name" = some none)
    (xn_BadRule_path : PySem.W.findIn K (.ref c_BadRule) "path" = some none)
    (xn_BadRule_rule : PySem.W.findIn K (.ref c_BadRule) "rule" = some none)
    (xn_BadRule_rules : PySem.W.findIn K (.ref c_BadRule) "rules" = some none)
    (cf_BadTable : PySem.W.isClsIn K c_BadTable = true)
    (ct_BadTable : PySem.W.typeIn K (.ref c_BadTable) = some (.type "type"))
    (xg_BadTable : PySem.W.findIn K (.ref c_BadTable) "__getattribute__" = some (some (.builtin "BaseException.__getattribute__")))
    (xh_BadTable : PySem.W.findIn K (.ref c_BadTable) "__getattr__" = some none)
    (xd_BadTable : PySem.W.hasDictIn K c_BadTable = true)
    (oha_BadTable : PySem.W.findIn K (.ref c_BadTable) "__class__" = some (some (.builtin "object.__class__")))
    (mo_BadTable : PySem.W.mroIn K c_BadTable (.type "object") = some true)
    (iv_BadTable : PySem.W.subIn K (.ref c_BadTable) (.type "ValueError") = some true)
    (is_BadTable_Alike : PySem.W.subIn K (.ref c_BadTable) (.ref c_Alike) = some false)
    (kne_BadTable_Alike : (Value.ref c_BadTable == Value.ref c_Alike) = false)
    (is_BadTable_BadFold : PySem.W.subIn K (.ref c_BadTable) (.ref c_BadFold) = some false)
    (kne_BadTable_BadFold : (Value.ref c_BadTable == Value.ref c_BadFold) = false)
    (is_BadTable_BadPlan : PySem.W.subIn K (.ref c_BadTable) (.ref c_BadPlan) = some false)
    (kne_BadTable_BadPlan : (Value.ref c_BadTable == Value.ref c_BadPlan) = false)
    (is_BadTable_BadRule : PySem.W.subIn K (.ref c_BadTable) (.ref c_BadRule) = some false)
    (kne_BadTable_BadRule : (Value.ref c_BadTable == Value.ref c_BadRule) = false)
    (is_BadTable_BadTable : PySem.W.subIn K (.ref c_BadTable) (.ref c_BadTable) = some true)
    (is_BadTable_NoConstant : PySem.W.subIn K (.ref c_BadTable) (.ref c_NoConstant) = some false)
    (kne_BadTable_NoConstant : (Value.ref c_BadTable == Value.ref c_NoConstant) = false)
    (is_BadTable_NoPlace : PySem.W.subIn K (.ref c_BadTable) (.ref c_NoPlace) = some false)
    (kne_BadTable_NoPlace : (Value.ref c_BadTable == Value.ref c_NoPlace) = false)
    (is_BadTable_NoStep : PySem.W.subIn K (.ref c_BadTable) (.ref c_NoStep) = some false)
    (kne_BadTable_NoStep : (Value.ref c_BadTable == Value.ref c_NoStep) = false)
    (is_BadTable_NoWay : PySem.W.subIn K (.ref c_BadTable) (.ref c_NoWay) = some false)
    (kne_BadTable_NoWay : (Value.ref c_BadTable == Value.ref c_NoWay) = false)
    (is_BadTable_NotAlike : PySem.W.subIn K (.ref c_BadTable) (.ref c_NotAlike) = some false)
    (kne_BadTable_NotAlike : (Value.ref c_BadTable == Value.ref c_NotAlike) = false)
    (is_BadTable_NothingToUndo : PySem.W.subIn K (.ref c_BadTable) (.ref c_NothingToUndo) = some false)
    (kne_BadTable_NothingToUndo : (Value.ref c_BadTable == Value.ref c_NothingToUndo) = false)
    (is_BadTable_SameWays : PySem.W.subIn K (.ref c_BadTable) (.ref c_SameWays) = some false)
    (kne_BadTable_SameWays : (Value.ref c_BadTable == Value.ref c_SameWays) = false)
    (is_BadTable_UnknownName : PySem.W.subIn K (.ref c_BadTable) (.ref c_UnknownName) = some false)
    (kne_BadTable_UnknownName : (Value.ref c_BadTable == Value.ref c_UnknownName) = false)
    (xn_BadTable_kind : PySem.W.findIn K (.ref c_BadTable) "kind" = some none)
    (xn_BadTable_letter : PySem.W.findIn K (.ref c_BadTable) "letter" = some none)
    (xn_BadTable_name : PySem.W.findIn K (.ref c_BadTable) "name" = some none)
    (xn_BadTable_path : PySem.W.findIn K (.ref c_BadTable) "path" = some none)
    (xn_BadTable_rule : PySem.W.findIn K (.ref c_BadTable) "rule" = some none)
    (xn_BadTable_rules : PySem.W.findIn K (.ref c_BadTable) "rules" = some none)
    (cf_NoConstant : PySem.W.isClsIn K c_NoConstant = true)
    (ct_NoConstant : PySem.W.typeIn K (.ref c_NoConstant) = some (.type "type"))
    (xg_NoConstant : PySem.W.findIn K (.ref c_NoConstant) "__getattribute__" = some (some (.builtin "BaseException.__getattribute__")))
    (xh_NoConstant : PySem.W.findIn K (.ref c_NoConstant) "__getattr__" = some none)
    (xd_NoConstant : PySem.W.hasDictIn K c_NoConstant = true)
    (oha_NoConstant : PySem.W.findIn K (.ref c_NoConstant) "__class__" = some (some (.builtin "object.__class__")))
    (mo_NoConstant : PySem.W.mroIn K c_NoConstant (.type "object") = some true)
    (iv_NoConstant : PySem.W.subIn K (.ref c_NoConstant) (.type "ValueError") = some true)
    (is_NoConstant_Alike : PySem.W.subIn K (.ref c_NoConstant) (.ref c_Alike) = some false)
    (kne_NoConstant_Alike : (Value.ref c_NoConstant == Value.ref c_Alike) = false)
    (is_NoConstant_BadFold : PySem.W.subIn K (.ref c_NoConstant) (.ref c_BadFold) = some false)
    (kne_NoConstant_BadFold : (Value.ref c_NoConstant == Value.ref c_BadFold) = false)
    (is_NoConstant_BadPlan : PySem.W.subIn K (.ref c_NoConstant) (.ref c_BadPlan) = some false)
    (kne_NoConstant_BadPlan : (Value.ref c_NoConstant == Value.ref c_BadPlan) = false)
    (is_NoConstant_BadRule : PySem.W.subIn K (.ref c_NoConstant) (.ref c_BadRule) = some false)
    (kne_NoConstant_BadRule : (Value.ref c_NoConstant == Value.ref c_BadRule) = false)
    (is_NoConstant_BadTable : PySem.W.subIn K (.ref c_NoConstant) (.ref c_BadTable) = some false)
    (kne_NoConstant_BadTable : (Value.ref c_NoConstant == Value.ref c_BadTable) = false)
    (is_NoConstant_NoConstant : PySem.W.subIn K (.ref c_NoConstant) (.ref c_NoConstant) = some true)
    (is_NoConstant_NoPlace : PySem.W.subIn K (.ref c_NoConstant) (.ref c_NoPlace) = some false)
    (kne_NoConstant_NoPlace : (Value.ref c_NoConstant == Value.ref c_NoPlace) = false)
    (is_NoConstant_NoStep : PySem.W.subIn K (.ref c_NoConstant) (.ref c_NoStep) = some false)
    (kne_NoConstant_NoStep : (Value.ref c_NoConstant == Value.ref c_NoStep) = false)
    (is_NoConstant_NoWay : PySem.W.subIn K (.ref c_NoConstant) (.ref c_NoWay) = some false)
    (kne_NoConstant_NoWay : (Value.ref c_NoConstant == Value.ref c_NoWay) = false)
    (is_NoConstant_NotAlike : PySem.W.subIn K (.ref c_NoConstant) (.ref c_NotAlike) = some false)
    (kne_NoConstant_NotAlike : (Value.ref c_NoConstant == Value.ref c_NotAlike) = false)
    (is_NoConstant_NothingToUndo : PySem.W.subIn K (.ref c_NoConstant) (.ref c_NothingToUndo) = some false)
    (kne_NoConstant_NothingToUndo : (Value.ref c_NoConstant == Value.ref c_NothingToUndo) = false)
    (is_NoConstant_SameWays : PySem.W.subIn K (.ref c_NoConstant) (.ref c_SameWays) = some false)
    (kne_NoConstant_SameWays : (Value.ref c_NoConstant == Value.ref c_SameWays) = false)
    (is_NoConstant_UnknownName : PySem.W.subIn K (.ref c_NoConstant) (.ref c_UnknownName) = some false)
    (kne_NoConstant_UnknownName : (Value.ref c_NoConstant == Value.ref c_UnknownName) = false)
    (xn_NoConstant_at : PySem.W.findIn K (.ref c_NoConstant) "at" = some none)
    (xn_NoConstant_kind : PySem.W.findIn K (.ref c_NoConstant) "kind" = some none)
    (xn_NoConstant_letter : PySem.W.findIn K (.ref c_NoConstant) "letter" = some none)
    (xn_NoConstant_path : PySem.W.findIn K (.ref c_NoConstant) "path" = some none)
    (xn_NoConstant_rule : PySem.W.findIn K (.ref c_NoConstant) "rule" = some none)
    (xn_NoConstant_rules : PySem.W.findIn K (.ref c_NoConstant) "rules" = some none)
    (cf_NoPlace : PySem.W.isClsIn K c_NoPlace = true)
    (ct_NoPlace : PySem.W.typeIn K (.ref c_NoPlace) = some (.type "type"))
    (xg_NoPlace : PySem.W.findIn K (.ref c_NoPlace) "__getattribute__" = some (some (.builtin "BaseException.__getattribute__")))
    (xh_NoPlace : PySem.W.findIn K (.ref c_NoPlace) "__getattr__" = some none)
    (xd_NoPlace : PySem.W.hasDictIn K c_NoPlace = true)
    (oha_NoPlace : PySem.W.findIn K (.ref c_NoPlace) "__class__" = some (some (.builtin "object.__class__")))
    (mo_NoPlace : PySem.W.mroIn K c_NoPlace (.type "object") = some true)
    (iv_NoPlace : PySem.W.subIn K (.ref c_NoPlace) (.type "ValueError") = some true)
    (is_NoPlace_Alike : PySem.W.subIn K (.ref c_NoPlace) (.ref c_Alike) = some false)
    (kne_NoPlace_Alike : (Value.ref c_NoPlace == Value.ref c_Alike) = false)
    (is_NoPlace_BadFold : PySem.W.subIn K (.ref c_NoPlace) (.ref c_BadFold) = some false)
    (kne_NoPlace_BadFold : (Value.ref c_NoPlace == Value.ref c_BadFold) = false)
    (is_NoPlace_BadPlan : PySem.W.subIn K (.ref c_NoPlace) (.ref c_BadPlan) = some false)
    (kne_NoPlace_BadPlan : (Value.ref c_NoPlace == Value.ref c_BadPlan) = false)
    (is_NoPlace_BadRule : PySem.W.subIn K (.ref c_NoPlace) (.ref c_BadRule) = some false)
    (kne_NoPlace_BadRule : (Value.ref c_NoPlace == Value.ref c_BadRule) = false)
    (is_NoPlace_BadTable : PySem.W.subIn K (.ref c_NoPlace) (.ref c_BadTable) = some false)
    (kne_NoPlace_BadTable : (Value.ref c_NoPlace == Value.ref c_BadTable) = false)
    (is_NoPlace_NoConstant : PySem.W.subIn K (.ref c_NoPlace) (.ref c_NoConstant) = some false)
    (kne_NoPlace_NoConstant : (Value.ref c_NoPlace == Value.ref c_NoConstant) = false)
    (is_NoPlace_NoPlace : PySem.W.subIn K (.ref c_NoPlace) (.ref c_NoPlace) = some true)
    (is_NoPlace_NoStep : PySem.W.subIn K (.ref c_NoPlace) (.ref c_NoStep) = some false)
    (kne_NoPlace_NoStep : (Value.ref c_NoPlace == Value.ref c_NoStep) = false)
    (is_NoPlace_NoWay : PySem.W.subIn K (.ref c_NoPlace) (.ref c_NoWay) = some false)
    (kne_NoPlace_NoWay : (Value.ref c_NoPlace == Value.ref c_NoWay) = false)
    (is_NoPlace_NotAlike : PySem.W.subIn K (.ref c_NoPlace) (.ref c_NotAlike) = some false)
    (kne_NoPlace_NotAlike : (Value.ref c_NoPlace == Value.ref c_NotAlike) = false)
    (is_NoPlace_NothingToUndo : PySem.W.subIn K (.ref c_NoPlace) (.ref c_NothingToUndo) = some false)
    (kne_NoPlace_NothingToUndo : (Value.ref c_NoPlace == Value.ref c_NothingToUndo) = false)
    (is_NoPlace_SameWays : PySem.W.subIn K (.ref c_NoPlace) (.ref c_SameWays) = some false)
    (kne_NoPlace_SameWays : (Value.ref c_NoPlace == Value.ref c_SameWays) = false)
    (is_NoPlace_UnknownName : PySem.W.subIn K (.ref c_NoPlace) (.ref c_UnknownName) = some false)
    (kne_NoPlace_UnknownName : (Value.ref c_NoPlace == Value.ref c_UnknownName) = false)
    (xn_NoPlace_at : PySem.W.findIn K (.ref c_NoPlace) "at" = some none)
    (xn_NoPlace_kind : PySem.W.findIn K (.ref c_NoPlace) "kind" = some none)
    (xn_NoPlace_letter : PySem.W.findIn K (.ref c_NoPlace) "letter" = some none)
    (xn_NoPlace_name : PySem.W.findIn K (.ref c_NoPlace) "name" = some none)
    (xn_NoPlace_rule : PySem.W.findIn K (.ref c_NoPlace) "rule" = some none)
    (xn_NoPlace_rules : PySem.W.findIn K (.ref c_NoPlace) "rules" = some none)
    (cf_NoStep : PySem.W.isClsIn K c_NoStep = true)
    (ct_NoStep : PySem.W.typeIn K (.ref c_NoStep) = some (.type "type"))
    (xg_NoStep : PySem.W.findIn K (.ref c_NoStep) "__getattribute__" = some (some (.builtin "BaseException.__getattribute__")))
    (xh_NoStep : PySem.W.findIn K (.ref c_NoStep) "__getattr__" = some none)
    (xd_NoStep : PySem.W.hasDictIn K c_NoStep = true)
    (oha_NoStep : PySem.W.findIn K (.ref c_NoStep) "__class__" = some (some (.builtin "object.__class__")))
    (mo_NoStep : PySem.W.mroIn K c_NoStep (.type "object") = some true)
    (iv_NoStep : PySem.W.subIn K (.ref c_NoStep) (.type "ValueError") = some true)
    (is_NoStep_Alike : PySem.W.subIn K (.ref c_NoStep) (.ref c_Alike) = some false)
    (kne_NoStep_Alike : (Value.ref c_NoStep == Value.ref c_Alike) = false)
    (is_NoStep_BadFold : PySem.W.subIn K (.ref c_NoStep) (.ref c_BadFold) = some false)
    (kne_NoStep_BadFold : (Value.ref c_NoStep == Value.ref c_BadFold) = false)
    (is_NoStep_BadPlan : PySem.W.subIn K (.ref c_NoStep) (.ref c_BadPlan) = some false)
    (kne_NoStep_BadPlan : (Value.ref c_NoStep == Value.ref c_BadPlan) = false)
    (is_NoStep_BadRule : PySem.W.subIn K (.ref c_NoStep) (.ref c_BadRule) = some false)
    (kne_NoStep_BadRule : (Value.ref c_NoStep == Value.ref c_BadRule) = false)
    (is_NoStep_BadTable : PySem.W.subIn K (.ref c_NoStep) (.ref c_BadTable) = some false)
    (kne_NoStep_BadTable : (Value.ref c_NoStep == Value.ref c_BadTable) = false)
    (is_NoStep_NoConstant : PySem.W.subIn K (.ref c_NoStep) (.ref c_NoConstant) = some false)
    (kne_NoStep_NoConstant : (Value.ref c_NoStep == Value.ref c_NoConstant) = false)
    (is_NoStep_NoPlace : PySem.W.subIn K (.ref c_NoStep) (.ref c_NoPlace) = some false)
    (kne_NoStep_NoPlace : (Value.ref c_NoStep == Value.ref c_NoPlace) = false)
    (is_NoStep_NoStep : PySem.W.subIn K (.ref c_NoStep) (.ref c_NoStep) = some true)
    (is_NoStep_NoWay : PySem.W.subIn K (.ref c_NoStep) (.ref c_NoWay) = some false)
    (kne_NoStep_NoWay : (Value.ref c_NoStep == Value.ref c_NoWay) = false)
    (is_NoStep_NotAlike : PySem.W.subIn K (.ref c_NoStep) (.ref c_NotAlike) = some false)
    (kne_NoStep_NotAlike : (Value.ref c_NoStep == Value.ref c_NotAlike) = false)
    (is_NoStep_NothingToUndo : PySem.W.subIn K (.ref c_NoStep) (.ref c_NothingToUndo) = some false)
    (kne_NoStep_NothingToUndo : (Value.ref c_NoStep == Value.ref c_NothingToUndo) = false)
    (is_NoStep_SameWays : PySem.W.subIn K (.ref c_NoStep) (.ref c_SameWays) = some false)
    (kne_NoStep_SameWays : (Value.ref c_NoStep == Value.ref c_SameWays) = false)
    (is_NoStep_UnknownName : PySem.W.subIn K (.ref c_NoStep) (.ref c_UnknownName) = some false)
    (kne_NoStep_UnknownName : (Value.ref c_NoStep == Value.ref c_UnknownName) = false)
    (xn_NoStep_at : PySem.W.findIn K (.ref c_NoStep) "at" = some none)
    (xn_NoStep_kind : PySem.W.findIn K (.ref c_NoStep) "kind" = some none)
    (xn_NoStep_letter : PySem.W.findIn K (.ref c_NoStep) "letter" = some none)
    (xn_NoStep_name : PySem.W.findIn K (.ref c_NoStep) "name" = some none)
    (xn_NoStep_rules : PySem.W.findIn K (.ref c_NoStep) "rules" = some none)
    (cf_NoWay : PySem.W.isClsIn K c_NoWay = true)
    (ct_NoWay : PySem.W.typeIn K (.ref c_NoWay) = some (.type "type"))
    (xg_NoWay : PySem.W.findIn K (.ref c_NoWay) "__getattribute__" = some (some (.builtin "BaseException.__getattribute__")))
    (xh_NoWay : PySem.W.findIn K (.ref c_NoWay) "__getattr__" = some none)
    (xd_NoWay : PySem.W.hasDictIn K c_NoWay = true)
    (oha_NoWay : PySem.W.findIn K (.ref c_NoWay) "__class__" = some (some (.builtin "object.__class__")))
    (mo_NoWay : PySem.W.mroIn K c_NoWay (.type "object") = some true)
    (iv_NoWay : PySem.W.subIn K (.ref c_NoWay) (.type "ValueError") = some true)
    (is_NoWay_Alike : PySem.W.subIn K (.ref c_NoWay) (.ref c_Alike) = some false)
    (kne_NoWay_Alike : (Value.ref c_NoWay == Value.ref c_Alike) = false)
    (is_NoWay_BadFold : PySem.W.subIn K (.ref c_NoWay) (.ref c_BadFold) = some false)
    (kne_NoWay_BadFold : (Value.ref c_NoWay == Value.ref c_BadFold) = false)
    (is_NoWay_BadPlan : PySem.W.subIn K (.ref c_NoWay) (.ref c_BadPlan) = some false)
    (kne_NoWay_BadPlan : (Value.ref c_NoWay == Value.ref c_BadPlan) = false)
    (is_NoWay_BadRule : PySem.W.subIn K (.ref c_NoWay) (.ref c_BadRule) = some false)
    (kne_NoWay_BadRule : (Value.ref c_NoWay == Value.ref c_BadRule) = false)
    (is_NoWay_BadTable : PySem.W.subIn K (.ref c_NoWay) (.ref c_BadTable) = some false)
    (kne_NoWay_BadTable : (Value.ref c_NoWay == Value.ref c_BadTable) = false)
    (is_NoWay_NoConstant : PySem.W.subIn K (.ref c_NoWay) (.ref c_NoConstant) = some false)
    (kne_NoWay_NoConstant : (Value.ref c_NoWay == Value.ref c_NoConstant) = false)
    (is_NoWay_NoPlace : PySem.W.subIn K (.ref c_NoWay) (.ref c_NoPlace) = some false)
    (kne_NoWay_NoPlace : (Value.ref c_NoWay == Value.ref c_NoPlace) = false)
    (is_NoWay_NoStep : PySem.W.subIn K (.ref c_NoWay) (.ref c_NoStep) = some false)
    (kne_NoWay_NoStep : (Value.ref c_NoWay == Value.ref c_NoStep) = false)
    (is_NoWay_NoWay : PySem.W.subIn K (.ref c_NoWay) (.ref c_NoWay) = some true)
    (is_NoWay_NotAlike : PySem.W.subIn K (.ref c_NoWay) (.ref c_NotAlike) = some false)
    (kne_NoWay_NotAlike : (Value.ref c_NoWay == Value.ref c_NotAlike) = false)
    (is_NoWay_NothingToUndo : PySem.W.subIn K (.ref c_NoWay) (.ref c_NothingToUndo) = some false)
    (kne_NoWay_NothingToUndo : (Value.ref c_NoWay == Value.ref c_NothingToUndo) = false)
    (is_NoWay_SameWays : PySem.W.subIn K (.ref c_NoWay) (.ref c_SameWays) = some false)
    (kne_NoWay_SameWays : (Value.ref c_NoWay == Value.ref c_SameWays) = false)
    (is_NoWay_UnknownName : PySem.W.subIn K (.ref c_NoWay) (.ref c_UnknownName) = some false)
    (kne_NoWay_UnknownName : (Value.ref c_NoWay == Value.ref c_UnknownName) = false)
    (xn_NoWay_kind : PySem.W.findIn K (.ref c_NoWay) "kind" = some none)
    (xn_NoWay_letter : PySem.W.findIn K (.ref c_NoWay) "letter" = some none)
    (xn_NoWay_name : PySem.W.findIn K (.ref c_NoWay) "name" = some none)
    (xn_NoWay_path : PySem.W.findIn K (.ref c_NoWay) "path" = some none)
    (xn_NoWay_rule : PySem.W.findIn K (.ref c_NoWay) "rule" = some none)
    (xn_NoWay_rules : PySem.W.findIn K (.ref c_NoWay) "rules" = some none)
    (cf_NotAlike : PySem.W.isClsIn K c_NotAlike = true)
    (ct_NotAlike : PySem.W.typeIn K (.ref c_NotAlike) = some (.type "type"))
    (xg_NotAlike : PySem.W.findIn K (.ref c_NotAlike) "__getattribute__" = some (some (.builtin "BaseException.__getattribute__")))
    (xh_NotAlike : PySem.W.findIn K (.ref c_NotAlike) "__getattr__" = some none)
    (xd_NotAlike : PySem.W.hasDictIn K c_NotAlike = true)
    (oha_NotAlike : PySem.W.findIn K (.ref c_NotAlike) "__class__" = some (some (.builtin "object.__class__")))
    (mo_NotAlike : PySem.W.mroIn K c_NotAlike (.type "object") = some true)
    (iv_NotAlike : PySem.W.subIn K (.ref c_NotAlike) (.type "ValueError") = some true)
    (is_NotAlike_Alike : PySem.W.subIn K (.ref c_NotAlike) (.ref c_Alike) = some false)
    (kne_NotAlike_Alike : (Value.ref c_NotAlike == Value.ref c_Alike) = false)
    (is_NotAlike_BadFold : PySem.W.subIn K (.ref c_NotAlike) (.ref c_BadFold) = some false)
    (kne_NotAlike_BadFold : (Value.ref c_NotAlike == Value.ref c_BadFold) = false)
    (is_NotAlike_BadPlan : PySem.W.subIn K (.ref c_NotAlike) (.ref c_BadPlan) = some false)
    (kne_NotAlike_BadPlan : (Value.ref c_NotAlike == Value.ref c_BadPlan) = false)
    (is_NotAlike_BadRule : PySem.W.subIn K (.ref c_NotAlike) (.ref c_BadRule) = some false)
    (kne_NotAlike_BadRule : (Value.ref c_NotAlike == Value.ref c_BadRule) = false)
    (is_NotAlike_BadTable : PySem.W.subIn K (.ref c_NotAlike) (.ref c_BadTable) = some false)
    (kne_NotAlike_BadTable : (Value.ref c_NotAlike == Value.ref c_BadTable) = false)
    (is_NotAlike_NoConstant : PySem.W.subIn K (.ref c_NotAlike) (.ref c_NoConstant) = some false)
    (kne_NotAlike_NoConstant : (Value.ref c_NotAlike == Value.ref c_NoConstant) = false)
    (is_NotAlike_NoPlace : PySem.W.subIn K (.ref c_NotAlike) (.ref c_NoPlace) = some false)
    (kne_NotAlike_NoPlace : (Value.ref c_NotAlike == Value.ref c_NoPlace) = false)
    (is_NotAlike_NoStep : PySem.W.subIn K (.ref c_NotAlike) (.ref c_NoStep) = some false)
    (kne_NotAlike_NoStep : (Value.ref c_NotAlike == Value.ref c_NoStep) = false)
    (is_NotAlike_NoWay : PySem.W.subIn K (.ref c_NotAlike) (.ref c_NoWay) = some false)
    (kne_NotAlike_NoWay : (Value.ref c_NotAlike == Value.ref c_NoWay) = false)
    (is_NotAlike_NotAlike : PySem.W.subIn K (.ref c_NotAlike) (.ref c_NotAlike) = some true)
    (is_NotAlike_NothingToUndo : PySem.W.subIn K (.ref c_NotAlike) (.ref c_NothingToUndo) = some false)
    (kne_NotAlike_NothingToUndo : (Value.ref c_NotAlike == Value.ref c_NothingToUndo) = false)
    (is_NotAlike_SameWays : PySem.W.subIn K (.ref c_NotAlike) (.ref c_SameWays) = some false)
    (kne_NotAlike_SameWays : (Value.ref c_NotAlike == Value.ref c_SameWays) = false)
    (is_NotAlike_UnknownName : PySem.W.subIn K (.ref c_NotAlike) (.ref c_UnknownName) = some false)
    (kne_NotAlike_UnknownName : (Value.ref c_NotAlike == Value.ref c_UnknownName) = false)
    (xn_NotAlike_at : PySem.W.findIn K (.ref c_NotAlike) "at" = some none)
    (xn_NotAlike_kind : PySem.W.findIn K (.ref c_NotAlike) "kind" = some none)
    (xn_NotAlike_letter : PySem.W.findIn K (.ref c_NotAlike) "letter" = some none)
    (xn_NotAlike_name : PySem.W.findIn K (.ref c_NotAlike) "name" = some none)
    (xn_NotAlike_path : PySem.W.findIn K (.ref c_NotAlike) "path" = some none)
    (xn_NotAlike_rule : PySem.W.findIn K (.ref c_NotAlike) "rule" = some none)
    (cf_NothingToUndo : PySem.W.isClsIn K c_NothingToUndo = true)
    (ct_NothingToUndo : PySem.W.typeIn K (.ref c_NothingToUndo) = some (.type "type"))
    (xg_NothingToUndo : PySem.W.findIn K (.ref c_NothingToUndo) "__getattribute__" = some (some (.builtin "BaseException.__getattribute__")))
    (xh_NothingToUndo : PySem.W.findIn K (.ref c_NothingToUndo) "__getattr__" = some none)
    (xd_NothingToUndo : PySem.W.hasDictIn K c_NothingToUndo = true)
    (oha_NothingToUndo : PySem.W.findIn K (.ref c_NothingToUndo) "__class__" = some (some (.builtin "object.__class__")))
    (mo_NothingToUndo : PySem.W.mroIn K c_NothingToUndo (.type "object") = some true)
    (iv_NothingToUndo : PySem.W.subIn K (.ref c_NothingToUndo) (.type "ValueError") = some true)
    (is_NothingToUndo_Alike : PySem.W.subIn K (.ref c_NothingToUndo) (.ref c_Alike) = some false)
    (kne_NothingToUndo_Alike : (Value.ref c_NothingToUndo == Value.ref c_Alike) = false)
    (is_NothingToUndo_BadFold : PySem.W.subIn K (.ref c_NothingToUndo) (.ref c_BadFold) = some false)
    (kne_NothingToUndo_BadFold : (Value.ref c_NothingToUndo == Value.ref c_BadFold) = false)
    (is_NothingToUndo_BadPlan : PySem.W.subIn K (.ref c_NothingToUndo) (.ref c_BadPlan) = some false)
    (kne_NothingToUndo_BadPlan : (Value.ref c_NothingToUndo == Value.ref c_BadPlan) = false)
    (is_NothingToUndo_BadRule : PySem.W.subIn K (.ref c_NothingToUndo) (.ref c_BadRule) = some false)
    (kne_NothingToUndo_BadRule : (Value.ref c_NothingToUndo == Value.ref c_BadRule) = false)
    (is_NothingToUndo_BadTable : PySem.W.subIn K (.ref c_NothingToUndo) (.ref c_BadTable) = some false)
    (kne_NothingToUndo_BadTable : (Value.ref c_NothingToUndo == Value.ref c_BadTable) = false)
    (is_NothingToUndo_NoConstant : PySem.W.subIn K (.ref c_NothingToUndo) (.ref c_NoConstant) = some false)
    (kne_NothingToUndo_NoConstant : (Value.ref c_NothingToUndo == Value.ref c_NoConstant) = false)
    (is_NothingToUndo_NoPlace : PySem.W.subIn K (.ref c_NothingToUndo) (.ref c_NoPlace) = some false)
    (kne_NothingToUndo_NoPlace : (Value.ref c_NothingToUndo == Value.ref c_NoPlace) = false)
    (is_NothingToUndo_NoStep : PySem.W.subIn K (.ref c_NothingToUndo) (.ref c_NoStep) = some false)
    (kne_NothingToUndo_NoStep : (Value.ref c_NothingToUndo == Value.ref c_NoStep) = false)
    (is_NothingToUndo_NoWay : PySem.W.subIn K (.ref c_NothingToUndo) (.ref c_NoWay) = some false)
    (kne_NothingToUndo_NoWay : (Value.ref c_NothingToUndo == Value.ref c_NoWay) = false)
    (is_NothingToUndo_NotAlike : PySem.W.subIn K (.ref c_NothingToUndo) (.ref c_NotAlike) = some false)
    (kne_NothingToUndo_NotAlike : (Value.ref c_NothingToUndo == Value.ref c_NotAlike) = false)
    (is_NothingToUndo_NothingToUndo : PySem.W.subIn K (.ref c_NothingToUndo) (.ref c_NothingToUndo) = some true)
    (is_NothingToUndo_SameWays : PySem.W.subIn K (.ref c_NothingToUndo) (.ref c_SameWays) = some false)
    (kne_NothingToUndo_SameWays : (Value.ref c_NothingToUndo == Value.ref c_SameWays) = false)
    (is_NothingToUndo_UnknownName : PySem.W.subIn K (.ref c_NothingToUndo) (.ref c_UnknownName) = some false)
    (kne_NothingToUndo_UnknownName : (Value.ref c_NothingToUndo == Value.ref c_UnknownName) = false)
    (xn_NothingToUndo_at : PySem.W.findIn K (.ref c_NothingToUndo) "at" = some none)
    (xn_NothingToUndo_kind : PySem.W.findIn K (.ref c_NothingToUndo) "kind" = some none)
    (xn_NothingToUndo_letter : PySem.W.findIn K (.ref c_NothingToUndo) "letter" = some none)
    (xn_NothingToUndo_name : PySem.W.findIn K (.ref c_NothingToUndo) "name" = some none)
    (xn_NothingToUndo_path : PySem.W.findIn K (.ref c_NothingToUndo) "path" = some none)
    (xn_NothingToUndo_rule : PySem.W.findIn K (.ref c_NothingToUndo) "rule" = some none)
    (xn_NothingToUndo_rules : PySem.W.findIn K (.ref c_NothingToUndo) "rules" = some none)
    (cf_SameWays : PySem.W.isClsIn K c_SameWays = true)
    (ct_SameWays : PySem.W.typeIn K (.ref c_SameWays) = some (.type "type"))
    (xg_SameWays : PySem.W.findIn K (.ref c_SameWays) "__getattribute__" = some (some (.builtin "BaseException.__getattribute__")))
    (xh_SameWays : PySem.W.findIn K (.ref c_SameWays) "__getattr__" = some none)
    (xd_SameWays : PySem.W.hasDictIn K c_SameWays = true)
    (oha_SameWays : PySem.W.findIn K (.ref c_SameWays) "__class__" = some (some (.builtin "object.__class__")))
    (mo_SameWays : PySem.W.mroIn K c_SameWays (.type "object") = some true)
    (iv_SameWays : PySem.W.subIn K (.ref c_SameWays) (.type "ValueError") = some true)
    (is_SameWays_Alike : PySem.W.subIn K (.ref c_SameWays) (.ref c_Alike) = some false)
    (kne_SameWays_Alike : (Value.ref c_SameWays == Value.ref c_Alike) = false)
    (is_SameWays_BadFold : PySem.W.subIn K (.ref c_SameWays) (.ref c_BadFold) = some false)
    (kne_SameWays_BadFold : (Value.ref c_SameWays == Value.ref c_BadFold) = false)
    (is_SameWays_BadPlan : PySem.W.subIn K (.ref c_SameWays) (.ref c_BadPlan) = some false)
    (kne_SameWays_BadPlan : (Value.ref c_SameWays == Value.ref c_BadPlan) = false)
    (is_SameWays_BadRule : PySem.W.subIn K (.ref c_SameWays) (.ref c_BadRule) = some false)
    (kne_SameWays_BadRule : (Value.ref c_SameWays == Value.ref c_BadRule) = false)
    (is_SameWays_BadTable : PySem.W.subIn K (.ref c_SameWays) (.ref c_BadTable) = some false)
    (kne_SameWays_BadTable : (Value.ref c_SameWays == Value.ref c_BadTable) = false)
    (is_SameWays_NoConstant : PySem.W.subIn K (.ref c_SameWays) (.ref c_NoConstant) = some false)
    (kne_SameWays_NoConstant : (Value.ref c_SameWays == Value.ref c_NoConstant) = false)
    (is_SameWays_NoPlace : PySem.W.subIn K (.ref c_SameWays) (.ref c_NoPlace) = some false)
    (kne_SameWays_NoPlace : (Value.ref c_SameWays == Value.ref c_NoPlace) = false)
    (is_SameWays_NoStep : PySem.W.subIn K (.ref c_SameWays) (.ref c_NoStep) = some false)
    (kne_SameWays_NoStep : (Value.ref c_SameWays == Value.ref c_NoStep) = false)
    (is_SameWays_NoWay : PySem.W.subIn K (.ref c_SameWays) (.ref c_NoWay) = some false)
    (kne_SameWays_NoWay : (Value.ref c_SameWays == Value.ref c_NoWay) = false)
    (is_SameWays_NotAlike : PySem.W.subIn K (.ref c_SameWays) (.ref c_NotAlike) = some false)
    (kne_SameWays_NotAlike : (Value.ref c_SameWays == Value.ref c_NotAlike) = false)
    (is_SameWays_NothingToUndo : PySem.W.subIn K (.ref c_SameWays) (.ref c_NothingToUndo) = some false)
    (kne_SameWays_NothingToUndo : (Value.ref c_SameWays == Value.ref c_NothingToUndo) = false)
    (is_SameWays_SameWays : PySem.W.subIn K (.ref c_SameWays) (.ref c_SameWays) = some true)
    (is_SameWays_UnknownName : PySem.W.subIn K (.ref c_SameWays) (.ref c_UnknownName) = some false)
    (kne_SameWays_UnknownName : (Value.ref c_SameWays == Value.ref c_UnknownName) = false)
    (xn_SameWays_at : PySem.W.findIn K (.ref c_SameWays) "at" = some none)
    (xn_SameWays_kind : PySem.W.findIn K (.ref c_SameWays) "kind" = some none)
    (xn_SameWays_letter : PySem.W.findIn K (.ref c_SameWays) "letter" = some none)
    (xn_SameWays_name : PySem.W.findIn K (.ref c_SameWays) "name" = some none)
    (xn_SameWays_path : PySem.W.findIn K (.ref c_SameWays) "path" = some none)
    (xn_SameWays_rule : PySem.W.findIn K (.ref c_SameWays) "rule" = some none)
    (xn_SameWays_rules : PySem.W.findIn K (.ref c_SameWays) "rules" = some none)
    (cf_UnknownName : PySem.W.isClsIn K c_UnknownName = true)
    (ct_UnknownName : PySem.W.typeIn K (.ref c_UnknownName) = some (.type "type"))
    (xg_UnknownName : PySem.W.findIn K (.ref c_UnknownName) "__getattribute__" = some (some (.builtin "BaseException.__getattribute__")))
    (xh_UnknownName : PySem.W.findIn K (.ref c_UnknownName) "__getattr__" = some none)
    (xd_UnknownName : PySem.W.hasDictIn K c_UnknownName = true)
    (oha_UnknownName : PySem.W.findIn K (.ref c_UnknownName) "__class__" = some (some (.builtin "object.__class__")))
    (mo_UnknownName : PySem.W.mroIn K c_UnknownName (.type "object") = some true)
    (iv_UnknownName : PySem.W.subIn K (.ref c_UnknownName) (.type "ValueError") = some true)
    (is_UnknownName_Alike : PySem.W.subIn K (.ref c_UnknownName) (.ref c_Alike) = some false)
    (kne_UnknownName_Alike : (Value.ref c_UnknownName == Value.ref c_Alike) = false)
    (is_UnknownName_BadFold : PySem.W.subIn K (.ref c_UnknownName) (.ref c_BadFold) = some false)
    (kne_UnknownName_BadFold : (Value.ref c_UnknownName == Value.ref c_BadFold) = false)
    (is_UnknownName_BadPlan : PySem.W.subIn K (.ref c_UnknownName) (.ref c_BadPlan) = some false)
    (kne_UnknownName_BadPlan : (Value.ref c_UnknownName == Value.ref c_BadPlan) = false)
    (is_UnknownName_BadRule : PySem.W.subIn K (.ref c_UnknownName) (.ref c_BadRule) = some false)
    (kne_UnknownName_BadRule : (Value.ref c_UnknownName == Value.ref c_BadRule) = false)
    (is_UnknownName_BadTable : PySem.W.subIn K (.ref c_UnknownName) (.ref c_BadTable) = some false)
    (kne_UnknownName_BadTable : (Value.ref c_UnknownName == Value.ref c_BadTable) = false)
    (is_UnknownName_NoConstant : PySem.W.subIn K (.ref c_UnknownName) (.ref c_NoConstant) = some false)
    (kne_UnknownName_NoConstant : (Value.ref c_UnknownName == Value.ref c_NoConstant) = false)
    (is_UnknownName_NoPlace : PySem.W.subIn K (.ref c_UnknownName) (.ref c_NoPlace) = some false)
    (kne_UnknownName_NoPlace : (Value.ref c_UnknownName == Value.ref c_NoPlace) = false)
    (is_UnknownName_NoStep : PySem.W.subIn K (.ref c_UnknownName) (.ref c_NoStep) = some false)
    (kne_UnknownName_NoStep : (Value.ref c_UnknownName == Value.ref c_NoStep) = false)
    (is_UnknownName_NoWay : PySem.W.subIn K (.ref c_UnknownName) (.ref c_NoWay) = some false)
    (kne_UnknownName_NoWay : (Value.ref c_UnknownName == Value.ref c_NoWay) = false)
    (is_UnknownName_NotAlike : PySem.W.subIn K (.ref c_UnknownName) (.ref c_NotAlike) = some false)
    (kne_UnknownName_NotAlike : (Value.ref c_UnknownName == Value.ref c_NotAlike) = false)
    (is_UnknownName_NothingToUndo : PySem.W.subIn K (.ref c_UnknownName) (.ref c_NothingToUndo) = some false)
    (kne_UnknownName_NothingToUndo : (Value.ref c_UnknownName == Value.ref c_NothingToUndo) = false)
    (is_UnknownName_SameWays : PySem.W.subIn K (.ref c_UnknownName) (.ref c_SameWays) = some false)
    (kne_UnknownName_SameWays : (Value.ref c_UnknownName == Value.ref c_SameWays) = false)
    (is_UnknownName_UnknownName : PySem.W.subIn K (.ref c_UnknownName) (.ref c_UnknownName) = some true)
    (xn_UnknownName_at : PySem.W.findIn K (.ref c_UnknownName) "at" = some none)
    (xn_UnknownName_kind : PySem.W.findIn K (.ref c_UnknownName) "kind" = some none)
    (xn_UnknownName_letter : PySem.W.findIn K (.ref c_UnknownName) "letter" = some none)
    (xn_UnknownName_path : PySem.W.findIn K (.ref c_UnknownName) "path" = some none)
    (xn_UnknownName_rule : PySem.W.findIn K (.ref c_UnknownName) "rule" = some none)
    (xn_UnknownName_rules : PySem.W.findIn K (.ref c_UnknownName) "rules" = some none)
    (n_ValueError : PySem.W.nsIn K mainGlobals "ValueError" = some none)
    (n_abs : PySem.W.nsIn K mainGlobals "abs" = some none)
    (n_int : PySem.W.nsIn K mainGlobals "int" = some none)
    (n_isinstance : PySem.W.nsIn K mainGlobals "isinstance" = some none)
    (n_len : PySem.W.nsIn K mainGlobals "len" = some none)
    (n_range : PySem.W.nsIn K mainGlobals "range" = some none)
    : ∃ fd : FuncData, (∀ (s : Shared) (v : Value), BindsTo s fd ⟨[v], []⟩ [("_law_script", v)]) ∧ ∀ base : Heap, K.In base → base.Ns mainGlobals mg → FnOk l.prog w K mg base (L2.CX l.prog w) 4 fa fd ["_law_script"] (spLaw K) := by
  have e := hfa.symm.trans (PySem.W.mg_of X G a_law)
  have e2 : f_law = fa := by cases e; rfl
  subst e2
  have F_l_draws : FnP K "_law_draws" "_law_draws" s_l_draws [] [] f_l_draws _ := fnP_mk l_l_draws c_l_draws k_l_draws
  have F_l_cell : FnP K "_law_cell" "_law_cell" s_l_cell [] [] f_l_cell _ := fnP_mk l_l_cell c_l_cell k_l_cell
  have F_NothingToUndoD_initD : FnP K "__init__" "NothingToUndo.__init__" s_NothingToUndoD_initD [] [] f_NothingToUndoD_initD _ := fnP_mk l_NothingToUndoD_initD c_NothingToUndoD_initD k_NothingToUndoD_initD
  have F_NoWayD_initD : FnP K "__init__" "NoWay.__init__" s_NoWayD_initD [] [] f_NoWayD_initD _ := fnP_mk l_NoWayD_initD c_NoWayD_initD k_NoWayD_initD
  have F_NoPlaceD_initD : FnP K "__init__" "NoPlace.__init__" s_NoPlaceD_initD [] [] f_NoPlaceD_initD _ := fnP_mk l_NoPlaceD_initD c_NoPlaceD_initD k_NoPlaceD_initD
  have F_BadRuleD_initD : FnP K "__init__" "BadRule.__init__" s_BadRuleD_initD [] [] f_BadRuleD_initD _ := fnP_mk l_BadRuleD_initD c_BadRuleD_initD k_BadRuleD_initD
  have F_NotAlikeD_initD : FnP K "__init__" "NotAlike.__init__" s_NotAlikeD_initD [] [] f_NotAlikeD_initD _ := fnP_mk l_NotAlikeD_initD c_NotAlikeD_initD k_NotAlikeD_initD
  have F_AlikeD_initD : FnP K "__init__" "Alike.__init__" s_AlikeD_initD [] [] f_AlikeD_initD _ := fnP_mk l_AlikeD_initD c_AlikeD_initD k_AlikeD_initD
  have F_BadTableD_initD : FnP K "__init__" "BadTable.__init__" s_BadTableD_initD [] [] f_BadTableD_initD _ := fnP_mk l_BadTableD_initD c_BadTableD_initD k_BadTableD_initD
  have F_UnknownNameD_initD : FnP K "__init__" "UnknownName.__init__" s_UnknownNameD_initD [] [] f_UnknownNameD_initD _ := fnP_mk l_UnknownNameD_initD c_UnknownNameD_initD k_UnknownNameD_initD
  have F_NoConstantD_initD : FnP K "__init__" "NoConstant.__init__" s_NoConstantD_initD [] [] f_NoConstantD_initD _ := fnP_mk l_NoConstantD_initD c_NoConstantD_initD k_NoConstantD_initD
  have F_BadFoldD_initD : FnP K "__init__" "BadFold.__init__" s_BadFoldD_initD [] [] f_BadFoldD_initD _ := fnP_mk l_BadFoldD_initD c_BadFoldD_initD k_BadFoldD_initD
  have F_NoStepD_initD : FnP K "__init__" "NoStep.__init__" s_NoStepD_initD [] [] f_NoStepD_initD _ := fnP_mk l_NoStepD_initD c_NoStepD_initD k_NoStepD_initD
  have F_SameWaysD_initD : FnP K "__init__" "SameWays.__init__" s_SameWaysD_initD [] [] f_SameWaysD_initD _ := fnP_mk l_SameWaysD_initD c_SameWaysD_initD k_SameWaysD_initD
  have F_BadPlanD_initD : FnP K "__init__" "BadPlan.__init__" s_BadPlanD_initD [] [] f_BadPlanD_initD _ := fnP_mk l_BadPlanD_initD c_BadPlanD_initD k_BadPlanD_initD
  have F_l_raise : FnP K "_law_raise" "_law_raise" s_l_raise [] [] f_l_raise _ := fnP_mk l_l_raise c_l_raise k_l_raise
  have F_l_flags : FnP K "_law_flags" "_law_flags" s_l_flags [] [] f_l_flags _ := fnP_mk l_l_flags c_l_flags k_l_flags
  have F_l_fields : FnP K "_law_fields" "_law_fields" s_l_fields [] [] f_l_fields _ := fnP_mk l_l_fields c_l_fields k_l_fields
  have F_law : FnP K "law" "law" s_law [] [] f_law _ := fnP_mk l_law c_law k_law
  let A : Ad := {f_l_draws := f_l_draws, d_l_draws := (PySem.W.fnOf "_law_draws" "_law_draws" (defArgs s_l_draws) (defBody s_l_draws) (defScope s_l_draws) .none kV_l_draws dc_l_draws pm_l_draws an_l_draws cd_l_draws ct_l_draws), f_l_cell := f_l_cell, d_l_cell := (PySem.W.fnOf "_law_cell" "_law_cell" (defArgs s_l_cell) (defBody s_l_cell) (defScope s_l_cell) .none kV_l_cell dc_l_cell pm_l_cell an_l_cell cd_l_cell ct_l_cell), f_NothingToUndoD_initD := f_NothingToUndoD_initD, d_NothingToUndoD_initD := (PySem.W.fnOf "__init__" "NothingToUndo.__init__" (defArgs s_NothingToUndoD_initD) (defBody s_NothingToUndoD_initD) (defScope s_NothingToUndoD_initD) .none kV_NothingToUndoD_initD dc_NothingToUndoD_initD pm_NothingToUndoD_initD an_NothingToUndoD_initD cd_NothingToUndoD_initD ct_NothingToUndoD_initD), f_NoWayD_initD := f_NoWayD_initD, d_NoWayD_initD := (PySem.W.fnOf "__init__" "NoWay.__init__" (defArgs s_NoWayD_initD) (defBody s_NoWayD_initD) (defScope s_NoWayD_initD) .none kV_NoWayD_initD dc_NoWayD_initD pm_NoWayD_initD an_NoWayD_initD cd_NoWayD_initD ct_NoWayD_initD), f_NoPlaceD_initD := f_NoPlaceD_initD, d_NoPlaceD_initD := (PySem.W.fnOf "__init__" "NoPlace.__init__" (defArgs s_NoPlaceD_initD) (defBody s_NoPlaceD_initD) (defScope s_NoPlaceD_initD) .none kV_NoPlaceD_initD dc_NoPlaceD_initD pm_NoPlaceD_initD an_NoPlaceD_initD cd_NoPlaceD_initD ct_NoPlaceD_initD), f_BadRuleD_initD := f_BadRuleD_initD, d_BadRuleD_initD := (PySem.W.fnOf "__init__" "BadRule.__init__" (defArgs s_BadRuleD_initD) (defBody s_BadRuleD_initD) (defScope s_BadRuleD_initD) .none kV_BadRuleD_initD dc_BadRuleD_initD pm_BadRuleD_initD an_BadRuleD_initD cd_BadRuleD_initD ct_BadRuleD_initD), f_NotAlikeD_initD := f_NotAlikeD_initD, d_NotAlikeD_initD := (PySem.W.fnOf "__init__" "NotAlike.__init__" (defArgs s_NotAlikeD_initD) (defBody s_NotAlikeD_initD) (defScope s_NotAlikeD_initD) .none kV_NotAlikeD_initD dc_NotAlikeD_initD pm_NotAlikeD_initD an_NotAlikeD_initD cd_NotAlikeD_initD ct_NotAlikeD_initD), f_AlikeD_initD := f_AlikeD_initD, d_AlikeD_initD := (PySem.W.fnOf "__init__" "Alike.__init__" (defArgs s_AlikeD_initD) (defBody s_AlikeD_initD) (defScope s_AlikeD_initD) .none kV_AlikeD_initD dc_AlikeD_initD pm_AlikeD_initD an_AlikeD_initD cd_AlikeD_initD ct_AlikeD_initD), f_BadTableD_initD := f_BadTableD_initD, d_BadTableD_initD := (PySem.W.fnOf "__init__" "BadTable.__init__" (defArgs s_BadTableD_initD) (defBody s_BadTableD_initD) (defScope s_BadTableD_initD) .none kV_BadTableD_initD dc_BadTableD_initD pm_BadTableD_initD an_BadTableD_initD cd_BadTableD_initD ct_BadTableD_initD), f_UnknownNameD_initD := f_UnknownNameD_initD, d_UnknownNameD_initD := (PySem.W.fnOf "__init__" "UnknownName.__init__" (defArgs s_UnknownNameD_initD) (defBody s_UnknownNameD_initD) (defScope s_UnknownNameD_initD) .none kV_UnknownNameD_initD dc_UnknownNameD_initD pm_UnknownNameD_initD an_UnknownNameD_initD cd_UnknownNameD_initD ct_UnknownNameD_initD), f_NoConstantD_initD := f_NoConstantD_initD, d_NoConstantD_initD := (PySem.W.fnOf "__init__" "NoConstant.__init__" (defArgs s_NoConstantD_initD) (defBody s_NoConstantD_initD) (defScope s_NoConstantD_initD) .none kV_NoConstantD_initD dc_NoConstantD_initD pm_NoConstantD_initD an_NoConstantD_initD cd_NoConstantD_initD ct_NoConstantD_initD), f_BadFoldD_initD := f_BadFoldD_initD, d_BadFoldD_initD := (PySem.W.fnOf "__init__" "BadFold.__init__" (defArgs s_BadFoldD_initD) (defBody s_BadFoldD_initD) (defScope s_BadFoldD_initD) .none kV_BadFoldD_initD dc_BadFoldD_initD pm_BadFoldD_initD an_BadFoldD_initD cd_BadFoldD_initD ct_BadFoldD_initD), f_NoStepD_initD := f_NoStepD_initD, d_NoStepD_initD := (PySem.W.fnOf "__init__" "NoStep.__init__" (defArgs s_NoStepD_initD) (defBody s_NoStepD_initD) (defScope s_NoStepD_initD) .none kV_NoStepD_initD dc_NoStepD_initD pm_NoStepD_initD an_NoStepD_initD cd_NoStepD_initD ct_NoStepD_initD), f_SameWaysD_initD := f_SameWaysD_initD, d_SameWaysD_initD := (PySem.W.fnOf "__init__" "SameWays.__init__" (defArgs s_SameWaysD_initD) (defBody s_SameWaysD_initD) (defScope s_SameWaysD_initD) .none kV_SameWaysD_initD dc_SameWaysD_initD pm_SameWaysD_initD an_SameWaysD_initD cd_SameWaysD_initD ct_SameWaysD_initD), f_BadPlanD_initD := f_BadPlanD_initD, d_BadPlanD_initD := (PySem.W.fnOf "__init__" "BadPlan.__init__" (defArgs s_BadPlanD_initD) (defBody s_BadPlanD_initD) (defScope s_BadPlanD_initD) .none kV_BadPlanD_initD dc_BadPlanD_initD pm_BadPlanD_initD an_BadPlanD_initD cd_BadPlanD_initD ct_BadPlanD_initD), f_l_raise := f_l_raise, d_l_raise := (PySem.W.fnOf "_law_raise" "_law_raise" (defArgs s_l_raise) (defBody s_l_raise) (defScope s_l_raise) .none kV_l_raise dc_l_raise pm_l_raise an_l_raise cd_l_raise ct_l_raise), f_l_flags := f_l_flags, d_l_flags := (PySem.W.fnOf "_law_flags" "_law_flags" (defArgs s_l_flags) (defBody s_l_flags) (defScope s_l_flags) .none kV_l_flags dc_l_flags pm_l_flags an_l_flags cd_l_flags ct_l_flags), f_l_fields := f_l_fields, d_l_fields := (PySem.W.fnOf "_law_fields" "_law_fields" (defArgs s_l_fields) (defBody s_l_fields) (defScope s_l_fields) .none kV_l_fields dc_l_fields pm_l_fields an_l_fields cd_l_fields ct_l_fields), f_law := f_law, d_law := (PySem.W.fnOf "law" "law" (defArgs s_law) (defBody s_law) (defScope s_law) .none kV_law dc_law pm_law an_law cd_law ct_law), c_Alike := c_Alike, c_BadFold := c_BadFold, c_BadPlan := c_BadPlan, c_BadRule := c_BadRule, c_BadTable := c_BadTable, c_NoConstant := c_NoConstant, c_NoPlace := c_NoPlace, c_NoStep := c_NoStep, c_NoWay := c_NoWay, c_NotAlike := c_NotAlike, c_NothingToUndo := c_NothingToUndo, c_SameWays := c_SameWays, c_UnknownName := c_UnknownName, c_WayError := c_WayError}
  have g_Alike : mg "Alike" = some (.ref c_Alike) := PySem.W.mg_of X G aC_Alike
  have g_BadFold : mg "BadFold" = some (.ref c_BadFold) := PySem.W.mg_of X G aC_BadFold
  have g_BadPlan : mg "BadPlan" = some (.ref c_BadPlan) := PySem.W.mg_of X G aC_BadPlan
  have g_BadRule : mg "BadRule" = some (.ref c_BadRule) := PySem.W.mg_of X G aC_BadRule
  have g_BadTable : mg "BadTable" = some (.ref c_BadTable) := PySem.W.mg_of X G aC_BadTable
  have g_NoConstant : mg "NoConstant" = some (.ref c_NoConstant) := PySem.W.mg_of X G aC_NoConstant
  have g_NoPlace : mg "NoPlace" = some (.ref c_NoPlace) := PySem.W.mg_of X G aC_NoPlace
  have g_NoStep : mg "NoStep" = some (.ref c_NoStep) := PySem.W.mg_of X G aC_NoStep
  have g_NoWay : mg "NoWay" = some (.ref c_NoWay) := PySem.W.mg_of X G aC_NoWay
  have g_NotAlike : mg "NotAlike" = some (.ref c_NotAlike) := PySem.W.mg_of X G aC_NotAlike
  have g_NothingToUndo : mg "NothingToUndo" = some (.ref c_NothingToUndo) := PySem.W.mg_of X G aC_NothingToUndo
  have g_SameWays : mg "SameWays" = some (.ref c_SameWays) := PySem.W.mg_of X G aC_SameWays
  have g_UnknownName : mg "UnknownName" = some (.ref c_UnknownName) := PySem.W.mg_of X G aC_UnknownName
  have g_WayError : mg "WayError" = some (.ref c_WayError) := PySem.W.mg_of X G aC_WayError
  have T : Fx K mg A := {
    n_ValueError := PySem.W.mg_none_of X G n_ValueError,
    n_abs := PySem.W.mg_none_of X G n_abs,
    n_int := PySem.W.mg_none_of X G n_int,
    n_isinstance := PySem.W.mg_none_of X G n_isinstance,
    n_len := PySem.W.mg_none_of X G n_len,
    n_range := PySem.W.mg_none_of X G n_range,
    F_l_draws := F_l_draws,
    g_l_draws := PySem.W.mg_of X G a_l_draws,
    F_l_cell := F_l_cell,
    g_l_cell := PySem.W.mg_of X G a_l_cell,
    F_NothingToUndoD_initD := F_NothingToUndoD_initD,
    F_NoWayD_initD := F_NoWayD_initD,
    F_NoPlaceD_initD := F_NoPlaceD_initD,
    F_BadRuleD_initD := F_BadRuleD_initD,
    F_NotAlikeD_initD := F_NotAlikeD_initD,
    F_AlikeD_initD := F_AlikeD_initD,
    F_BadTableD_initD := F_BadTableD_initD,
    F_UnknownNameD_initD := F_UnknownNameD_initD,
    F_NoConstantD_initD := F_NoConstantD_initD,
    F_BadFoldD_initD := F_BadFoldD_initD,
    F_NoStepD_initD := F_NoStepD_initD,
    F_SameWaysD_initD := F_SameWaysD_initD,
    F_BadPlanD_initD := F_BadPlanD_initD,
    F_l_raise := F_l_raise,
    g_l_raise := PySem.W.mg_of X G a_l_raise,
    F_l_flags := F_l_flags,
    g_l_flags := PySem.W.mg_of X G a_l_flags,
    F_l_fields := F_l_fields,
    g_l_fields := PySem.W.mg_of X G a_l_fields,
    F_law := F_law,
    g_law := PySem.W.mg_of X G a_law,
    b_l_cell_2 := dflK_none (F_l_cell.bindsN fun _ _ _ _ _ _ us hl => match us, hl with | [_, _], _ => rfl),
    b_l_draws_2 := dflK_none (F_l_draws.bindsN fun _ _ _ _ _ _ us hl => match us, hl with | [_, _], _ => rfl),
    b_l_raise_3 := dflK_none (F_l_raise.bindsN fun _ _ _ _ _ _ us hl => match us, hl with | [_, _, _], _ => rfl),
    bd_AlikeD_initD := F_AlikeD_initD.bindsN fun _ _ _ _ _ _ us hl => match us, hl with | [_, _], _ => rfl,
    bd_BadFoldD_initD := F_BadFoldD_initD.bindsN fun _ _ _ _ _ _ us hl => match us, hl with | [_, _], _ => rfl,
    bd_BadPlanD_initD := F_BadPlanD_initD.bindsN fun _ _ _ _ _ _ us hl => match us, hl with | [_, _], _ => rfl,
    bd_BadRuleD_initD := F_BadRuleD_initD.bindsN fun _ _ _ _ _ _ us hl => match us, hl with | [_, _], _ => rfl,
    bd_BadTableD_initD := F_BadTableD_initD.bindsN fun _ _ _ _ _ _ us hl => match us, hl with | [_, _], _ => rfl,
    bd_NoConstantD_initD := F_NoConstantD_initD.bindsN fun _ _ _ _ _ _ us hl => match us, hl with | [_, _], _ => rfl,
    bd_NoPlaceD_initD := F_NoPlaceD_initD.bindsN fun _ _ _ _ _ _ us hl => match us, hl with | [_, _], _ => rfl,
    bd_NoStepD_initD := F_NoStepD_initD.bindsN fun _ _ _ _ _ _ us hl => match us, hl with | [_, _, _], _ => rfl,
    bd_NoWayD_initD := F_NoWayD_initD.bindsN fun _ _ _ _ _ _ us hl => match us, hl with | [_, _], _ => rfl,
    bd_NotAlikeD_initD := F_NotAlikeD_initD.bindsN fun _ _ _ _ _ _ us hl => match us, hl with | [_, _], _ => rfl,
    bd_NothingToUndoD_initD := F_NothingToUndoD_initD.bindsN fun _ _ _ _ _ _ us hl => match us, hl with | [_], _ => rfl,
    bd_SameWaysD_initD := F_SameWaysD_initD.bindsN fun _ _ _ _ _ _ us hl => match us, hl with | [_], _ => rfl,
    bd_UnknownNameD_initD := F_UnknownNameD_initD.bindsN fun _ _ _ _ _ _ us hl => match us, hl with | [_, _], _ => rfl,
    bd_l_fields := F_l_fields.bindsN fun _ _ _ _ _ _ us hl => match us, hl with | [_, _], _ => rfl,
    bd_l_flags := F_l_flags.bindsN fun _ _ _ _ _ _ us hl => match us, hl with | [_], _ => rfl,
    g_Alike := g_Alike,
    g_BadFold := g_BadFold,
    g_BadPlan := g_BadPlan,
    g_BadRule := g_BadRule,
    g_BadTable := g_BadTable,
    g_NoConstant := g_NoConstant,
    g_NoPlace := g_NoPlace,
    g_NoStep := g_NoStep,
    g_NoWay := g_NoWay,
    g_NotAlike := g_NotAlike,
    g_NothingToUndo := g_NothingToUndo,
    g_SameWays := g_SameWays,
    g_UnknownName := g_UnknownName,
    g_WayError := g_WayError,
    bx_WayError := ⟨br_WayError, bg_WayError, bv_WayError⟩,
    ex_Alike := ⟨g_Alike, oexC_mk xl_Alike xr_Alike xs_Alike xe_Alike xt_Alike xk_Alike, a_AlikeD_initD, xi_Alike, (na_cons xn_Alike_rules na_nil)⟩,
    ex_BadFold := ⟨g_BadFold, oexC_mk xl_BadFold xr_BadFold xs_BadFold xe_BadFold xt_BadFold xk_BadFold, a_BadFoldD_initD, xi_BadFold, (na_cons xn_BadFold_kind na_nil)⟩,
    ex_BadPlan := ⟨g_BadPlan, oexC_mk xl_BadPlan xr_BadPlan xs_BadPlan xe_BadPlan xt_BadPlan xk_BadPlan, a_BadPlanD_initD, xi_BadPlan, (na_cons xn_BadPlan_at na_nil)⟩,
    ex_BadRule := ⟨g_BadRule, oexC_mk xl_BadRule xr_BadRule xs_BadRule xe_BadRule xt_BadRule xk_BadRule, a_BadRuleD_initD, xi_BadRule, (na_cons xn_BadRule_letter na_nil)⟩,
    ex_BadTable := ⟨g_BadTable, oexC_mk xl_BadTable xr_BadTable xs_BadTable xe_BadTable xt_BadTable xk_BadTable, a_BadTableD_initD, xi_BadTable, (na_cons xn_BadTable_at na_nil)⟩,
    ex_NoConstant := ⟨g_NoConstant, oexC_mk xl_NoConstant xr_NoConstant xs_NoConstant xe_NoConstant xt_NoConstant xk_NoConstant, a_NoConstantD_initD, xi_NoConstant, (na_cons xn_NoConstant_name na_nil)⟩,
    ex_NoPlace := ⟨g_NoPlace, oexC_mk xl_NoPlace xr_NoPlace xs_NoPlace xe_NoPlace xt_NoPlace xk_NoPlace, a_NoPlaceD_initD, xi_NoPlace, (na_cons xn_NoPlace_path na_nil)⟩,
    ex_NoStep := ⟨g_NoStep, oexC_mk xl_NoStep xr_NoStep xs_NoStep xe_NoStep xt_NoStep xk_NoStep, a_NoStepD_initD, xi_NoStep, (na_cons xn_NoStep_rule (na_cons xn_NoStep_path na_nil))⟩,
    ex_NoWay := ⟨g_NoWay, oexC_mk xl_NoWay xr_NoWay xs_NoWay xe_NoWay xt_NoWay xk_NoWay, a_NoWayD_initD, xi_NoWay, (na_cons xn_NoWay_at na_nil)⟩,
    ex_NotAlike := ⟨g_NotAlike, oexC_mk xl_NotAlike xr_NotAlike xs_NotAlike xe_NotAlike xt_NotAlike xk_NotAlike, a_NotAlikeD_initD, xi_NotAlike, (na_cons xn_NotAlike_rules na_nil)⟩,
    ex_NothingToUndo := ⟨g_NothingToUndo, oexC_mk xl_NothingToUndo xr_NothingToUndo xs_NothingToUndo xe_NothingToUndo xt_NothingToUndo xk_NothingToUndo, a_NothingToUndoD_initD, xi_NothingToUndo, na_nil⟩,
    ex_SameWays := ⟨g_SameWays, oexC_mk xl_SameWays xr_SameWays xs_SameWays xe_SameWays xt_SameWays xk_SameWays, a_SameWaysD_initD, xi_SameWays, na_nil⟩,
    ex_UnknownName := ⟨g_UnknownName, oexC_mk xl_UnknownName xr_UnknownName xs_UnknownName xe_UnknownName xt_UnknownName xk_UnknownName, a_UnknownNameD_initD, xi_UnknownName, (na_cons xn_UnknownName_name na_nil)⟩,
    xm_WayError := (exmL_cons g_Alike (exm_own xe_WayError cf_WayError ct_WayError xm_WayError_Alike) (exmL_cons g_BadFold (exm_own xe_WayError cf_WayError ct_WayError xm_WayError_BadFold) (exmL_cons g_BadPlan (exm_own xe_WayError cf_WayError ct_WayError xm_WayError_BadPlan) (exmL_cons g_BadRule (exm_own xe_WayError cf_WayError ct_WayError xm_WayError_BadRule) (exmL_cons g_BadTable (exm_own xe_WayError cf_WayError ct_WayError xm_WayError_BadTable) (exmL_cons g_NoConstant (exm_own xe_WayError cf_WayError ct_WayError xm_WayError_NoConstant) (exmL_cons g_NoPlace (exm_own xe_WayError cf_WayError ct_WayError xm_WayError_NoPlace) (exmL_cons g_NoStep (exm_own xe_WayError cf_WayError ct_WayError xm_WayError_NoStep) (exmL_cons g_NoWay (exm_own xe_WayError cf_WayError ct_WayError xm_WayError_NoWay) (exmL_cons g_NotAlike (exm_own xe_WayError cf_WayError ct_WayError xm_WayError_NotAlike) (exmL_cons g_NothingToUndo (exm_own xe_WayError cf_WayError ct_WayError xm_WayError_NothingToUndo) (exmL_cons g_SameWays (exm_own xe_WayError cf_WayError ct_WayError xm_WayError_SameWays) (exmL_cons g_UnknownName (exm_own xe_WayError cf_WayError ct_WayError xm_WayError_UnknownName) exmL_nil))))))))))))),
    hot := (hotT_cons g_Alike (hotC_mk ⟨xg_Alike, xh_Alike, xe_Alike, xd_Alike, oha_Alike, ohn, otk, mo_Alike⟩ (hotF_cons xn_Alike_at (hotF_cons xn_Alike_kind (hotF_cons xn_Alike_letter (hotF_cons xn_Alike_name (hotF_cons xn_Alike_path (hotF_cons xn_Alike_rule (hotF_cons xn_Alike_rules hotF_nil))))))) (hotQ_cons g_Alike (by decide) (kit_own (.inr rfl) cf_Alike ct_Alike is_Alike_Alike) (hotQ_cons g_BadFold (by decide) (kit_own (.inl kne_Alike_BadFold) cf_BadFold ct_BadFold is_Alike_BadFold) (hotQ_cons g_BadPlan (by decide) (kit_own (.inl kne_Alike_BadPlan) cf_BadPlan ct_BadPlan is_Alike_BadPlan) (hotQ_cons g_BadRule (by decide) (kit_own (.inl kne_Alike_BadRule) cf_BadRule ct_BadRule is_Alike_BadRule) (hotQ_cons g_BadTable (by decide) (kit_own (.inl kne_Alike_BadTable) cf_BadTable ct_BadTable is_Alike_BadTable) (hotQ_cons g_NoConstant (by decide) (kit_own (.inl kne_Alike_NoConstant) cf_NoConstant ct_NoConstant is_Alike_NoConstant) (hotQ_cons g_NoPlace (by decide) (kit_own (.inl kne_Alike_NoPlace) cf_NoPlace ct_NoPlace is_Alike_NoPlace) (hotQ_cons g_NoStep (by decide) (kit_own (.inl kne_Alike_NoStep) cf_NoStep ct_NoStep is_Alike_NoStep) (hotQ_cons g_NoWay (by decide) (kit_own (.inl kne_Alike_NoWay) cf_NoWay ct_NoWay is_Alike_NoWay) (hotQ_cons g_NotAlike (by decide) (kit_own (.inl kne_Alike_NotAlike) cf_NotAlike ct_NotAlike is_Alike_NotAlike) (hotQ_cons g_NothingToUndo (by decide) (kit_own (.inl kne_Alike_NothingToUndo) cf_NothingToUndo ct_NothingToUndo is_Alike_NothingToUndo) (hotQ_cons g_SameWays (by decide) (kit_own (.inl kne_Alike_SameWays) cf_SameWays ct_SameWays is_Alike_SameWays) (hotQ_cons g_UnknownName (by decide) (kit_own (.inl kne_Alike_UnknownName) cf_UnknownName ct_UnknownName is_Alike_UnknownName) hotQ_nil))))))))))))) (kit_bt km_ve iv_Alike)) (hotT_cons g_BadFold (hotC_mk ⟨xg_BadFold, xh_BadFold, xe_BadFold, xd_BadFold, oha_BadFold, ohn, otk, mo_BadFold⟩ (hotF_cons xn_BadFold_at (hotF_cons xn_BadFold_kind (hotF_cons xn_BadFold_letter (hotF_cons xn_BadFold_name (hotF_cons xn_BadFold_path (hotF_cons xn_BadFold_rule (hotF_cons xn_BadFold_rules hotF_nil))))))) (hotQ_cons g_Alike (by decide) (kit_own (.inl kne_BadFold_Alike) cf_Alike ct_Alike is_BadFold_Alike) (hotQ_cons g_BadFold (by decide) (kit_own (.inr rfl) cf_BadFold ct_BadFold is_BadFold_BadFold) (hotQ_cons g_BadPlan (by decide) (kit_own (.inl kne_BadFold_BadPlan) cf_BadPlan ct_BadPlan is_BadFold_BadPlan) (hotQ_cons g_BadRule (by decide) (kit_own (.inl kne_BadFold_BadRule) cf_BadRule ct_BadRule is_BadFold_BadRule) (hotQ_cons g_BadTable (by decide) (kit_own (.inl kne_BadFold_BadTable) cf_BadTable ct_BadTable is_BadFold_BadTable) (hotQ_cons g_NoConstant (by decide) (kit_own (.inl kne_BadFold_NoConstant) cf_NoConstant ct_NoConstant is_BadFold_NoConstant) (hotQ_cons g_NoPlace (by decide) (kit_own (.inl kne_BadFold_NoPlace) cf_NoPlace ct_NoPlace is_BadFold_NoPlace) (hotQ_cons g_NoStep (by decide) (kit_own (.inl kne_BadFold_NoStep) cf_NoStep ct_NoStep is_BadFold_NoStep) (hotQ_cons g_NoWay (by decide) (kit_own (.inl kne_BadFold_NoWay) cf_NoWay ct_NoWay is_BadFold_NoWay) (hotQ_cons g_NotAlike (by decide) (kit_own (.inl kne_BadFold_NotAlike) cf_NotAlike ct_NotAlike is_BadFold_NotAlike) (hotQ_cons g_NothingToUndo (by decide) (kit_own (.inl kne_BadFold_NothingToUndo) cf_NothingToUndo ct_NothingToUndo is_BadFold_NothingToUndo) (hotQ_cons g_SameWays (by decide) (kit_own (.inl kne_BadFold_SameWays) cf_SameWays ct_SameWays is_BadFold_SameWays) (hotQ_cons g_UnknownName (by decide) (kit_own (.inl kne_BadFold_UnknownName) cf_UnknownName ct_UnknownName is_BadFold_UnknownName) hotQ_nil))))))))))))) (kit_bt km_ve iv_BadFold)) (hotT_cons g_BadPlan (hotC_mk ⟨xg_BadPlan, xh_BadPlan, xe_BadPlan, xd_BadPlan, oha_BadPlan, ohn, otk, mo_BadPlan⟩ (hotF_cons xn_BadPlan_at (hotF_cons xn_BadPlan_kind (hotF_cons xn_BadPlan_letter (hotF_cons xn_BadPlan_name (hotF_cons xn_BadPlan_path (hotF_cons xn_BadPlan_rule (hotF_cons xn_BadPlan_rules hotF_nil))))))) (hotQ_cons g_Alike (by decide) (kit_own (.inl kne_BadPlan_Alike) cf_Alike ct_Alike is_BadPlan_Alike) (hotQ_cons g_BadFold (by decide) (kit_own (.inl kne_BadPlan_BadFold) cf_BadFold ct_BadFold is_BadPlan_BadFold) (hotQ_cons g_BadPlan (by decide) (kit_own (.inr rfl) cf_BadPlan ct_BadPlan is_BadPlan_BadPlan) (hotQ_cons g_BadRule (by decide) (kit_own (.inl kne_BadPlan_BadRule) cf_BadRule ct_BadRule is_BadPlan_BadRule) (hotQ_cons g_BadTable (by decide) (kit_own (.inl kne_BadPlan_BadTable) cf_BadTable ct_BadTable is_BadPlan_BadTable) (hotQ_cons g_NoConstant (by decide) (kit_own (.inl kne_BadPlan_NoConstant) cf_NoConstant ct_NoConstant is_BadPlan_NoConstant) (hotQ_cons g_NoPlace (by decide) (kit_own (.inl kne_BadPlan_NoPlace) cf_NoPlace ct_NoPlace is_BadPlan_NoPlace) (hotQ_cons g_NoStep (by decide) (kit_own (.inl kne_BadPlan_NoStep) cf_NoStep ct_NoStep is_BadPlan_NoStep) (hotQ_cons g_NoWay (by decide) (kit_own (.inl kne_BadPlan_NoWay) cf_NoWay ct_NoWay is_BadPlan_NoWay) (hotQ_cons g_NotAlike (by decide) (kit_own (.inl kne_BadPlan_NotAlike) cf_NotAlike ct_NotAlike is_BadPlan_NotAlike) (hotQ_cons g_NothingToUndo (by decide) (kit_own (.inl kne_BadPlan_NothingToUndo) cf_NothingToUndo ct_NothingToUndo is_BadPlan_NothingToUndo) (hotQ_cons g_SameWays (by decide) (kit_own (.inl kne_BadPlan_SameWays) cf_SameWays ct_SameWays is_BadPlan_SameWays) (hotQ_cons g_UnknownName (by decide) (kit_own (.inl kne_BadPlan_UnknownName) cf_UnknownName ct_UnknownName is_BadPlan_UnknownName) hotQ_nil))))))))))))) (kit_bt km_ve iv_BadPlan)) (hotT_cons g_BadRule (hotC_mk ⟨xg_BadRule, xh_BadRule, xe_BadRule, xd_BadRule, oha_BadRule, ohn, otk, mo_BadRule⟩ (hotF_cons xn_BadRule_at (hotF_cons xn_BadRule_kind (hotF_cons xn_BadRule_letter (hotF_cons xn_BadRule_name (hotF_cons xn_BadRule_path (hotF_cons xn_BadRule_rule (hotF_cons xn_BadRule_rules hotF_nil))))))) (hotQ_cons g_Alike (by decide) (kit_own (.inl kne_BadRule_Alike) cf_Alike ct_Alike is_BadRule_Alike) (hotQ_cons g_BadFold (by decide) (kit_own (.inl kne_BadRule_BadFold) cf_BadFold ct_BadFold is_BadRule_BadFold) (hotQ_cons g_BadPlan (by decide) (kit_own (.inl kne_BadRule_BadPlan) cf_BadPlan ct_BadPlan is_BadRule_BadPlan) (hotQ_cons g_BadRule (by decide) (kit_own (.inr rfl) cf_BadRule ct_BadRule is_BadRule_BadRule) (hotQ_cons g_BadTable (by decide) (kit_own (.inl kne_BadRule_BadTable) cf_BadTable ct_BadTable is_BadRule_BadTable) (hotQ_cons g_NoConstant (by decide) (kit_own (.inl kne_BadRule_NoConstant) cf_NoConstant ct_NoConstant is_BadRule_NoConstant) (hotQ_cons g_NoPlace (by decide) (kit_own (.inl kne_BadRule_NoPlace) cf_NoPlace ct_NoPlace is_BadRule_NoPlace) (hotQ_cons g_NoStep (by decide) (kit_own (.inl kne_BadRule_NoStep) cf_NoStep ct_NoStep is_BadRule_NoStep) (hotQ_cons g_NoWay (by decide) (kit_own (.inl kne_BadRule_NoWay) cf_NoWay ct_NoWay is_BadRule_NoWay) (hotQ_cons g_NotAlike (by decide) (kit_own (.inl kne_BadRule_NotAlike) cf_NotAlike ct_NotAlike is_BadRule_NotAlike) (hotQ_cons g_NothingToUndo (by decide) (kit_own (.inl kne_BadRule_NothingToUndo) cf_NothingToUndo ct_NothingToUndo is_BadRule_NothingToUndo) (hotQ_cons g_SameWays (by decide) (kit_own (.inl kne_BadRule_SameWays) cf_SameWays ct_SameWays is_BadRule_SameWays) (hotQ_cons g_UnknownName (by decide) (kit_own (.inl kne_BadRule_UnknownName) cf_UnknownName ct_UnknownName is_BadRule_UnknownName) hotQ_nil))))))))))))) (kit_bt km_ve iv_BadRule)) (hotT_cons g_BadTable (hotC_mk ⟨xg_BadTable, xh_BadTable, xe_BadTable, xd_BadTable, oha_BadTable, ohn, otk, mo_BadTable⟩ (hotF_cons xn_BadTable_at (hotF_cons xn_BadTable_kind (hotF_cons xn_BadTable_letter (hotF_cons xn_BadTable_name (hotF_cons xn_BadTable_path (hotF_cons xn_BadTable_rule (hotF_cons xn_BadTable_rules hotF_nil))))))) (hotQ_cons g_Alike (by decide) (kit_own (.inl kne_BadTable_Alike) cf_Alike ct_Alike is_BadTable_Alike) (hotQ_cons g_BadFold (by decide) (kit_own (.inl kne_BadTable_BadFold) cf_BadFold ct_BadFold is_BadTable_BadFold) (hotQ_cons g_BadPlan (by decide) (kit_own (.inl kne_BadTable_BadPlan) cf_BadPlan ct_BadPlan is_BadTable_BadPlan) (hotQ_cons g_BadRule (by decide) (kit_own (.inl kne_BadTable_BadRule) cf_BadRule ct_BadRule is_BadTable_BadRule) (hotQ_cons g_BadTable (by decide) (kit_own (.inr rfl) cf_BadTable ct_BadTable is_BadTable_BadTable) (hotQ_cons g_NoConstant (by decide) (kit_own (.inl kne_BadTable_NoConstant) cf_NoConstant ct_NoConstant is_BadTable_NoConstant) (hotQ_cons g_NoPlace (by decide) (kit_own (.inl kne_BadTable_NoPlace) cf_NoPlace ct_NoPlace is_BadTable_NoPlace) (hotQ_cons g_NoStep (by decide) (kit_own (.inl kne_BadTable_NoStep) cf_NoStep ct_NoStep is_BadTable_NoStep) (hotQ_cons g_NoWay (by decide) (kit_own (.inl kne_BadTable_NoWay) cf_NoWay ct_NoWay is_BadTable_NoWay) (hotQ_cons g_NotAlike (by decide) (kit_own (.inl kne_BadTable_NotAlike) cf_NotAlike ct_NotAlike is_BadTable_NotAlike) (hotQ_cons g_NothingToUndo (by decide) (kit_own (.inl kne_BadTable_NothingToUndo) cf_NothingToUndo ct_NothingToUndo is_BadTable_NothingToUndo) (hotQ_cons g_SameWays (by decide) (kit_own (.inl kne_BadTable_SameWays) cf_SameWays ct_SameWays is_BadTable_SameWays) (hotQ_cons g_UnknownName (by decide) (kit_own (.inl kne_BadTable_UnknownName) cf_UnknownName ct_UnknownName is_BadTable_UnknownName) hotQ_nil))))))))))))) (kit_bt km_ve iv_BadTable)) (hotT_cons g_NoConstant (hotC_mk ⟨xg_NoConstant, xh_NoConstant, xe_NoConstant, xd_NoConstant, oha_NoConstant, ohn, otk, mo_NoConstant⟩ (hotF_cons xn_NoConstant_at (hotF_cons xn_NoConstant_kind (hotF_cons xn_NoConstant_letter (hotF_cons xn_NoConstant_name (hotF_cons xn_NoConstant_path (hotF_cons xn_NoConstant_rule (hotF_cons xn_NoConstant_rules hotF_nil))))))) (hotQ_cons g_Alike (by decide) (kit_own (.inl kne_NoConstant_Alike) cf_Alike ct_Alike is_NoConstant_Alike) (hotQ_cons g_BadFold (by decide) (kit_own (.inl kne_NoConstant_BadFold) cf_BadFold ct_BadFold is_NoConstant_BadFold) (hotQ_cons g_BadPlan (by decide) (kit_own (.inl kne_NoConstant_BadPlan) cf_BadPlan ct_BadPlan is_NoConstant_BadPlan) (hotQ_cons g_BadRule (by decide) (kit_own (.inl kne_NoConstant_BadRule) cf_BadRule ct_BadRule is_NoConstant_BadRule) (hotQ_cons g_BadTable (by decide) (kit_own (.inl kne_NoConstant_BadTable) cf_BadTable ct_BadTable is_NoConstant_BadTable) (hotQ_cons g_NoConstant (by decide) (kit_own (.inr rfl) cf_NoConstant ct_NoConstant is_NoConstant_NoConstant) (hotQ_cons g_NoPlace (by decide) (kit_own (.inl kne_NoConstant_NoPlace) cf_NoPlace ct_NoPlace is_NoConstant_NoPlace) (hotQ_cons g_NoStep (by decide) (kit_own (.inl kne_NoConstant_NoStep) cf_NoStep ct_NoStep is_NoConstant_NoStep) (hotQ_cons g_NoWay (by decide) (kit_own (.inl kne_NoConstant_NoWay) cf_NoWay ct_NoWay is_NoConstant_NoWay) (hotQ_cons g_NotAlike (by decide) (kit_own (.inl kne_NoConstant_NotAlike) cf_NotAlike ct_NotAlike is_NoConstant_NotAlike) (hotQ_cons g_NothingToUndo (by decide) (kit_own (.inl kne_NoConstant_NothingToUndo) cf_NothingToUndo ct_NothingToUndo is_NoConstant_NothingToUndo) (hotQ_cons g_SameWays (by decide) (kit_own (.inl kne_NoConstant_SameWays) cf_SameWays ct_SameWays is_NoConstant_SameWays) (hotQ_cons g_UnknownName (by decide) (kit_own (.inl kne_NoConstant_UnknownName) cf_UnknownName ct_UnknownName is_NoConstant_UnknownName) hotQ_nil))))))))))))) (kit_bt km_ve iv_NoConstant)) (hotT_cons g_NoPlace (hotC_mk ⟨xg_NoPlace, xh_NoPlace, xe_NoPlace, xd_NoPlace, oha_NoPlace, ohn, otk, mo_NoPlace⟩ (hotF_cons xn_NoPlace_at (hotF_cons xn_NoPlace_kind (hotF_cons xn_NoPlace_letter (hotF_cons xn_NoPlace_name (hotF_cons xn_NoPlace_path (hotF_cons xn_NoPlace_rule (hotF_cons xn_NoPlace_rules hotF_nil))))))) (hotQ_cons g_Alike (by decide) (kit_own (.inl kne_NoPlace_Alike) cf_Alike ct_Alike is_NoPlace_Alike) (hotQ_cons g_BadFold (by decide) (kit_own (.inl kne_NoPlace_BadFold) cf_BadFold ct_BadFold is_NoPlace_BadFold) (hotQ_cons g_BadPlan (by decide) (kit_own (.inl kne_NoPlace_BadPlan) cf_BadPlan ct_BadPlan is_NoPlace_BadPlan) (hotQ_cons g_BadRule (by decide) (kit_own (.inl kne_NoPlace_BadRule) cf_BadRule ct_BadRule is_NoPlace_BadRule) (hotQ_cons g_BadTable (by decide) (kit_own (.inl kne_NoPlace_BadTable) cf_BadTable ct_BadTable is_NoPlace_BadTable) (hotQ_cons g_NoConstant (by decide) (kit_own (.inl kne_NoPlace_NoConstant) cf_NoConstant ct_NoConstant is_NoPlace_NoConstant) (hotQ_cons g_NoPlace (by decide) (kit_own (.inr rfl) cf_NoPlace ct_NoPlace is_NoPlace_NoPlace) (hotQ_cons g_NoStep (by decide) (kit_own (.inl kne_NoPlace_NoStep) cf_NoStep ct_NoStep is_NoPlace_NoStep) (hotQ_cons g_NoWay (by decide) (kit_own (.inl kne_NoPlace_NoWay) cf_NoWay ct_NoWay is_NoPlace_NoWay) (hotQ_cons g_NotAlike (by decide) (kit_own (.inl kne_NoPlace_NotAlike) cf_NotAlike ct_NotAlike is_NoPlace_NotAlike) (hotQ_cons g_NothingToUndo (by decide) (kit_own (.inl kne_NoPlace_NothingToUndo) cf_NothingToUndo ct_NothingToUndo is_NoPlace_NothingToUndo) (hotQ_cons g_SameWays (by decide) (kit_own (.inl kne_NoPlace_SameWays) cf_SameWays ct_SameWays is_NoPlace_SameWays) (hotQ_cons g_UnknownName (by decide) (kit_own (.inl kne_NoPlace_UnknownName) cf_UnknownName ct_UnknownName is_NoPlace_UnknownName) hotQ_nil))))))))))))) (kit_bt km_ve iv_NoPlace)) (hotT_cons g_NoStep (hotC_mk ⟨xg_NoStep, xh_NoStep, xe_NoStep, xd_NoStep, oha_NoStep, ohn, otk, mo_NoStep⟩ (hotF_cons xn_NoStep_at (hotF_cons xn_NoStep_kind (hotF_cons xn_NoStep_letter (hotF_cons xn_NoStep_name (hotF_cons xn_NoStep_path (hotF_cons xn_NoStep_rule (hotF_cons xn_NoStep_rules hotF_nil))))))) (hotQ_cons g_Alike (by decide) (kit_own (.inl kne_NoStep_Alike) cf_Alike ct_Alike is_NoStep_Alike) (hotQ_cons g_BadFold (by decide) (kit_own (.inl kne_NoStep_BadFold) cf_BadFold ct_BadFold is_NoStep_BadFold) (hotQ_cons g_BadPlan (by decide) (kit_own (.inl kne_NoStep_BadPlan) cf_BadPlan ct_BadPlan is_NoStep_BadPlan) (hotQ_cons g_BadRule (by decide) (kit_own (.inl kne_NoStep_BadRule) cf_BadRule ct_BadRule is_NoStep_BadRule) (hotQ_cons g_BadTable (by decide) (kit_own (.inl kne_NoStep_BadTable) cf_BadTable ct_BadTable is_NoStep_BadTable) (hotQ_cons g_NoConstant (by decide) (kit_own (.inl kne_NoStep_NoConstant) cf_NoConstant ct_NoConstant is_NoStep_NoConstant) (hotQ_cons g_NoPlace (by decide) (kit_own (.inl kne_NoStep_NoPlace) cf_NoPlace ct_NoPlace is_NoStep_NoPlace) (hotQ_cons g_NoStep (by decide) (kit_own (.inr rfl) cf_NoStep ct_NoStep is_NoStep_NoStep) (hotQ_cons g_NoWay (by decide) (kit_own (.inl kne_NoStep_NoWay) cf_NoWay ct_NoWay is_NoStep_NoWay) (hotQ_cons g_NotAlike (by decide) (kit_own (.inl kne_NoStep_NotAlike) cf_NotAlike ct_NotAlike is_NoStep_NotAlike) (hotQ_cons g_NothingToUndo (by decide) (kit_own (.inl kne_NoStep_NothingToUndo) cf_NothingToUndo ct_NothingToUndo is_NoStep_NothingToUndo) (hotQ_cons g_SameWays (by decide) (kit_own (.inl kne_NoStep_SameWays) cf_SameWays ct_SameWays is_NoStep_SameWays) (hotQ_cons g_UnknownName (by decide) (kit_own (.inl kne_NoStep_UnknownName) cf_UnknownName ct_UnknownName is_NoStep_UnknownName) hotQ_nil))))))))))))) (kit_bt km_ve iv_NoStep)) (hotT_cons g_NoWay (hotC_mk ⟨xg_NoWay, xh_NoWay, xe_NoWay, xd_NoWay, oha_NoWay, ohn, otk, mo_NoWay⟩ (hotF_cons xn_NoWay_at (hotF_cons xn_NoWay_kind (hotF_cons xn_NoWay_letter (hotF_cons xn_NoWay_name (hotF_cons xn_NoWay_path (hotF_cons xn_NoWay_rule (hotF_cons xn_NoWay_rules hotF_nil))))))) (hotQ_cons g_Alike (by decide) (kit_own (.inl kne_NoWay_Alike) cf_Alike ct_Alike is_NoWay_Alike) (hotQ_cons g_BadFold (by decide) (kit_own (.inl kne_NoWay_BadFold) cf_BadFold ct_BadFold is_NoWay_BadFold) (hotQ_cons g_BadPlan (by decide) (kit_own (.inl kne_NoWay_BadPlan) cf_BadPlan ct_BadPlan is_NoWay_BadPlan) (hotQ_cons g_BadRule (by decide) (kit_own (.inl kne_NoWay_BadRule) cf_BadRule ct_BadRule is_NoWay_BadRule) (hotQ_cons g_BadTable (by decide) (kit_own (.inl kne_NoWay_BadTable) cf_BadTable ct_BadTable is_NoWay_BadTable) (hotQ_cons g_NoConstant (by decide) (kit_own (.inl kne_NoWay_NoConstant) cf_NoConstant ct_NoConstant is_NoWay_NoConstant) (hotQ_cons g_NoPlace (by decide) (kit_own (.inl kne_NoWay_NoPlace) cf_NoPlace ct_NoPlace is_NoWay_NoPlace) (hotQ_cons g_NoStep (by decide) (kit_own (.inl kne_NoWay_NoStep) cf_NoStep ct_NoStep is_NoWay_NoStep) (hotQ_cons g_NoWay (by decide) (kit_own (.inr rfl) cf_NoWay ct_NoWay is_NoWay_NoWay) (hotQ_cons g_NotAlike (by decide) (kit_own (.inl kne_NoWay_NotAlike) cf_NotAlike ct_NotAlike is_NoWay_NotAlike) (hotQ_cons g_NothingToUndo (by decide) (kit_own (.inl kne_NoWay_NothingToUndo) cf_NothingToUndo ct_NothingToUndo is_NoWay_NothingToUndo) (hotQ_cons g_SameWays (by decide) (kit_own (.inl kne_NoWay_SameWays) cf_SameWays ct_SameWays is_NoWay_SameWays) (hotQ_cons g_UnknownName (by decide) (kit_own (.inl kne_NoWay_UnknownName) cf_UnknownName ct_UnknownName is_NoWay_UnknownName) hotQ_nil))))))))))))) (kit_bt km_ve iv_NoWay)) (hotT_cons g_NotAlike (hotC_mk ⟨xg_NotAlike, xh_NotAlike, xe_NotAlike, xd_NotAlike, oha_NotAlike, ohn, otk, mo_NotAlike⟩ (hotF_cons xn_NotAlike_at (hotF_cons xn_NotAlike_kind (hotF_cons xn_NotAlike_letter (hotF_cons xn_NotAlike_name (hotF_cons xn_NotAlike_path (hotF_cons xn_NotAlike_rule (hotF_cons xn_NotAlike_rules hotF_nil))))))) (hotQ_cons g_Alike (by decide) (kit_own (.inl kne_NotAlike_Alike) cf_Alike ct_Alike is_NotAlike_Alike) (hotQ_cons g_BadFold (by decide) (kit_own (.inl kne_NotAlike_BadFold) cf_BadFold ct_BadFold is_NotAlike_BadFold) (hotQ_cons g_BadPlan (by decide) (kit_own (.inl kne_NotAlike_BadPlan) cf_BadPlan ct_BadPlan is_NotAlike_BadPlan) (hotQ_cons g_BadRule (by decide) (kit_own (.inl kne_NotAlike_BadRule) cf_BadRule ct_BadRule is_NotAlike_BadRule) (hotQ_cons g_BadTable (by decide) (kit_own (.inl kne_NotAlike_BadTable) cf_BadTable ct_BadTable is_NotAlike_BadTable) (hotQ_cons g_NoConstant (by decide) (kit_own (.inl kne_NotAlike_NoConstant) cf_NoConstant ct_NoConstant is_NotAlike_NoConstant) (hotQ_cons g_NoPlace (by decide) (kit_own (.inl kne_NotAlike_NoPlace) cf_NoPlace ct_NoPlace is_NotAlike_NoPlace) (hotQ_cons g_NoStep (by decide) (kit_own (.inl kne_NotAlike_NoStep) cf_NoStep ct_NoStep is_NotAlike_NoStep) (hotQ_cons g_NoWay (by decide) (kit_own (.inl kne_NotAlike_NoWay) cf_NoWay ct_NoWay is_NotAlike_NoWay) (hotQ_cons g_NotAlike (by decide) (kit_own (.inr rfl) cf_NotAlike ct_NotAlike is_NotAlike_NotAlike) (hotQ_cons g_NothingToUndo (by decide) (kit_own (.inl kne_NotAlike_NothingToUndo) cf_NothingToUndo ct_NothingToUndo is_NotAlike_NothingToUndo) (hotQ_cons g_SameWays (by decide) (kit_own (.inl kne_NotAlike_SameWays) cf_SameWays ct_SameWays is_NotAlike_SameWays) (hotQ_cons g_UnknownName (by decide) (kit_own (.inl kne_NotAlike_UnknownName) cf_UnknownName ct_UnknownName is_NotAlike_UnknownName) hotQ_nil))))))))))))) (kit_bt km_ve iv_NotAlike)) (hotT_cons g_NothingToUndo (hotC_mk ⟨xg_NothingToUndo, xh_NothingToUndo, xe_NothingToUndo, xd_NothingToUndo, oha_NothingToUndo, ohn, otk, mo_NothingToUndo⟩ (hotF_cons xn_NothingToUndo_at (hotF_cons xn_NothingToUndo_kind (hotF_cons xn_NothingToUndo_letter (hotF_cons xn_NothingToUndo_name (hotF_cons xn_NothingToUndo_path (hotF_cons xn_NothingToUndo_rule (hotF_cons xn_NothingToUndo_rules hotF_nil))))))) (hotQ_cons g_Alike (by decide) (kit_own (.inl kne_NothingToUndo_Alike) cf_Alike ct_Alike is_NothingToUndo_Alike) (hotQ_cons g_BadFold (by decide) (kit_own (.inl kne_NothingToUndo_BadFold) cf_BadFold ct_BadFold is_NothingToUndo_BadFold) (hotQ_cons g_BadPlan (by decide) (kit_own (.inl kne_NothingToUndo_BadPlan) cf_BadPlan ct_BadPlan is_NothingToUndo_BadPlan) (hotQ_cons g_BadRule (by decide) (kit_own (.inl kne_NothingToUndo_BadRule) cf_BadRule ct_BadRule is_NothingToUndo_BadRule) (hotQ_cons g_BadTable (by decide) (kit_own (.inl kne_NothingToUndo_BadTable) cf_BadTable ct_BadTable is_NothingToUndo_BadTable) (hotQ_cons g_NoConstant (by decide) (kit_own (.inl kne_NothingToUndo_NoConstant) cf_NoConstant ct_NoConstant is_NothingToUndo_NoConstant) (hotQ_cons g_NoPlace (by decide) (kit_own (.inl kne_NothingToUndo_NoPlace) cf_NoPlace ct_NoPlace is_NothingToUndo_NoPlace) (hotQ_cons g_NoStep (by decide) (kit_own (.inl kne_NothingToUndo_NoStep) cf_NoStep ct_NoStep is_NothingToUndo_NoStep) (hotQ_cons g_NoWay (by decide) (kit_own (.inl kne_NothingToUndo_NoWay) cf_NoWay ct_NoWay is_NothingToUndo_NoWay) (hotQ_cons g_NotAlike (by decide) (kit_own (.inl kne_NothingToUndo_NotAlike) cf_NotAlike ct_NotAlike is_NothingToUndo_NotAlike) (hotQ_cons g_NothingToUndo (by decide) (kit_own (.inr rfl) cf_NothingToUndo ct_NothingToUndo is_NothingToUndo_NothingToUndo) (hotQ_cons g_SameWays (by decide) (kit_own (.inl kne_NothingToUndo_SameWays) cf_SameWays ct_SameWays is_NothingToUndo_SameWays) (hotQ_cons g_UnknownName (by decide) (kit_own (.inl kne_NothingToUndo_UnknownName) cf_UnknownName ct_UnknownName is_NothingToUndo_UnknownName) hotQ_nil))))))))))))) (kit_bt km_ve iv_NothingToUndo)) (hotT_cons g_SameWays (hotC_mk ⟨xg_SameWays, xh_SameWays, xe_SameWays, xd_SameWays, oha_SameWays, ohn, otk, mo_SameWays⟩ (hotF_cons xn_SameWays_at (hotF_cons xn_SameWays_kind (hotF_cons xn_SameWays_letter (hotF_cons xn_SameWays_name (hotF_cons xn_SameWays_path (hotF_cons xn_SameWays_rule (hotF_cons xn_SameWays_rules hotF_nil))))))) (hotQ_cons g_Alike (by decide) (kit_own (.inl kne_SameWays_Alike) cf_Alike ct_Alike is_SameWays_Alike) (hotQ_cons g_BadFold (by decide) (kit_own (.inl kne_SameWays_BadFold) cf_BadFold ct_BadFold is_SameWays_BadFold) (hotQ_cons g_BadPlan (by decide) (kit_own (.inl kne_SameWays_BadPlan) cf_BadPlan ct_BadPlan is_SameWays_BadPlan) (hotQ_cons g_BadRule (by decide) (kit_own (.inl kne_SameWays_BadRule) cf_BadRule ct_BadRule is_SameWays_BadRule) (hotQ_cons g_BadTable (by decide) (kit_own (.inl kne_SameWays_BadTable) cf_BadTable ct_BadTable is_SameWays_BadTable) (hotQ_cons g_NoConstant (by decide) (kit_own (.inl kne_SameWays_NoConstant) cf_NoConstant ct_NoConstant is_SameWays_NoConstant) (hotQ_cons g_NoPlace (by decide) (kit_own (.inl kne_SameWays_NoPlace) cf_NoPlace ct_NoPlace is_SameWays_NoPlace) (hotQ_cons g_NoStep (by decide) (kit_own (.inl kne_SameWays_NoStep) cf_NoStep ct_NoStep is_SameWays_NoStep) (hotQ_cons g_NoWay (by decide) (kit_own (.inl kne_SameWays_NoWay) cf_NoWay ct_NoWay is_SameWays_NoWay) (hotQ_cons g_NotAlike (by decide) (kit_own (.inl kne_SameWays_NotAlike) cf_NotAlike ct_NotAlike is_SameWays_NotAlike) (hotQ_cons g_NothingToUndo (by decide) (kit_own (.inl kne_SameWays_NothingToUndo) cf_NothingToUndo ct_NothingToUndo is_SameWays_NothingToUndo) (hotQ_cons g_SameWays (by decide) (kit_own (.inr rfl) cf_SameWays ct_SameWays is_SameWays_SameWays) (hotQ_cons g_UnknownName (by decide) (kit_own (.inl kne_SameWays_UnknownName) cf_UnknownName ct_UnknownName is_SameWays_UnknownName) hotQ_nil))))))))))))) (kit_bt km_ve iv_SameWays)) (hotT_cons g_UnknownName (hotC_mk ⟨xg_UnknownName, xh_UnknownName, xe_UnknownName, xd_UnknownName, oha_UnknownName, ohn, otk, mo_UnknownName⟩ (hotF_cons xn_UnknownName_at (hotF_cons xn_UnknownName_kind (hotF_cons xn_UnknownName_letter (hotF_cons xn_UnknownName_name (hotF_cons xn_UnknownName_path (hotF_cons xn_UnknownName_rule (hotF_cons xn_UnknownName_rules hotF_nil))))))) (hotQ_cons g_Alike (by decide) (kit_own (.inl kne_UnknownName_Alike) cf_Alike ct_Alike is_UnknownName_Alike) (hotQ_cons g_BadFold (by decide) (kit_own (.inl kne_UnknownName_BadFold) cf_BadFold ct_BadFold is_UnknownName_BadFold) (hotQ_cons g_BadPlan (by decide) (kit_own (.inl kne_UnknownName_BadPlan) cf_BadPlan ct_BadPlan is_UnknownName_BadPlan) (hotQ_cons g_BadRule (by decide) (kit_own (.inl kne_UnknownName_BadRule) cf_BadRule ct_BadRule is_UnknownName_BadRule) (hotQ_cons g_BadTable (by decide) (kit_own (.inl kne_UnknownName_BadTable) cf_BadTable ct_BadTable is_UnknownName_BadTable) (hotQ_cons g_NoConstant (by decide) (kit_own (.inl kne_UnknownName_NoConstant) cf_NoConstant ct_NoConstant is_UnknownName_NoConstant) (hotQ_cons g_NoPlace (by decide) (kit_own (.inl kne_UnknownName_NoPlace) cf_NoPlace ct_NoPlace is_UnknownName_NoPlace) (hotQ_cons g_NoStep (by decide) (kit_own (.inl kne_UnknownName_NoStep) cf_NoStep ct_NoStep is_UnknownName_NoStep) (hotQ_cons g_NoWay (by decide) (kit_own (.inl kne_UnknownName_NoWay) cf_NoWay ct_NoWay is_UnknownName_NoWay) (hotQ_cons g_NotAlike (by decide) (kit_own (.inl kne_UnknownName_NotAlike) cf_NotAlike ct_NotAlike is_UnknownName_NotAlike) (hotQ_cons g_NothingToUndo (by decide) (kit_own (.inl kne_UnknownName_NothingToUndo) cf_NothingToUndo ct_NothingToUndo is_UnknownName_NothingToUndo) (hotQ_cons g_SameWays (by decide) (kit_own (.inl kne_UnknownName_SameWays) cf_SameWays ct_SameWays is_UnknownName_SameWays) (hotQ_cons g_UnknownName (by decide) (kit_own (.inr rfl) cf_UnknownName ct_UnknownName is_UnknownName_UnknownName) hotQ_nil))))))))))))) (kit_bt km_ve iv_UnknownName)) hotT_nil))))))))))))) }
  have b := FunD.bindsA (ps := ["_law_script"]) F_law fun _ _ _ _ _ _ us hl => match us, hl with | [_], _ => rfl
  exact ⟨_, fun s v => b s [v] rfl, fun base _ _ => dok_law (ok_law T) law_plain⟩
end Lk01
open PySem PySem.W PyProof.Rows
set_option maxRecDepth 100000 in
set_option maxHeartbeats 0 in
theorem PySem.Challenge.cw_neededlaws_k01_errors_by_class_holds : PySem.Challenge.rw_neededlaws_k01_errors_by_class.Holds := by
  w_on; o_law; k_head; (case hw => w_witness2)
  k_fill
  refine DL.walkD (l := PySem.Challenge.rw_neededlaws_k01_errors_by_class) "_law_script" 4 rfl rfl ⟨rfl, by decide, by decide⟩ (fun w h Y => by first | exact PySem.W.kIn_of Y | exact PySem.W.km_in_of Y) ?F
  case F =>
    intro w mg fa h KX G hmg
    refine' Lk01.facts KX G hmg ?aC_Alike ?aC_BadFold ?aC_BadPlan ?aC_BadRule ?aC_BadTable ?aC_NoConstant ?aC_NoPlace ?aC_NoStep ?aC_NoWay ?aC_NotAlike ?aC_NothingToUndo ?aC_SameWays ?aC_UnknownName ?aC_WayError ?a_l_draws ?l_l_draws ?c_l_draws ?k_l_draws ?a_l_cell ?l_l_cell ?c_l_cell ?k_l_cell ?a_NothingToUndoD_initD ?i_NothingToUndoD_initD ?l_NothingToUndoD_initD ?c_NothingToUndoD_initD ?k_NothingToUndoD_initD ?a_NoWayD_initD ?i_NoWayD_initD ?l_NoWayD_initD ?c_NoWayD_initD ?k_NoWayD_initD ?a_NoPlaceD_initD ?i_NoPlaceD_initD ?l_NoPlaceD_initD ?c_NoPlaceD_initD ?k_NoPlaceD_initD ?a_BadRuleD_initD ?i_BadRuleD_initD ?l_BadRuleD_initD ?c_BadRuleD_initD ?k_BadRuleD_initD ?a_NotAlikeD_initD ?i_NotAlikeD_initD ?l_NotAlikeD_initD ?c_NotAlikeD_initD ?k_NotAlikeD_initD ?a_AlikeD_initD ?i_AlikeD_initD ?l_AlikeD_initD ?c_AlikeD_initD ?k_AlikeD_initD ?a_BadTableD_initD ?i_BadTableD_initD ?l_BadTableD_initD ?c_BadTableD_initD ?k_BadTableD_initD ?a_UnknownNameD_initD ?i_UnknownNameD_initD ?l_UnknownNameD_initD ?c_UnknownNameD_initD ?k_UnknownNameD_initD ?a_NoConstantD_initD ?i_NoConstantD_initD ?l_NoConstantD_initD ?c_NoConstantD_initD ?k_NoConstantD_initD ?a_BadFoldD_initD ?i_BadFoldD_initD ?l_BadFoldD_initD ?c_BadFoldD_initD ?k_BadFoldD_initD ?a_NoStepD_initD ?i_NoStepD_initD ?l_NoStepD_initD ?c_NoStepD_initD ?k_NoStepD_initD ?a_SameWaysD_initD ?i_SameWaysD_initD ?l_SameWaysD_initD ?c_SameWaysD_initD ?k_SameWaysD_initD ?a_BadPlanD_initD ?i_BadPlanD_initD ?l_BadPlanD_initD ?c_BadPlanD_initD ?k_BadPlanD_initD ?a_l_raise ?l_l_raise ?c_l_raise ?k_l_raise ?a_l_flags ?l_l_flags ?c_l_flags ?k_l_flags ?a_l_fields ?l_l_fields ?c_l_fields ?k_l_fields ?a_law ?l_law ?c_law ?k_law ?br_WayError ?bg_WayError ?bv_WayError ?xl_Alike ?xr_Alike ?xs_Alike ?xe_Alike ?xt_Alike ?xk_Alike ?xi_Alike ?xn_Alike_rules ?xl_BadFold ?xr_BadFold ?xs_BadFold ?xe_BadFold ?xt_BadFold ?xk_BadFold ?xi_BadFold ?xn_BadFold_kind ?xl_BadPlan ?xr_BadPlan ?xs_BadPlan ?xe_BadPlan ?xt_BadPlan ?xk_BadPlan ?xi_BadPlan ?xn_BadPlan_at ?xl_BadRule ?xr_BadRule ?xs_BadRule ?xe_BadRule ?xt_BadRule ?xk_BadRule ?xi_BadRule ?xn_BadRule_letter ?xl_BadTable ?xr_BadTable ?xs_BadTable ?xe_BadTable ?xt_BadTable ?xk_BadTable ?xi_BadTable ?xn_BadTable_at ?xl_NoConstant ?xr_NoConstant ?xs_NoConstant ?xe_NoConstant ?xt_NoConstant ?xk_NoConstant ?xi_NoConstant ?xn_NoConstant_name ?xl_NoPlace ?xr_NoPlace ?xs_NoPlace ?xe_NoPlace ?xt_NoPlace ?xk_NoPlace ?xi_NoPlace ?xn_NoPlace_path ?xl_NoStep ?xr_NoStep ?xs_NoStep ?xe_NoStep ?xt_NoStep ?xk_NoStep ?xi_NoStep ?xn_NoStep_rule ?xn_NoStep_path ?xl_NoWay ?xr_NoWay ?xs_NoWay ?xe_NoWay ?xt_NoWay ?xk_NoWay ?xi_NoWay ?xn_NoWay_at ?xl_NotAlike ?xr_NotAlike ?xs_NotAlike ?xe_NotAlike ?xt_NotAlike ?xk_NotAlike ?xi_NotAlike ?xn_NotAlike_rules ?xl_NothingToUndo ?xr_NothingToUndo ?xs_NothingToUndo ?xe_NothingToUndo ?xt_NothingToUndo ?xk_NothingToUndo ?xi_NothingToUndo ?xl_SameWays ?xr_SameWays ?xs_SameWays ?xe_SameWays ?xt_SameWays ?xk_SameWays ?xi_SameWays ?xl_UnknownName ?xr_UnknownName ?xs_UnknownName ?xe_UnknownName ?xt_UnknownName ?xk_UnknownName ?xi_UnknownName ?xn_UnknownName_name ?cf_WayError ?ct_WayError ?xe_WayError ?xm_WayError_Alike ?xm_WayError_BadFold ?xm_WayError_BadPlan ?xm_WayError_BadRule ?xm_WayError_BadTable ?xm_WayError_NoConstant ?xm_WayError_NoPlace ?xm_WayError_NoStep ?xm_WayError_NoWay ?xm_WayError_NotAlike ?xm_WayError_NothingToUndo ?xm_WayError_SameWays ?xm_WayError_UnknownName ?ohn ?otk ?km_ve ?cf_Alike ?ct_Alike ?xg_Alike ?xh_Alike ?xd_Alike ?oha_Alike ?mo_Alike ?iv_Alike ?is_Alike_Alike ?is_Alike_BadFold ?kne_Alike_BadFold ?is_Alike_BadPlan ?kne_Alike_BadPlan ?is_Alike_BadRule ?kne_Alike_BadRule ?is_Alike_BadTable ?kne_Alike_BadTable ?is_Alike_NoConstant ?kne_Alike_NoConstant ?is_Alike_NoPlace ?kne_Alike_NoPlace ?is_Alike_NoStep ?kne_Alike_NoStep ?is_Alike_NoWay ?kne_Alike_NoWay ?is_Alike_NotAlike ?kne_Alike_NotAlike ?is_Alike_NothingToUndo ?kne_Alike_NothingToUndo ?is_Alike_SameWays ?kne_Alike_SameWays ?is_Alike_UnknownName ?kne_Alike_UnknownName ?xn_Alike_at ?xn_Alike_kind ?xn_Alike_letter ?xn_Alike_name ?xn_Alike_path ?xn_Alike_rule ?cf_BadFold ?ct_BadFold ?xg_BadFold ?xh_BadFold ?xd_BadFold ?oha_BadFold ?mo_BadFold ?iv_BadFold ?is_BadFold_Alike ?kne_BadFold_Alike ?is_BadFold_BadFold ?is_BadFold_BadPlan ?kne_BadFold_BadPlan ?is_BadFold_BadRule ?kne_BadFold_BadRule ?is_BadFold_BadTable ?kne_BadFold_BadTable ?is_BadFold_NoConstant ?kne_BadFold_NoConstant ?is_BadFold_NoPlace ?kne_BadFold_NoPlace ?is_BadFold_NoStep ?kne_BadFold_NoStep ?is_BadFold_NoWay ?kne_BadFold_NoWay ?is_BadFold_NotAlike ?kne_BadFold_NotAlike ?is_BadFold_NothingToUndo ?kne_BadFold_NothingToUndo ?is_BadFold_SameWays ?kne_BadFold_SameWays ?is_BadFold_UnknownName ?kne_BadFold_UnknownName ?xn_BadFold_at ?xn_BadFold_letter ?xn_BadFold_name ?xn_BadFold_path ?xn_BadFold_rule ?xn_BadFold_rules ?cf_BadPlan ?ct_BadPlan ?xg_BadPlan ?xh_BadPlan ?xd_BadPlan ?oha_BadPlan ?mo_BadPlan ?iv_BadPlan ?is_BadPlan_Alike ?kne_BadPlan_Alike ?is_BadPlan_BadFold ?kne_BadPlan_BadFold ?is_BadPlan_BadPlan ?is_BadPlan_BadRule ?kne_BadPlan_BadRule ?is_BadPlan_BadTable ?kne_BadPlan_BadTable ?is_BadPlan_NoConstant ?kne_BadPlan_NoConstant ?is_BadPlan_NoPlace ?kne_BadPlan_NoPlace ?is_BadPlan_NoStep ?kne_BadPlan_NoStep ?is_BadPlan_NoWay ?kne_BadPlan_NoWay ?is_BadPlan_NotAlike ?kne_BadPlan_NotAlike ?is_BadPlan_NothingToUndo ?kne_BadPlan_NothingToUndo ?is_BadPlan_SameWays ?kne_BadPlan_SameWays ?is_BadPlan_UnknownName ?kne_BadPlan_UnknownName ?xn_BadPlan_kind ?xn_BadPlan_letter ?xn_BadPlan_name ?xn_BadPlan_path ?xn_BadPlan_rule ?xn_BadPlan_rules ?cf_BadRule ?ct_BadRule ?xg_BadRule ?xh_BadRule ?xd_BadRule ?oha_BadRule ?mo_BadRule ?iv_BadRule ?is_BadRule_Alike ?kne_BadRule_Alike ?is_BadRule_BadFold ?kne_BadRule_BadFold ?is_BadRule_BadPlan ?kne_BadRule_BadPlan ?is_BadRule_BadRule ?is_BadRule_BadTable ?kne_BadRule_BadTable ?is_BadRule_NoConstant ?kne_BadRule_NoConstant ?is_BadRule_NoPlace ?kne_BadRule_NoPlace ?is_BadRule_NoStep ?kne_BadRule_NoStep ?is_BadRule_NoWay ?kne_BadRule_NoWay ?is_BadRule_NotAlike ?kne_BadRule_NotAlike ?is_BadRule_NothingToUndo ?kne_BadRule_NothingToUndo ?is_BadRule_SameWays ?kne_BadRule_SameWays ?is_BadRule_UnknownName ?kne_BadRule_UnknownName ?xn_BadRule_at ?xn_BadRule_kind ?xn_BadRule_name ?xn_BadRule_path ?xn_BadRule_rule ?xn_BadRule_rules ?cf_BadTable ?ct_BadTable ?xg_BadTable ?xh_BadTable ?xd_BadTable ?oha_BadTable ?mo_BadTable ?iv_BadTable ?is_BadTable_Alike ?kne_BadTable_Alike ?is_BadTable_BadFold ?kne_BadTable_BadFold ?is_BadTable_BadPlan ?kne_BadTable_BadPlan ?is_BadTable_BadRule ?kne_BadTable_BadRule ?is_BadTable_BadTable ?is_BadTable_NoConstant ?kne_BadTable_NoConstant ?is_BadTable_NoPlace ?kne_BadTable_NoPlace ?is_BadTable_NoStep ?kne_BadTable_NoStep ?is_BadTable_NoWay ?kne_BadTable_NoWay ?is_BadTable_NotAlike ?kne_BadTable_NotAlike ?is_BadTable_NothingToUndo ?kne_BadTable_NothingToUndo ?is_BadTable_SameWays ?kne_BadTable_SameWays ?is_BadTable_UnknownName ?kne_BadTable_UnknownName ?xn_BadTable_kind ?xn_BadTable_letter ?xn_BadTable_name ?xn_BadTable_path ?xn_BadTable_rule ?xn_BadTable_rules ?cf_NoConstant ?ct_NoConstant ?xg_NoConstant ?xh_NoConstant ?xd_NoConstant ?oha_NoConstant ?mo_NoConstant ?iv_NoConstant ?is_NoConstant_Alike ?kne_NoConstant_Alike ?is_NoConstant_BadFold ?kne_NoConstant_BadFold ?is_NoConstant_BadPlan ?kne_NoConstant_BadPlan ?is_NoConstant_BadRule ?kne_NoConstant_BadRule ?is_NoConstant_BadTable ?kne_NoConstant_BadTable ?is_NoConstant_NoConstant ?is_NoConstant_NoPlace ?kne_NoConstant_NoPlace ?is_NoConstant_NoStep ?kne_NoConstant_NoStep ?is_NoConstant_NoWay ?kne_NoConstant_NoWay ?is_NoConstant_NotAlike ?kne_NoConstant_NotAlike ?is_NoConstant_NothingToUndo ?kne_NoConstant_NothingToUndo ?is_NoConstant_SameWays ?kne_NoConstant_SameWays ?is_NoConstant_UnknownName ?kne_NoConstant_UnknownName ?xn_NoConstant_at ?xn_NoConstant_kind ?xn_NoConstant_letter ?xn_NoConstant_path ?xn_NoConstant_rule ?xn_NoConstant_rules ?cf_NoPlace ?ct_NoPlace ?xg_NoPlace ?xh_NoPlace ?xd_NoPlace ?oha_NoPlace ?mo_NoPlace ?iv_NoPlace ?is_NoPlace_Alike ?kne_NoPlace_Alike ?is_NoPlace_BadFold ?kne_NoPlace_BadFold ?is_NoPlace_BadPlan ?kne_NoPlace_BadPlan ?is_NoPlace_BadRule ?kne_NoPlace_BadRule ?is_NoPlace_BadTable ?kne_NoPlace_BadTable ?is_NoPlace_NoConstant ?kne_NoPlace_NoConstant ?is_NoPlace_NoPlace ?is_NoPlace_NoStep ?kne_NoPlace_NoStep ?is_NoPlace_NoWay ?kne_NoPlace_NoWay ?is_NoPlace_NotAlike ?kne_NoPlace_NotAlike ?is_NoPlace_NothingToUndo ?kne_NoPlace_NothingToUndo ?is_NoPlace_SameWays ?kne_NoPlace_SameWays ?is_NoPlace_UnknownName ?kne_NoPlace_UnknownName ?xn_NoPlace_at ?xn_NoPlace_kind ?xn_NoPlace_letter ?xn_NoPlace_name ?xn_NoPlace_rule ?xn_NoPlace_rules ?cf_NoStep ?ct_NoStep ?xg_NoStep ?xh_NoStep ?xd_NoStep ?oha_NoStep ?mo_NoStep ?iv_NoStep ?is_NoStep_Alike ?kne_NoStep_Alike ?is_NoStep_BadFold ?kne_NoStep_BadFold ?is_NoStep_BadPlan ?kne_NoStep_BadPlan ?is_NoStep_BadRule ?kne_NoStep_BadRule ?is_NoStep_BadTable ?kne_NoStep_BadTable ?is_NoStep_NoConstant ?kne_NoStep_NoConstant ?is_NoStep_NoPlace ?kne_NoStep_NoPlace ?is_NoStep_NoStep ?is_NoStep_NoWay ?kne_NoStep_NoWay ?is_NoStep_NotAlike ?kne_NoStep_NotAlike ?is_NoStep_NothingToUndo ?kne_NoStep_NothingToUndo ?is_NoStep_SameWays ?kne_NoStep_SameWays ?is_NoStep_UnknownName ?kne_NoStep_UnknownName ?xn_NoStep_at ?xn_NoStep_kind ?xn_NoStep_letter ?xn_NoStep_name ?xn_NoStep_rules ?cf_NoWay ?ct_NoWay ?xg_NoWay ?xh_NoWay ?xd_NoWay ?oha_NoWay ?mo_NoWay ?iv_NoWay ?is_NoWay_Alike ?kne_NoWay_Alike ?is_NoWay_BadFold ?kne_NoWay_BadFold ?is_NoWay_BadPlan ?kne_NoWay_BadPlan ?is_NoWay_BadRule ?kne_NoWay_BadRule ?is_NoWay_BadTable ?kne_NoWay_BadTable ?is_NoWay_NoConstant ?kne_NoWay_NoConstant ?is_NoWay_NoPlace ?kne_NoWay_NoPlace ?is_NoWay_NoStep ?kne_NoWay_NoStep ?is_NoWay_NoWay ?is_NoWay_NotAlike ?kne_NoWay_NotAlike ?is_NoWay_NothingToUndo ?kne_NoWay_NothingToUndo ?is_NoWay_SameWays ?kne_NoWay_SameWays ?is_NoWay_UnknownName ?kne_NoWay_UnknownName ?xn_NoWay_kind ?xn_NoWay_letter ?xn_NoWay_name ?xn_NoWay_path ?xn_NoWay_rule ?xn_NoWay_rules ?cf_NotAlike ?ct_NotAlike ?xg_NotAlike ?xh_NotAlike ?xd_NotAlike ?oha_NotAlike ?mo_NotAlike ?iv_NotAlike ?is_NotAlike_Alike ?kne_NotAlike_Alike ?is_NotAlike_BadFold ?kne_NotAlike_BadFold ?is_NotAlike_BadPlan ?kne_NotAlike_BadPlan ?is_NotAlike_BadRule ?kne_NotAlike_BadRule ?is_NotAlike_BadTable ?kne_NotAlike_BadTable ?is_NotAlike_NoConstant ?kne_NotAlike_NoConstant ?is_NotAlike_NoPlace ?kne_NotAlike_NoPlace ?is_NotAlike_NoStep ?kne_NotAlike_NoStep ?is_NotAlike_NoWay ?kne_NotAlike_NoWay ?is_NotAlike_NotAlike ?is_NotAlike_NothingToUndo ?kne_NotAlike_NothingToUndo ?is_NotAlike_SameWays ?kne_NotAlike_SameWays ?is_NotAlike_UnknownName ?kne_NotAlike_UnknownName ?xn_NotAlike_at ?xn_NotAlike_kind ?xn_NotAlike_letter ?xn_NotAlike_name ?xn_NotAlike_path ?xn_NotAlike_rule ?cf_NothingToUndo ?ct_NothingToUndo ?xg_NothingToUndo ?xh_NothingToUndo ?xd_NothingToUndo ?oha_NothingToUndo ?mo_NothingToUndo ?iv_NothingToUndo ?is_NothingToUndo_Alike ?kne_NothingToUndo_Alike ?is_NothingToUndo_BadFold ?kne_NothingToUndo_BadFold ?is_NothingToUndo_BadPlan ?kne_NothingToUndo_BadPlan ?is_NothingToUndo_BadRule ?kne_NothingToUndo_BadRule ?is_NothingToUndo_BadTable ?kne_NothingToUndo_BadTable ?is_NothingToUndo_NoConstant ?kne_NothingToUndo_NoConstant ?is_NothingToUndo_NoPlace ?kne_NothingToUndo_NoPlace ?is_NothingToUndo_NoStep ?kne_NothingToUndo_NoStep ?is_NothingToUndo_NoWay ?kne_NothingToUndo_NoWay ?is_NothingToUndo_NotAlike ?kne_NothingToUndo_NotAlike ?is_NothingToUndo_NothingToUndo ?is_NothingToUndo_SameWays ?kne_NothingToUndo_SameWays ?is_NothingToUndo_UnknownName ?kne_NothingToUndo_UnknownName ?xn_NothingToUndo_at ?xn_NothingToUndo_kind ?xn_NothingToUndo_letter ?xn_NothingToUndo_name ?xn_NothingToUndo_path ?xn_NothingToUndo_rule ?xn_NothingToUndo_rules ?cf_SameWays ?ct_SameWays ?xg_SameWays ?xh_SameWays ?xd_SameWays ?oha_SameWays ?mo_SameWays ?iv_SameWays ?is_SameWays_Alike ?kne_SameWays_Alike ?is_SameWays_BadFold ?kne_SameWays_BadFold ?is_SameWays_BadPlan ?kne_SameWays_BadPlan ?is_SameWays_BadRule ?kne_SameWays_BadRule ?is_SameWays_BadTable ?kne_SameWays_BadTable ?is_SameWays_NoConstant ?kne_SameWays_NoConstant ?is_SameWays_NoPlace ?kne_SameWays_NoPlace ?is_SameWays_NoStep ?kne_SameWays_NoStep ?is_SameWays_NoWay ?kne_SameWays_NoWay ?is_SameWays_NotAlike ?kne_SameWays_NotAlike ?is_SameWays_NothingToUndo ?kne_SameWays_NothingToUndo ?is_SameWays_SameWays ?is_SameWays_UnknownName ?kne_SameWays_UnknownName ?xn_SameWays_at ?xn_SameWays_kind ?xn_SameWays_letter ?xn_SameWays_name ?xn_SameWays_path ?xn_SameWays_rule ?xn_SameWays_rules ?cf_UnknownName ?ct_UnknownName ?xg_UnknownName ?xh_UnknownName ?xd_UnknownName ?oha_UnknownName ?mo_UnknownName ?iv_UnknownName ?is_UnknownName_Alike ?kne_UnknownName_Alike ?is_UnknownName_BadFold ?kne_UnknownName_BadFold ?is_UnknownName_BadPlan ?kne_UnknownName_BadPlan ?is_UnknownName_BadRule ?kne_UnknownName_BadRule ?is_UnknownName_BadTable ?kne_UnknownName_BadTable ?is_UnknownName_NoConstant ?kne_UnknownName_NoConstant ?is_UnknownName_NoPlace ?kne_UnknownName_NoPlace ?is_UnknownName_NoStep ?kne_UnknownName_NoStep ?is_UnknownName_NoWay ?kne_UnknownName_NoWay ?is_UnknownName_NotAlike ?kne_UnknownName_NotAlike ?is_UnknownName_NothingToUndo ?kne_UnknownName_NothingToUndo ?is_UnknownName_SameWays ?kne_UnknownName_SameWays ?is_UnknownName_UnknownName ?xn_UnknownName_at ?xn_UnknownName_kind ?xn_UnknownName_letter ?xn_UnknownName_path ?xn_UnknownName_rule ?xn_UnknownName_rules ?n_ValueError ?n_abs ?n_int ?n_isinstance ?n_len ?n_range
    (case aC_Alike => k_is)
    (case aC_BadFold => k_is)
    (case aC_BadPlan => k_is)
    (case aC_BadRule => k_is)
    (case aC_BadTable => k_is)
    (case aC_NoConstant => k_is)
    (case aC_NoPlace => k_is)
    (case aC_NoStep => k_is)
    (case aC_NoWay => k_is)
    (case aC_NotAlike => k_is)
    (case aC_NothingToUndo => k_is)
    (case aC_SameWays => k_is)
    (case aC_UnknownName => k_is)
    (case aC_WayError => k_is)
    (case a_l_draws => k_is)
    (case l_l_draws => k_is)
    (case c_l_draws => k_is)
    (case k_l_draws => k_is)
    (case a_l_cell => k_is)
    (case l_l_cell => k_is)
    (case c_l_cell => k_is)
    (case k_l_cell => k_is)
    (case a_NothingToUndoD_initD => k_is)
    (case i_NothingToUndoD_initD => k_is)
    (case l_NothingToUndoD_initD => k_is)
    (case c_NothingToUndoD_initD => k_is)
    (case k_NothingToUndoD_initD => k_is)
    (case a_NoWayD_initD => k_is)
    (case i_NoWayD_initD => k_is)
    (case l_NoWayD_initD => k_is)
    (case c_NoWayD_initD => k_is)
    (case k_NoWayD_initD => k_is)
    (case a_NoPlaceD_initD => k_is)
    (case i_NoPlaceD_initD => k_is)
    (case l_NoPlaceD_initD => k_is)
    (case c_NoPlaceD_initD => k_is)
    (case k_NoPlaceD_initD => k_is)
    (case a_BadRuleD_initD => k_is)
    (case i_BadRuleD_initD => k_is)
    (case l_BadRuleD_initD => k_is)
    (case c_BadRuleD_initD => k_is)
    (case k_BadRuleD_initD => k_is)
    (case a_NotAlikeD_initD => k_is)
    (case i_NotAlikeD_initD => k_is)
    (case l_NotAlikeD_initD => k_is)
    (case c_NotAlikeD_initD => k_is)
    (case k_NotAlikeD_initD => k_is)
    (case a_AlikeD_initD => k_is)
    (case i_AlikeD_initD => k_is)
    (case l_AlikeD_initD => k_is)
    (case c_AlikeD_initD => k_is)
    (case k_AlikeD_initD => k_is)
    (case a_BadTableD_initD => k_is)
    (case i_BadTableD_initD => k_is)
    (case l_BadTableD_initD => k_is)
    (case c_BadTableD_initD => k_is)
    (case k_BadTableD_initD => k_is)
    (case a_UnknownNameD_initD => k_is)
    (case i_UnknownNameD_initD => k_is)
    (case l_UnknownNameD_initD => k_is)
    (case c_UnknownNameD_initD => k_is)
    (case k_UnknownNameD_initD => k_is)
    (case a_NoConstantD_initD => k_is)
    (case i_NoConstantD_initD => k_is)
    (case l_NoConstantD_initD => k_is)
    (case c_NoConstantD_initD => k_is)
    (case k_NoConstantD_initD => k_is)
    (case a_BadFoldD_initD => k_is)
    (case i_BadFoldD_initD => k_is)
    (case l_BadFoldD_initD => k_is)
    (case c_BadFoldD_initD => k_is)
    (case k_BadFoldD_initD => k_is)
    (case a_NoStepD_initD => k_is)
    (case i_NoStepD_initD => k_is)
    (case l_NoStepD_initD => k_is)
    (case c_NoStepD_initD => k_is)
    (case k_NoStepD_initD => k_is)
    (case a_SameWaysD_initD => k_is)
    (case i_SameWaysD_initD => k_is)
    (case l_SameWaysD_initD => k_is)
    (case c_SameWaysD_initD => k_is)
    (case k_SameWaysD_initD => k_is)
    (case a_BadPlanD_initD => k_is)
    (case i_BadPlanD_initD => k_is)
    (case l_BadPlanD_initD => k_is)
    (case c_BadPlanD_initD => k_is)
    (case k_BadPlanD_initD => k_is)
    (case a_l_raise => k_is)
    (case l_l_raise => k_is)
    (case c_l_raise => k_is)
    (case k_l_raise => k_is)
    (case a_l_flags => k_is)
    (case l_l_flags => k_is)
    (case c_l_flags => k_is)
    (case k_l_flags => k_is)
    (case a_l_fields => k_is)
    (case l_l_fields => k_is)
    (case c_l_fields => k_is)
    (case k_l_fields => k_is)
    (case a_law => k_is)
    (case l_law => k_is)
    (case c_law => k_is)
    (case k_law => k_is)
    (case br_WayError => k_is)
    (case bg_WayError => k_is)
    (case bv_WayError => k_is)
    (case xl_Alike => k_is)
    (case xr_Alike => rfl)
    (case xs_Alike => k_is)
    (case xe_Alike => k_is)
    (case xt_Alike => k_is)
    (case xk_Alike => k_is)
    (case xi_Alike => k_is)
    (case xn_Alike_rules => k_is)
    (case xl_BadFold => k_is)
    (case xr_BadFold => rfl)
    (case xs_BadFold => k_is)
    (case xe_BadFold => k_is)
    (case xt_BadFold => k_is)
    (case xk_BadFold => k_is)
    (case xi_BadFold => k_is)
    (case xn_BadFold_kind => k_is)
    (case xl_BadPlan => k_is)
    (case xr_BadPlan => rfl)
    (case xs_BadPlan => k_is)
    (case xe_BadPlan => k_is)
    (case xt_BadPlan => k_is)
    (case xk_BadPlan => k_is)
    (case xi_BadPlan => k_is)
    (case xn_BadPlan_at => k_is)
    (case xl_BadRule => k_is)
    (case xr_BadRule => rfl)
    (case xs_BadRule => k_is)
    (case xe_BadRule => k_is)
    (case xt_BadRule => k_is)
    (case xk_BadRule => k_is)
    (case xi_BadRule => k_is)
    (case xn_BadRule_letter => k_is)
    (case xl_BadTable => k_is)
    (case xr_BadTable => rfl)
    (case xs_BadTable => k_is)
    (case xe_BadTable => k_is)
    (case xt_BadTable => k_is)
    (case xk_BadTable => k_is)
    (case xi_BadTable => k_is)
    (case xn_BadTable_at => k_is)
    (case xl_NoConstant => k_is)
    (case xr_NoConstant => rfl)
    (case xs_NoConstant => k_is)
    (case xe_NoConstant => k_is)
    (case xt_NoConstant => k_is)
    (case xk_NoConstant => k_is)
    (case xi_NoConstant => k_is)
    (case xn_NoConstant_name => k_is)
    (case xl_NoPlace => k_is)
    (case xr_NoPlace => rfl)
    (case xs_NoPlace => k_is)
    (case xe_NoPlace => k_is)
    (case xt_NoPlace => k_is)
    (case xk_NoPlace => k_is)
    (case xi_NoPlace => k_is)
    (case xn_NoPlace_path => k_is)
    (case xl_NoStep => k_is)
    (case xr_NoStep => rfl)
    (case xs_NoStep => k_is)
    (case xe_NoStep => k_is)
    (case xt_NoStep => k_is)
    (case xk_NoStep => k_is)
    (case xi_NoStep => k_is)
    (case xn_NoStep_rule => k_is)
    (case xn_NoStep_path => k_is)
    (case xl_NoWay => k_is)
    (case xr_NoWay => rfl)
    (case xs_NoWay => k_is)
    (case xe_NoWay => k_is)
    (case xt_NoWay => k_is)
    (case xk_NoWay => k_is)
    (case xi_NoWay => k_is)
    (case xn_NoWay_at => k_is)
    (case xl_NotAlike => k_is)
    (case xr_NotAlike => rfl)
    (case xs_NotAlike => k_is)
    (case xe_NotAlike => k_is)
    (case xt_NotAlike => k_is)
    (case xk_NotAlike => k_is)
    (case xi_NotAlike => k_is)
    (case xn_NotAlike_rules => k_is)
    (case xl_NothingToUndo => k_is)
    (case xr_NothingToUndo => rfl)
    (case xs_NothingToUndo => k_is)
    (case xe_NothingToUndo => k_is)
    (case xt_NothingToUndo => k_is)
    (case xk_NothingToUndo => k_is)
    (case xi_NothingToUndo => k_is)
    (case xl_SameWays => k_is)
    (case xr_SameWays => rfl)
    (case xs_SameWays => k_is)
    (case xe_SameWays => k_is)
    (case xt_SameWays => k_is)
    (case xk_SameWays => k_is)
    (case xi_SameWays => k_is)
    (case xl_UnknownName => k_is)
    (case xr_UnknownName => rfl)
    (case xs_UnknownName => k_is)
    (case xe_UnknownName => k_is)
    (case xt_UnknownName => k_is)
    (case xk_UnknownName => k_is)
    (case xi_UnknownName => k_is)
    (case xn_UnknownName_name => k_is)
    (case cf_WayError => k_is)
    (case ct_WayError => k_is)
    (case xe_WayError => k_is)
    (case xm_WayError_Alike => k_is)
    (case xm_WayError_BadFold => k_is)
    (case xm_WayError_BadPlan => k_is)
    (case xm_WayError_BadRule => k_is)
    (case xm_WayError_BadTable => k_is)
    (case xm_WayError_NoConstant => k_is)
    (case xm_WayError_NoPlace => k_is)
    (case xm_WayError_NoStep => k_is)
    (case xm_WayError_NoWay => k_is)
    (case xm_WayError_NotAlike => k_is)
    (case xm_WayError_NothingToUndo => k_is)
    (case xm_WayError_SameWays => k_is)
    (case xm_WayError_UnknownName => k_is)
    (case ohn => k_is)
    (case otk => k_is)
    (case km_ve => rfl)
    (case cf_Alike => k_is)
    (case ct_Alike => k_is)
    (case xg_Alike => k_is)
    (case xh_Alike => k_is)
    (case xd_Alike => k_is)
    (case oha_Alike => k_is)
    (case mo_Alike => k_is)
    (case iv_Alike => k_is)
    (case is_Alike_Alike => k_is)
    (case is_Alike_BadFold => k_is)
    (case kne_Alike_BadFold => first | rfl | decide | k_is)
    (case is_Alike_BadPlan => k_is)
    (case kne_Alike_BadPlan => first | rfl | decide | k_is)
    (case is_Alike_BadRule => k_is)
    (case kne_Alike_BadRule => first | rfl | decide | k_is)
    (case is_Alike_BadTable => k_is)
    (case kne_Alike_BadTable => first | rfl | decide | k_is)
    (case is_Alike_NoConstant => k_is)
    (case kne_Alike_NoConstant => first | rfl | decide | k_is)
    (case is_Alike_NoPlace => k_is)
    (case kne_Alike_NoPlace => first | rfl | decide | k_is)
    (case is_Alike_NoStep => k_is)
    (case kne_Alike_NoStep => first | rfl | decide | k_is)
    (case is_Alike_NoWay => k_is)
    (case kne_Alike_NoWay => first | rfl | decide | k_is)
    (case is_Alike_NotAlike => k_is)
    (case kne_Alike_NotAlike => first | rfl | decide | k_is)
    (case is_Alike_NothingToUndo => k_is)
    (case kne_Alike_NothingToUndo => first | rfl | decide | k_is)
    (case is_Alike_SameWays => k_is)
    (case kne_Alike_SameWays => first | rfl | decide | k_is)
    (case is_Alike_UnknownName => k_is)
    (case kne_Alike_UnknownName => first | rfl | decide | k_is)
    (case xn_Alike_at => k_is)
    (case xn_Alike_kind => k_is)
    (case xn_Alike_letter => k_is)
    (case xn_Alike_name => k_is)
    (case xn_Alike_path => k_is)
    (case xn_Alike_rule => k_is)
    (case cf_BadFold => k_is)
    (case ct_BadFold => k_is)
    (case xg_BadFold => k_is)
    (case xh_BadFold => k_is)
    (case xd_BadFold => k_is)
    (case oha_BadFold => k_is)
    (case mo_BadFold => k_is)
    (case iv_BadFold => k_is)
    (case is_BadFold_Alike => k_is)
    (case kne_BadFold_Alike => first | rfl | decide | k_is)
    (case is_BadFold_BadFold => k_is)
    (case is_BadFold_BadPlan => k_is)
    (case kne_BadFold_BadPlan => first | rfl | decide | k_is)
    (case is_BadFold_BadRule => k_is)
    (case kne_BadFold_BadRule => first | rfl | decide | k_is)
    (case is_BadFold_BadTable => k_is)
    (case kne_BadFold_BadTable => first | rfl | decide | k_is)
    (case is_BadFold_NoConstant => k_is)
    (case kne_BadFold_NoConstant => first | rfl | decide | k_is)
    (case is_BadFold_NoPlace => k_is)
    (case kne_BadFold_NoPlace => first | rfl | decide | k_is)
    (case is_BadFold_NoStep => k_is)
    (case kne_BadFold_NoStep => first | rfl | decide | k_is)
    (case is_BadFold_NoWay => k_is)
    (case kne_BadFold_NoWay => first | rfl | decide | k_is)
    (case is_BadFold_NotAlike => k_is)
    (case kne_BadFold_NotAlike => first | rfl | decide | k_is)
    (case is_BadFold_NothingToUndo => k_is)
    (case kne_BadFold_NothingToUndo => first | rfl | decide | k_is)
    (case is_BadFold_SameWays => k_is)
    (case kne_BadFold_SameWays => first | rfl | decide | k_is)
    (case is_BadFold_UnknownName => k_is)
    (case kne_BadFold_UnknownName => first | rfl | decide | k_is)
    (case xn_BadFold_at => k_is)
    (case xn_BadFold_letter => k_is)
    (case xn_BadFold_name => k_is)
    (case xn_BadFold_path => k_is)
    (case xn_BadFold_rule => k_is)
    (case xn_BadFold_rules => k_is)
    (case cf_BadPlan => k_is)
    (case ct_BadPlan => k_is)
    (case xg_BadPlan => k_is)
    (case xh_BadPlan => k_is)
    (case xd_BadPlan => k_is)
    (case oha_BadPlan => k_is)
    (case mo_BadPlan => k_is)
    (case iv_BadPlan => k_is)
    (case is_BadPlan_Alike => k_is)
    (case kne_BadPlan_Alike => first | rfl | decide | k_is)
    (case is_BadPlan_BadFold => k_is)
    (case kne_BadPlan_BadFold => first | rfl | decide | k_is)
    (case is_BadPlan_BadPlan => k_is)
    (case is_BadPlan_BadRule => k_is)
    (case kne_BadPlan_BadRule => first | rfl | decide | k_is)
    (case is_BadPlan_BadTable => k_is)
    (case kne_BadPlan_BadTable => first | rfl | decide | k_is)
    (case is_BadPlan_NoConstant => k_is)
    (case kne_BadPlan_NoConstant => first | rfl | decide | k_is)
    (case is_BadPlan_NoPlace => k_is)
    (case kne_BadPlan_NoPlace => first | rfl | decide | k_is)
    (case is_BadPlan_NoStep => k_is)
    (case kne_BadPlan_NoStep => first | rfl | decide | k_is)
    (case is_BadPlan_NoWay => k_is)
    (case kne_BadPlan_NoWay => first | rfl | decide | k_is)
    (case is_BadPlan_NotAlike => k_is)
    (case kne_BadPlan_NotAlike => first | rfl | decide | k_is)
    (case is_BadPlan_NothingToUndo => k_is)
    (case kne_BadPlan_NothingToUndo => first | rfl | decide | k_is)
    (case is_BadPlan_SameWays => k_is)
    (case kne_BadPlan_SameWays => first | rfl | decide | k_is)
    (case is_BadPlan_UnknownName => k_is)
    (case kne_BadPlan_UnknownName => first | rfl | decide | k_is)
    (case xn_BadPlan_kind => k_is)
    (case xn_BadPlan_letter => k_is)
    (case xn_BadPlan_name => k_is)
    (case xn_BadPlan_path => k_is)
    (case xn_BadPlan_rule => k_is)
    (case xn_BadPlan_rules => k_is)
    (case cf_BadRule => k_is)
    (case ct_BadRule => k_is)
    (case xg_BadRule => k_is)
    (case xh_BadRule => k_is)
    (case xd_BadRule => k_is)
    (case oha_BadRule => k_is)
    (case mo_BadRule => k_is)
    (case iv_BadRule => k_is)
    (case is_BadRule_Alike => k_is)
    (case kne_BadRule_Alike => first | rfl | decide | k_is)
    (case is_BadRule_BadFold => k_is)
    (case kne_BadRule_BadFold => first | rfl | decide | k_is)
    (case is_BadRule_BadPlan => k_is)
    (case kne_BadRule_BadPlan => first | rfl | decide | k_is)
    (case is_BadRule_BadRule => k_is)
    (case is_BadRule_BadTable => k_is)
    (case kne_BadRule_BadTable => first | rfl | decide | k_is)
    (case is_BadRule_NoConstant => k_is)
    (case kne_BadRule_NoConstant => first | rfl | decide | k_is)
    (case is_BadRule_NoPlace => k_is)
    (case kne_BadRule_NoPlace => first | rfl | decide | k_is)
    (case is_BadRule_NoStep => k_is)
    (case kne_BadRule_NoStep => first | rfl | decide | k_is)
    (case is_BadRule_NoWay => k_is)
    (case kne_BadRule_NoWay => first | rfl | decide | k_is)
    (case is_BadRule_NotAlike => k_is)
    (case kne_BadRule_NotAlike => first | rfl | decide | k_is)
    (case is_BadRule_NothingToUndo => k_is)
    (case kne_BadRule_NothingToUndo => first | rfl | decide | k_is)
    (case is_BadRule_SameWays => k_is)
    (case kne_BadRule_SameWays => first | rfl | decide | k_is)
    (case is_BadRule_UnknownName => k_is)
    (case kne_BadRule_UnknownName => first | rfl | decide | k_is)
    (case xn_BadRule_at => k_is)
    (case xn_BadRule_kind => k_is)
    (case xn_BadRule_name => k_is)
    (case xn_BadRule_path => k_is)
    (case xn_BadRule_rule => k_is)
    (case xn_BadRule_rules => k_is)
    (case cf_BadTable => k_is)
    (case ct_BadTable => k_is)
    (case xg_BadTable => k_is)
    (case xh_BadTable => k_is)
    (case xd_BadTable => k_is)
    (case oha_BadTable => k_is)
    (case mo_BadTable => k_is)
    (case iv_BadTable => k_is)
    (case is_BadTable_Alike => k_is)
    (case kne_BadTable_Alike => first | rfl | decide | k_is)
    (case is_BadTable_BadFold => k_is)
    (case kne_BadTable_BadFold => first | rfl | decide | k_is)
    (case is_BadTable_BadPlan => k_is)
    (case kne_BadTable_BadPlan => first | rfl | decide | k_is)
    (case is_BadTable_BadRule => k_is)
    (case kne_BadTable_BadRule => first | rfl | decide | k_is)
    (case is_BadTable_BadTable => k_is)
    (case is_BadTable_NoConstant => k_is)
    (case kne_BadTable_NoConstant => first | rfl | decide | k_is)
    (case is_BadTable_NoPlace => k_is)
    (case kne_BadTable_NoPlace => first | rfl | decide | k_is)
    (case is_BadTable_NoStep => k_is)
    (case kne_BadTable_NoStep => first | rfl | decide | k_is)
    (case is_BadTable_NoWay => k_is)
    (case kne_BadTable_NoWay => first | rfl | decide | k_is)
    (case is_BadTable_NotAlike => k_is)
    (case kne_BadTable_NotAlike => first | rfl | decide | k_is)
    (case is_BadTable_NothingToUndo => k_is)
    (case kne_BadTable_NothingToUndo => first | rfl | decide | k_is)
    (case is_BadTable_SameWays => k_is)
    (case kne_BadTable_SameWays => first | rfl | decide | k_is)
    (case is_BadTable_UnknownName => k_is)
    (case kne_BadTable_UnknownName => first | rfl | decide | k_is)
    (case xn_BadTable_kind => k_is)
    (case xn_BadTable_letter => k_is)
    (case xn_BadTable_name => k_is)
    (case xn_BadTable_path => k_is)
    (case xn_BadTable_rule => k_is)
    (case xn_BadTable_rules => k_is)
    (case cf_NoConstant => k_is)
    (case ct_NoConstant => k_is)
    (case xg_NoConstant => k_is)
    (case xh_NoConstant => k_is)
    (case xd_NoConstant => k_is)
    (case oha_NoConstant => k_is)
    (case mo_NoConstant => k_is)
    (case iv_NoConstant => k_is)
    (case is_NoConstant_Alike => k_is)
    (case kne_NoConstant_Alike => first | rfl | decide | k_is)
    (case is_NoConstant_BadFold => k_is)
    (case kne_NoConstant_BadFold => first | rfl | decide | k_is)
    (case is_NoConstant_BadPlan => k_is)
    (case kne_NoConstant_BadPlan => first | rfl | decide | k_is)
    (case is_NoConstant_BadRule => k_is)
    (case kne_NoConstant_BadRule => first | rfl | decide | k_is)
    (case is_NoConstant_BadTable => k_is)
    (case kne_NoConstant_BadTable => first | rfl | decide | k_is)
    (case is_NoConstant_NoConstant => k_is)
    (case is_NoConstant_NoPlace => k_is)
    (case kne_NoConstant_NoPlace => first | rfl | decide | k_is)
    (case is_NoConstant_NoStep => k_is)
    (case kne_NoConstant_NoStep => first | rfl | decide | k_is)
    (case is_NoConstant_NoWay => k_is)
    (case kne_NoConstant_NoWay => first | rfl | decide | k_is)
    (case is_NoConstant_NotAlike => k_is)
    (case kne_NoConstant_NotAlike => first | rfl | decide | k_is)
    (case is_NoConstant_NothingToUndo => k_is)
    (case kne_NoConstant_NothingToUndo => first | rfl | decide | k_is)
    (case is_NoConstant_SameWays => k_is)
    (case kne_NoConstant_SameWays => first | rfl | decide | k_is)
    (case is_NoConstant_UnknownName => k_is)
    (case kne_NoConstant_UnknownName => first | rfl | decide | k_is)
    (case xn_NoConstant_at => k_is)
    (case xn_NoConstant_kind => k_is)
    (case xn_NoConstant_letter => k_is)
    (case xn_NoConstant_path => k_is)
    (case xn_NoConstant_rule => k_is)
    (case xn_NoConstant_rules => k_is)
    (case cf_NoPlace => k_is)
    (case ct_NoPlace => k_is)
    (case xg_NoPlace => k_is)
    (case xh_NoPlace => k_is)
    (case xd_NoPlace => k_is)
    (case oha_NoPlace => k_is)
    (case mo_NoPlace => k_is)
    (case iv_NoPlace => k_is)
    (case is_NoPlace_Alike => k_is)
    (case kne_NoPlace_Alike => first | rfl | decide | k_is)
    (case is_NoPlace_BadFold => k_is)
    (case kne_NoPlace_BadFold => first | rfl | decide | k_is)
    (case is_NoPlace_BadPlan => k_is)
    (case kne_NoPlace_BadPlan => first | rfl | decide | k_is)
    (case is_NoPlace_BadRule => k_is)
    (case kne_NoPlace_BadRule => first | rfl | decide | k_is)
    (case is_NoPlace_BadTable => k_is)
    (case kne_NoPlace_BadTable => first | rfl | decide | k_is)
    (case is_NoPlace_NoConstant => k_is)
    (case kne_NoPlace_NoConstant => first | rfl | decide | k_is)
    (case is_NoPlace_NoPlace => k_is)
    (case is_NoPlace_NoStep => k_is)
    (case kne_NoPlace_NoStep => first | rfl | decide | k_is)
    (case is_NoPlace_NoWay => k_is)
    (case kne_NoPlace_NoWay => first | rfl | decide | k_is)
    (case is_NoPlace_NotAlike => k_is)
    (case kne_NoPlace_NotAlike => first | rfl | decide | k_is)
    (case is_NoPlace_NothingToUndo => k_is)
    (case kne_NoPlace_NothingToUndo => first | rfl | decide | k_is)
    (case is_NoPlace_SameWays => k_is)
    (case kne_NoPlace_SameWays => first | rfl | decide | k_is)
    (case is_NoPlace_UnknownName => k_is)
    (case kne_NoPlace_UnknownName => first | rfl | decide | k_is)
    (case xn_NoPlace_at => k_is)
    (case xn_NoPlace_kind => k_is)
    (case xn_NoPlace_letter => k_is)
    (case xn_NoPlace_name => k_is)
    (case xn_NoPlace_rule => k_is)
    (case xn_NoPlace_rules => k_is)
    (case cf_NoStep => k_is)
    (case ct_NoStep => k_is)
    (case xg_NoStep => k_is)
    (case xh_NoStep => k_is)
    (case xd_NoStep => k_is)
    (case oha_NoStep => k_is)
    (case mo_NoStep => k_is)
    (case iv_NoStep => k_is)
    (case is_NoStep_Alike => k_is)
    (case kne_NoStep_Alike => first | rfl | decide | k_is)
    (case is_NoStep_BadFold => k_is)
    (case kne_NoStep_BadFold => first | rfl | decide | k_is)
    (case is_NoStep_BadPlan => k_is)
    (case kne_NoStep_BadPlan => first | rfl | decide | k_is)
    (case is_NoStep_BadRule => k_is)
    (case kne_NoStep_BadRule => first | rfl | decide | k_is)
    (case is_NoStep_BadTable => k_is)
    (case kne_NoStep_BadTable => first | rfl | decide | k_is)
    (case is_NoStep_NoConstant => k_is)
    (case kne_NoStep_NoConstant => first | rfl | decide | k_is)
    (case is_NoStep_NoPlace => k_is)
    (case kne_NoStep_NoPlace => first | rfl | decide | k_is)
    (case is_NoStep_NoStep => k_is)
    (case is_NoStep_NoWay => k_is)
    (case kne_NoStep_NoWay => first | rfl | decide | k_is)
    (case is_NoStep_NotAlike => k_is)
    (case kne_NoStep_NotAlike => first | rfl | decide | k_is)
    (case is_NoStep_NothingToUndo => k_is)
    (case kne_NoStep_NothingToUndo => first | rfl | decide | k_is)
    (case is_NoStep_SameWays => k_is)
    (case kne_NoStep_SameWays => first | rfl | decide | k_is)
    (case is_NoStep_UnknownName => k_is)
    (case kne_NoStep_UnknownName => first | rfl | decide | k_is)
    (case xn_NoStep_at => k_is)
    (case xn_NoStep_kind => k_is)
    (case xn_NoStep_letter => k_is)
    (case xn_NoStep_name => k_is)
    (case xn_NoStep_rules => k_is)
    (case cf_NoWay => k_is)
    (case ct_NoWay => k_is)
    (case xg_NoWay => k_is)
    (case xh_NoWay => k_is)
    (case xd_NoWay => k_is)
    (case oha_NoWay => k_is)
    (case mo_NoWay => k_is)
    (case iv_NoWay => k_is)
    (case is_NoWay_Alike => k_is)
    (case kne_NoWay_Alike => first | rfl | decide | k_is)
    (case is_NoWay_BadFold => k_is)
    (case kne_NoWay_BadFold => first | rfl | decide | k_is)
    (case is_NoWay_BadPlan => k_is)
    (case kne_NoWay_BadPlan => first | rfl | decide | k_is)
    (case is_NoWay_BadRule => k_is)
    (case kne_NoWay_BadRule => first | rfl | decide | k_is)
    (case is_NoWay_BadTable => k_is)
    (case kne_NoWay_BadTable => first | rfl | decide | k_is)
    (case is_NoWay_NoConstant => k_is)
    (case kne_NoWay_NoConstant => first | rfl | decide | k_is)
    (case is_NoWay_NoPlace => k_is)
    (case kne_NoWay_NoPlace => first | rfl | decide | k_is)
    (case is_NoWay_NoStep => k_is)
    (case kne_NoWay_NoStep => first | rfl | decide | k_is)
    (case is_NoWay_NoWay => k_is)
    (case is_NoWay_NotAlike => k_is)
    (case kne_NoWay_NotAlike => first | rfl | decide | k_is)
    (case is_NoWay_NothingToUndo => k_is)
    (case kne_NoWay_NothingToUndo => first | rfl | decide | k_is)
    (case is_NoWay_SameWays => k_is)
    (case kne_NoWay_SameWays => first | rfl | decide | k_is)
    (case is_NoWay_UnknownName => k_is)
    (case kne_NoWay_UnknownName => first | rfl | decide | k_is)
    (case xn_NoWay_kind => k_is)
    (case xn_NoWay_letter => k_is)
    (case xn_NoWay_name => k_is)
    (case xn_NoWay_path => k_is)
    (case xn_NoWay_rule => k_is)
    (case xn_NoWay_rules => k_is)
    (case cf_NotAlike => k_is)
    (case ct_NotAlike => k_is)
    (case xg_NotAlike => k_is)
    (case xh_NotAlike => k_is)
    (case xd_NotAlike => k_is)
    (case oha_NotAlike => k_is)
    (case mo_NotAlike => k_is)
    (case iv_NotAlike => k_is)
    (case is_NotAlike_Alike => k_is)
    (case kne_NotAlike_Alike => first | rfl | decide | k_is)
    (case is_NotAlike_BadFold => k_is)
    (case kne_NotAlike_BadFold => first | rfl | decide | k_is)
    (case is_NotAlike_BadPlan => k_is)
    (case kne_NotAlike_BadPlan => first | rfl | decide | k_is)
    (case is_NotAlike_BadRule => k_is)
    (case kne_NotAlike_BadRule => first | rfl | decide | k_is)
    (case is_NotAlike_BadTable => k_is)
    (case kne_NotAlike_BadTable => first | rfl | decide | k_is)
    (case is_NotAlike_NoConstant => k_is)
    (case kne_NotAlike_NoConstant => first | rfl | decide | k_is)
    (case is_NotAlike_NoPlace => k_is)
    (case kne_NotAlike_NoPlace => first | rfl | decide | k_is)
    (case is_NotAlike_NoStep => k_is)
    (case kne_NotAlike_NoStep => first | rfl | decide | k_is)
    (case is_NotAlike_NoWay => k_is)
    (case kne_NotAlike_NoWay => first | rfl | decide | k_is)
    (case is_NotAlike_NotAlike => k_is)
    (case is_NotAlike_NothingToUndo => k_is)
    (case kne_NotAlike_NothingToUndo => first | rfl | decide | k_is)
    (case is_NotAlike_SameWays => k_is)
    (case kne_NotAlike_SameWays => first | rfl | decide | k_is)
    (case is_NotAlike_UnknownName => k_is)
    (case kne_NotAlike_UnknownName => first | rfl | decide | k_is)
    (case xn_NotAlike_at => k_is)
    (case xn_NotAlike_kind => k_is)
    (case xn_NotAlike_letter => k_is)
    (case xn_NotAlike_name => k_is)
    (case xn_NotAlike_path => k_is)
    (case xn_NotAlike_rule => k_is)
    (case cf_NothingToUndo => k_is)
    (case ct_NothingToUndo => k_is)
    (case xg_NothingToUndo => k_is)
    (case xh_NothingToUndo => k_is)
    (case xd_NothingToUndo => k_is)
    (case oha_NothingToUndo => k_is)
    (case mo_NothingToUndo => k_is)
    (case iv_NothingToUndo => k_is)
    (case is_NothingToUndo_Alike => k_is)
    (case kne_NothingToUndo_Alike => first | rfl | decide | k_is)
    (case is_NothingToUndo_BadFold => k_is)
    (case kne_NothingToUndo_BadFold => first | rfl | decide | k_is)
    (case is_NothingToUndo_BadPlan => k_is)
    (case kne_NothingToUndo_BadPlan => first | rfl | decide | k_is)
    (case is_NothingToUndo_BadRule => k_is)
    (case kne_NothingToUndo_BadRule => first | rfl | decide | k_is)
    (case is_NothingToUndo_BadTable => k_is)
    (case kne_NothingToUndo_BadTable => first | rfl | decide | k_is)
    (case is_NothingToUndo_NoConstant => k_is)
    (case kne_NothingToUndo_NoConstant => first | rfl | decide | k_is)
    (case is_NothingToUndo_NoPlace => k_is)
    (case kne_NothingToUndo_NoPlace => first | rfl | decide | k_is)
    (case is_NothingToUndo_NoStep => k_is)
    (case kne_NothingToUndo_NoStep => first | rfl | decide | k_is)
    (case is_NothingToUndo_NoWay => k_is)
    (case kne_NothingToUndo_NoWay => first | rfl | decide | k_is)
    (case is_NothingToUndo_NotAlike => k_is)
    (case kne_NothingToUndo_NotAlike => first | rfl | decide | k_is)
    (case is_NothingToUndo_NothingToUndo => k_is)
    (case is_NothingToUndo_SameWays => k_is)
    (case kne_NothingToUndo_SameWays => first | rfl | decide | k_is)
    (case is_NothingToUndo_UnknownName => k_is)
    (case kne_NothingToUndo_UnknownName => first | rfl | decide | k_is)
    (case xn_NothingToUndo_at => k_is)
    (case xn_NothingToUndo_kind => k_is)
    (case xn_NothingToUndo_letter => k_is)
    (case xn_NothingToUndo_name => k_is)
    (case xn_NothingToUndo_path => k_is)
    (case xn_NothingToUndo_rule => k_is)
    (case xn_NothingToUndo_rules => k_is)
    (case cf_SameWays => k_is)
    (case ct_SameWays => k_is)
    (case xg_SameWays => k_is)
    (case xh_SameWays => k_is)
    (case xd_SameWays => k_is)
    (case oha_SameWays => k_is)
    (case mo_SameWays => k_is)
    (case iv_SameWays => k_is)
    (case is_SameWays_Alike => k_is)
    (case kne_SameWays_Alike => first | rfl | decide | k_is)
    (case is_SameWays_BadFold => k_is)
    (case kne_SameWays_BadFold => first | rfl | decide | k_is)
    (case is_SameWays_BadPlan => k_is)
    (case kne_SameWays_BadPlan => first | rfl | decide | k_is)
    (case is_SameWays_BadRule => k_is)
    (case kne_SameWays_BadRule => first | rfl | decide | k_is)
    (case is_SameWays_BadTable => k_is)
    (case kne_SameWays_BadTable => first | rfl | decide | k_is)
    (case is_SameWays_NoConstant => k_is)
    (case kne_SameWays_NoConstant => first | rfl | decide | k_is)
    (case is_SameWays_NoPlace => k_is)
    (case kne_SameWays_NoPlace => first | rfl | decide | k_is)
    (case is_SameWays_NoStep => k_is)
    (case kne_SameWays_NoStep => first | rfl | decide | k_is)
    (case is_SameWays_NoWay => k_is)
    (case kne_SameWays_NoWay => first | rfl | decide | k_is)
    (case is_SameWays_NotAlike => k_is)
    (case kne_SameWays_NotAlike => first | rfl | decide | k_is)
    (case is_SameWays_NothingToUndo => k_is)
    (case kne_SameWays_NothingToUndo => first | rfl | decide | k_is)
    (case is_SameWays_SameWays => k_is)
    (case is_SameWays_UnknownName => k_is)
    (case kne_SameWays_UnknownName => first | rfl | decide | k_is)
    (case xn_SameWays_at => k_is)
    (case xn_SameWays_kind => k_is)
    (case xn_SameWays_letter => k_is)
    (case xn_SameWays_name => k_is)
    (case xn_SameWays_path => k_is)
    (case xn_SameWays_rule => k_is)
    (case xn_SameWays_rules => k_is)
    (case cf_UnknownName => k_is)
    (case ct_UnknownName => k_is)
    (case xg_UnknownName => k_is)
    (case xh_UnknownName => k_is)
    (case xd_UnknownName => k_is)
    (case oha_UnknownName => k_is)
    (case mo_UnknownName => k_is)
    (case iv_UnknownName => k_is)
    (case is_UnknownName_Alike => k_is)
    (case kne_UnknownName_Alike => first | rfl | decide | k_is)
    (case is_UnknownName_BadFold => k_is)
    (case kne_UnknownName_BadFold => first | rfl | decide | k_is)
    (case is_UnknownName_BadPlan => k_is)
    (case kne_UnknownName_BadPlan => first | rfl | decide | k_is)
    (case is_UnknownName_BadRule => k_is)
    (case kne_UnknownName_BadRule => first | rfl | decide | k_is)
    (case is_UnknownName_BadTable => k_is)
    (case kne_UnknownName_BadTable => first | rfl | decide | k_is)
    (case is_UnknownName_NoConstant => k_is)
    (case kne_UnknownName_NoConstant => first | rfl | decide | k_is)
    (case is_UnknownName_NoPlace => k_is)
    (case kne_UnknownName_NoPlace => first | rfl | decide | k_is)
    (case is_UnknownName_NoStep => k_is)
    (case kne_UnknownName_NoStep => first | rfl | decide | k_is)
    (case is_UnknownName_NoWay => k_is)
    (case kne_UnknownName_NoWay => first | rfl | decide | k_is)
    (case is_UnknownName_NotAlike => k_is)
    (case kne_UnknownName_NotAlike => first | rfl | decide | k_is)
    (case is_UnknownName_NothingToUndo => k_is)
    (case kne_UnknownName_NothingToUndo => first | rfl | decide | k_is)
    (case is_UnknownName_SameWays => k_is)
    (case kne_UnknownName_SameWays => first | rfl | decide | k_is)
    (case is_UnknownName_UnknownName => k_is)
    (case xn_UnknownName_at => k_is)
    (case xn_UnknownName_kind => k_is)
    (case xn_UnknownName_letter => k_is)
    (case xn_UnknownName_path => k_is)
    (case xn_UnknownName_rule => k_is)
    (case xn_UnknownName_rules => k_is)
    (case n_ValueError => k_is)
    (case n_abs => k_is)
    (case n_int => k_is)
    (case n_isinstance => k_is)
    (case n_len => k_is)
    (case n_range => k_is)
