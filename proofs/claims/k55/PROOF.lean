import PyProof.Rows.All
import Wide.All
import OpenK.AllK
import Wide.FinOn
import HandS.ForMost
import HandS.ForExc
import HandS.CallSlots
import HandS.ClsMeth
import HandS.Lambda
import KE.KNestM
import HandS.Wide
import HandS.TupAny
import HandS.Deep
import HandS.IsInst
import HandS.More
import HandS.StrMore
import HandS.Flow
import HandS.Iter
import HandS.RevRange
import HandS.Defaults
import HandS.OwnEq
import HandS.Text
import HandS.WordsExc
import KE.KOpsOwn
import KE.KCallOwn
import HandS.SlotsOwn
import HandS.RaiseMore
import HandS.Small
import HandS.Style
import HandS.TryOnly
import HandS.ExcInit
import HandS.ExcField
import HandS.FStr
import HandS.StrSplit
import KE.SortKeyHeap
import KE.KSortKey
import HandS.EndTab
import HandS.HeadWalk
import KE.KRevSl
import HandS.HotCalls
import KE.GoesEnum
import HandS.SetFor
import HandS.Dict
import HandS.Conv
import HandS.NoneIn
import HandS.SetBool
import HandS.Star
import HandS.TupLe
import HandS.MakeKwOnly
import HandS.ReplaceLit
import HandS.ReplaceDef
import PyProof.EqAt
import HandS.OwnIter
import HandS.IterVal
import PyProof.NeKinds
import HandS.SuiteRaise
import HandS.ExcInitHot
import HandS.RaiseFrom
import HandS.DictComp
import HandS.ReplaceList
import HandS.CallLocal
import PyProof.SeqRoads2
import PyProof.EqKinds
import PyProof.StrReplace2
import PyProof.ListOps
import PySem.Challenge.RW_neededlaws_k55_known_least_rules
set_option Elab.async false
set_option linter.all false
set_option maxRecDepth 100000
namespace DL
open PySem PySem.Spec L2
open PyProof.Rows hiding St
/-- plain data; a text is its codes; an object carries its class's name, its attributes' names and values -/
inductive D where
  | non
  | bl (b : Bool)
  | int (i : Int)
  | str (x : List Nat)
  | tup (ds : List D)
  | lst (ds : List D)
  | flst (ds : List D)
  | obj (C : String) (ns : List String) (ds : List D)
  | dic (ks : List D) (ds : List D)
  | glo (x : String)
  | ty (n : String)
  | exn (C : String) (ns : List String) (ds : List D) (x d : Addr)
  | cell (n : Nat)
/-- what stands in a changeable place -/
inductive MO where
  | lst (ds : List D)
  | obj (C : String) (ns : List String) (ds : List D)
  | dic (ks : List D) (ds : List D)
  /-- place i is the table of the code of C.m -/
  | tab (i : Nat) (C m : String)
abbrev MS := List MO
/-- how a piece of the program ends -/
inductive Res (A : Type) where
  | ok (a : A) (M : MS)
  | exc (C : String) (ns : List String) (ds : List D) (M : MS)
  | stuck
def Res.bind {A B : Type} (x : Res A) (k : A → MS → Res B) : Res B :=
  match x with
  | .ok a M => k a M
  | .exc C ns ds M => .exc C ns ds M
  | .stuck => .stuck
@[simp] theorem Res.bind_ok {A B : Type} (a : A) (M : MS) (k : A → MS → Res B) : (Res.ok a M).bind k = k a M := rfl
@[simp] theorem Res.bind_exc {A B : Type} (C : String) (ns : List String) (ds : List D) (M : MS) (k : A → MS → Res B) : (Res.exc C ns ds M : Res A).bind k = .exc C ns ds M := rfl
@[simp] theorem Res.bind_stuck {A B : Type} (k : A → MS → Res B) : (Res.stuck : Res A).bind k = .stuck := rfl
/-- the places that are looked through: changeable ones by number, and hidden ones -/
structure Pl where
  ro : List Addr
  hid : List Addr
abbrev Pl.all (p : Pl) : List Addr := p.ro ++ p.hid
abbrev tx (x : List Nat) : Str := ⟨x.toArray⟩
def zipF (ns : List String) (vs : List V) : List (Str × V) := (ns.map Str.ofString).zip vs
/-- a key of a dict, as data -/
def keyD : D → Option Key
  | .int i => some (.inl i)
  | .str x => some (.inr (tx x))
  | _ => none
def keysD : List D → Option (List Key)
  | [] => some []
  | d :: r => match keyD d, keysD r with
    | some k, some l => some (k :: l)
    | _, _ => none
/-- how the hash of a text is found -/
class HashW where
  hs : Str → Int
instance (priority := low) : HashW := ⟨fun _ => 0⟩
variable [HashW]
def keyHW : Key → Int
  | .inl k => hashInt k
  | .inr x => HashW.hs x
def tupHW (ks : List Key) : Int := reduceHash (Builtin.Tuple.tupleHashOf (ks.map keyHW))
/-- what stands in a dict whose keys are tuples: the keys, where they stand, the values -/
inductive TRel : List (List Key) → List V → List (List Key × Addr × Value) → Prop where
  | nil : TRel [] [] []
  | cons {k : List Key} {b : Addr} {v : V} {u : Value} {l : List (List Key)} {vs : List V} {xs : List (List Key × Addr × Value)} : RelV v u → TRel l vs xs → TRel (k :: l) (.ref b :: v :: vs) ((k, b, u) :: xs)
def entHW (x : List Key × Addr × Value) : DictEntry := ⟨tupHW x.1, .ref x.2.1, x.2.2⟩
def TDict (a : Addr) (l : List (List Key)) (vs : List V) (h : Heap) : Prop :=
  (a == sysModules) = false ∧ ∃ xs, TRel l vs xs ∧ ∃ o es ep, h.get? a = some o ∧ o.ExactDict ∧ o.data = .dict es ep ∧ es.toList = xs.map entHW ∧ (xs.map (·.1)).Nodup
/-- the keys of a dict: ints and texts, or tuples of these (told behind a .non) -/
inductive KLs where
  | k (l : List Key)
  | t (l : List (List Key))
def KLs.fit : KLs → List V → Prop
  | .k l, vs => l.length = vs.length
  | .t _, _ => True
def KLs.ho (a : Addr) : KLs → List V → HO
  | .k l, vs => .dK (l.zip vs)
  | .t l, vs => .ext (TDict a l vs)
def keysT : List D → Option (List (List Key))
  | [] => some []
  | .tup l :: r => match keysD l, keysT r with
    | some k, some ks => some (k :: ks)
    | _, _ => none
  | _ => none
def keysG : List D → Option KLs
  | .non :: r => (keysT r).map .t
  | ks => (keysD ks).map .k
theorem keysG_of {ks : List D} {kl : List Key} (h : keysD ks = some kl) : keysG ks = some (.k kl) := by
  unfold keysG
  split
  · cases h
  · rw [h]; rfl
def KL (K : PySem.W.Frag) (a : Addr) (xs : List V) : Prop :=
  ∃ (o : Obj) (its : Array Value) (n : Nat), K.lookup a = some o ∧ o.cls = .type "list" ∧ o.dict = none ∧ o.data = .seq its n ∧ its.size ≤ sizeLine ∧ Vals xs its.toList
def KT (K : PySem.W.Frag) (a : Addr) (xs : List V) : Prop :=
  ∃ (o : Obj) (its : Array Value) (n : Nat), K.lookup a = some o ∧ o.cls = .type "tuple" ∧ o.data = .seq its n ∧ its.size ≤ sizeLine ∧ Vals xs its.toList
/-- a list, a tuple that stays as it is: no changeable place, or one of the written part -/
def SL (K : PySem.W.Frag) (ro : Pl) (H : Hp) (a : Addr) (xs : List V) : Prop := (Rd H a (.lst xs) ∧ a ∉ ro.all) ∨ KL K a xs
def ST (K : PySem.W.Frag) (ro : Pl) (H : Hp) (a : Addr) (xs : List V) : Prop := (Rd H a (.tup xs) ∧ a ∉ ro.all) ∨ KT K a xs
theorem SL.sq {K : PySem.W.Frag} {ro : Pl} {H : Hp} {a : Addr} {xs : List V} (h : SL K ro H a xs) : SqL K H a xs := by
  rcases h with ⟨h, _⟩ | h
  · exact .inl h
  · exact .inr h
theorem ST.sq {K : PySem.W.Frag} {ro : Pl} {H : Hp} {a : Addr} {xs : List V} (h : ST K ro H a xs) : SqT K H a xs := by
  rcases h with ⟨h, _⟩ | h
  · exact .inl h
  · exact .inr h
mutual
/-- the value v stands for the datum, with the changeable places at ro -/
def Rep (K : PySem.W.Frag) (mg : Str → Option Value) (ro : Pl) (H : Hp) : D → V → Prop
  | .non, v => v = .non
  | .bl b, v => v = .bl b
  | .int i, v => v = .int i
  | .str x, v => v = .str (tx x)
  | .tup ds, v => ∃ a vs, v = .ref a ∧ ST K ro H a vs ∧ Reps K mg ro H ds vs
  | .lst ds, v => ∃ a vs, v = .ref a ∧ H a = some (.lst vs) ∧ a ∉ ro.all ∧ Reps K mg ro H ds vs
  | .flst ds, v => ∃ a vs, v = .ref a ∧ SL K ro H a vs ∧ Reps K mg ro H ds vs
  | .obj C ns ds, v => ∃ a c dx vs, v = .ref a ∧ mg (Str.ofString C) = some (.ref c) ∧ H a = some (.ins c dx (zipF ns vs)) ∧ a ∉ ro.all ∧ ns.length = vs.length ∧ Reps K mg ro H ds vs
  | .dic ks ds, v => ∃ a kl vs, v = .ref a ∧ keysG ks = some kl ∧ kl.fit vs ∧ H a = some (kl.ho a vs) ∧ a ∉ ro.all ∧ Reps K mg ro H ds vs
  | .glo x, v => ∃ a, v = .ref a ∧ mg (Str.ofString x) = some (.ref a)
  | .ty n, v => v = .ty n
  | .exn C ns ds x d, v => ∃ a vs, (v = .ref a ∧ a = x) ∧ H d = some (.xd (zipF ns vs)) ∧ d ∉ ro.all ∧ ns.length = vs.length ∧ Reps K mg ro H ds vs
  | .cell n, v => ∃ a, v = .ref a ∧ ro.ro[n]? = some a
def Reps (K : PySem.W.Frag) (mg : Str → Option Value) (ro : Pl) (H : Hp) : List D → List V → Prop
  | [], vs => vs = []
  | d :: ds, vs => ∃ v r, vs = v :: r ∧ Rep K mg ro H d v ∧ Reps K mg ro H ds r
end
/-- what was tracked outside of the changeable places stands; changeable places are old ones or new -/
structure Pres (ro : Pl) (H : Hp) (ro' : Pl) (H' : Hp) : Prop where
  pre : ∃ t, ro'.ro = ro.ro ++ t
  hid : ro'.hid = ro.hid
  keep : ∀ a o, H a = some o → a ∉ ro.ro → H' a = some o
  new : ∀ a, a ∈ ro'.ro → a ∈ ro.ro ∨ H a = none
theorem Pres.refl (ro : Pl) (H : Hp) : Pres ro H ro H := ⟨⟨[], by simp⟩, rfl, fun _ _ h _ => h, fun _ h => .inl h⟩
theorem Pres.mem {ro ro' : Pl} {H H' : Hp} (p : Pres ro H ro' H') {a : Addr} (h : a ∈ ro.ro) : a ∈ ro'.ro := by
  obtain ⟨t, e⟩ := p.pre
  rw [e]; exact List.mem_append_left _ h
theorem Pres.trans {r0 r1 r2 : Pl} {H0 H1 H2 : Hp} (p : Pres r0 H0 r1 H1) (q : Pres r1 H1 r2 H2) : Pres r0 H0 r2 H2 := by
  refine ⟨?_, q.hid.trans p.hid, fun a o h hn => ?_, fun a h => ?_⟩
  · obtain ⟨t, e⟩ := p.pre
    obtain ⟨u, e'⟩ := q.pre
    exact ⟨t ++ u, by rw [e', e, List.append_assoc]⟩
  · refine q.keep a o (p.keep a o h hn) fun hm => ?_
    rcases p.new a hm with z | z
    · exact hn z
    · rw [h] at z; cases z
  · rcases q.new a h with z | z
    · exact p.new a z
    · by_cases hm : a ∈ r0.ro
      · exact .inl hm
      · refine .inr ?_
        cases e : H0 a with
        | none => rfl
        | some o => rw [p.keep a o e hm] at z; cases z
theorem Pl.out_ro {p : Pl} {a : Addr} (h : a ∉ p.all) : a ∉ p.ro := fun z => h (List.mem_append_left _ z)
theorem Pl.out_hid {p : Pl} {a : Addr} (h : a ∉ p.all) : a ∉ p.hid := fun z => h (List.mem_append_right _ z)
theorem Pres.out {ro ro' : Pl} {H H' : Hp} (p : Pres ro H ro' H') {a : Addr} (hn : a ∉ ro.all) (hl : H a ≠ none) : a ∉ ro'.all := fun hm => by
  rcases List.mem_append.mp hm with hm | hm
  · rcases p.new a hm with z | z
    · exact Pl.out_ro hn z
    · exact hl z
  · rw [p.hid] at hm; exact Pl.out_hid hn hm
theorem Pres.get {ro ro' : Pl} {H H' : Hp} (p : Pres ro H ro' H') {n : Nat} {a : Addr} (h : ro.ro[n]? = some a) : ro'.ro[n]? = some a := by
  obtain ⟨t, e⟩ := p.pre
  rw [e, List.getElem?_append_left (List.getElem?_eq_some_iff.mp h).1]
  exact h
/-- the same where more may be hidden -/
structure PresW (ro : Pl) (H : Hp) (ro' : Pl) (H' : Hp) : Prop where
  pre : ∃ t, ro'.ro = ro.ro ++ t
  keep : ∀ a o, H a = some o → a ∉ ro.all → H' a = some o
  new : ∀ a, a ∈ ro'.all → a ∈ ro.all ∨ H a = none
theorem Pres.w {ro ro' : Pl} {H H' : Hp} (p : Pres ro H ro' H') : PresW ro H ro' H' := ⟨p.pre, fun a o h n => p.keep a o h (Pl.out_ro n), fun a h => by
  rcases List.mem_append.mp h with h | h
  · rcases p.new a h with z | z
    · exact .inl (List.mem_append_left _ z)
    · exact .inr z
  · rw [p.hid] at h; exact .inl (List.mem_append_right _ h)⟩
theorem PresW.out {ro ro' : Pl} {H H' : Hp} (p : PresW ro H ro' H') {a : Addr} (hn : a ∉ ro.all) (hl : H a ≠ none) : a ∉ ro'.all := fun hm => by
  rcases p.new a hm with z | z
  · exact hn z
  · exact hl z
theorem PresW.get {ro ro' : Pl} {H H' : Hp} (p : PresW ro H ro' H') {n : Nat} {a : Addr} (h : ro.ro[n]? = some a) : ro'.ro[n]? = some a := by
  obtain ⟨t, e⟩ := p.pre
  rw [e, List.getElem?_append_left (List.getElem?_eq_some_iff.mp h).1]
  exact h
section
variable {K : PySem.W.Frag} {mg : Str → Option Value} {ro ro' : Pl} {H H' : Hp}
theorem PresW.rd (p : PresW ro H ro' H') {a : Addr} {u : HO} (h : Rd H a u) (hn : a ∉ ro.all) : Rd H' a u ∧ a ∉ ro'.all := by
  rcases h with h | ⟨o, h⟩
  · exact ⟨.inl (p.keep a _ h hn), p.out hn (by rw [h]; simp)⟩
  · exact ⟨.inr ⟨o, p.keep a _ h hn⟩, p.out hn (by rw [h]; simp)⟩
theorem PresW.sl (p : PresW ro H ro' H') {a : Addr} {vs : List V} (h : SL K ro H a vs) : SL K ro' H' a vs := by
  rcases h with ⟨h, n⟩ | h
  · exact .inl (p.rd h n)
  · exact .inr h
theorem PresW.st (p : PresW ro H ro' H') {a : Addr} {vs : List V} (h : ST K ro H a vs) : ST K ro' H' a vs := by
  rcases h with ⟨h, n⟩ | h
  · exact .inl (p.rd h n)
  · exact .inr h
mutual
theorem Rep.monoW (p : PresW ro H ro' H') : ∀ (d : D) (v : V), Rep K mg ro H d v → Rep K mg ro' H' d v
  | .non, v, h => h
  | .bl b, v, h => h
  | .int i, v, h => h
  | .str x, v, h => h
  | .tup ds, v, ⟨a, vs, e, q, r⟩ => ⟨a, vs, e, p.st q, Reps.monoW p ds vs r⟩
  | .lst ds, v, ⟨a, vs, e, q, n, r⟩ => ⟨a, vs, e, p.keep a _ q n, p.out n (by rw [q]; simp), Reps.monoW p ds vs r⟩
  | .flst ds, v, ⟨a, vs, e, q, r⟩ => ⟨a, vs, e, p.sl q, Reps.monoW p ds vs r⟩
  | .obj C ns ds, v, ⟨a, c, dx, vs, e, g, q, n, l, r⟩ => ⟨a, c, dx, vs, e, g, p.keep a _ q n, p.out n (by rw [q]; simp), l, Reps.monoW p ds vs r⟩
  | .dic ks ds, v, ⟨a, kl, vs, e, g, l, q, n, r⟩ => ⟨a, kl, vs, e, g, l, p.keep a _ q n, p.out n (by rw [q]; simp), Reps.monoW p ds vs r⟩
  | .glo x, v, h => h
  | .ty n, v, h => h
  | .exn C ns ds x d, v, ⟨a, vs, e, q, n, l, r⟩ => ⟨a, vs, e, p.keep d _ q n, p.out n (by rw [q]; simp), l, Reps.monoW p ds vs r⟩
  | .cell n, v, ⟨a, e, g⟩ => ⟨a, e, p.get g⟩
theorem Reps.monoW (p : PresW ro H ro' H') : ∀ (ds : List D) (vs : List V), Reps K mg ro H ds vs → Reps K mg ro' H' ds vs
  | [], vs, h => h
  | d :: ds, vs, ⟨v, r, e, h, t⟩ => ⟨v, r, e, Rep.monoW p d v h, Reps.monoW p ds r t⟩
end
theorem Rep.mono (p : Pres ro H ro' H') (d : D) (v : V) (h : Rep K mg ro H d v) : Rep K mg ro' H' d v := Rep.monoW p.w d v h
theorem Reps.mono (p : Pres ro H ro' H') (ds : List D) (vs : List V) (h : Reps K mg ro H ds vs) : Reps K mg ro' H' ds vs := Reps.monoW p.w ds vs h
end
/-- the def at g has the table P -/
def TabOf (K : PySem.W.Frag) (g P : Addr) : Prop := ∃ (oc : Value) (od : Option Addr) (fd : FuncData) (sl : Array (Option Value)) (c : Addr), K.lookup g = some ⟨oc, od, .func fd, sl⟩ ∧ fd.code = .ref c ∧ PySem.W.codeHdIn K c P = true
/-- the table of the classmethod C.m, of the def m -/
def IsTab (K : PySem.W.Frag) (mg : Str → Option Value) (C m : String) (P : Addr) : Prop :=
  (C = "" ∧ ∃ g, mg (Str.ofString m) = some (.ref g) ∧ TabOf K g P) ∨
  (C ≠ "" ∧ ∃ c p g rest, mg (Str.ofString C) = some (.ref c) ∧ PySem.W.findCls K (.ref c) (.type "type") (Str.ofString m) = some (.get (.builtin "classmethod.__get__") (.ref p) .none (.ref c)) ∧ PySem.W.recIn K p "classmethod" = some (.ref g :: rest) ∧ TabOf K g P)
theorem TabOf.one {K : PySem.W.Frag} {g P P' : Addr} (h : TabOf K g P) (h' : TabOf K g P') : P = P' := by
  obtain ⟨oc, od, fd, sl, c, l, e, k⟩ := h
  obtain ⟨oc', od', fd', sl', c', l', e', k'⟩ := h'
  rw [l] at l'; cases l'
  rw [e] at e'; cases e'
  unfold PySem.W.codeHdIn at k k'
  split at k
  · rename_i vs sl hk
    rw [hk] at k'
    simp only [Bool.and_eq_true] at k k'
    obtain ⟨⟨⟨⟨⟨e1, _⟩, _⟩, _⟩, _⟩, _⟩ := k
    obtain ⟨⟨⟨⟨⟨e2, _⟩, _⟩, _⟩, _⟩, _⟩ := k'
    split at e1
    · rename_i q hq
      rw [hq] at e2
      simp at e1 e2
      exact e1.symm.trans e2
    · cases e1
  · cases k
theorem IsTab.one {K : PySem.W.Frag} {mg : Str → Option Value} {C m : String} {P P' : Addr} (h : IsTab K mg C m P) (h' : IsTab K mg C m P') : P = P' := by
  rcases h with ⟨e, g, h1, h2⟩ | ⟨e, c, p, g, rest, h1, h2, h3, h4⟩
  · rcases h' with ⟨_, g', h1', h2'⟩ | ⟨e', _⟩
    · rw [h1] at h1'; cases h1'; exact h2.one h2'
    · exact absurd e e'
  · rcases h' with ⟨e', _⟩ | ⟨_, c', p', g', rest', h1', h2', h3', h4'⟩
    · exact absurd e' e
    · rw [h1] at h1'; cases h1'
      rw [h2] at h2'; cases h2'
      rw [h3] at h3'; cases h3'
      exact h4.one h4'
/-- the name of the code that the def C.m's lambda has -/
def lamQ (C m : String) : Str := (if C = "" then Str.ofString m else Str.ofString C ++ "." ++ Str.ofString m) ++ ".<locals>." ++ "<lambda>"
/-- what stands at a changeable place -/
def MRel (K : PySem.W.Frag) (mg : Str → Option Value) (ro : Pl) (H : Hp) : MO → HO → Prop
  | .lst ds, ho => ∃ vs, ho = .lst vs ∧ Reps K mg ro H ds vs
  | .obj C ns ds, ho => ∃ c dx vs, ho = .ins c dx (zipF ns vs) ∧ mg (Str.ofString C) = some (.ref c) ∧ ns.length = vs.length ∧ Reps K mg ro H ds vs
  | .dic ks ds, ho => ∃ kl vs, ho = .dK (kl.zip vs) ∧ keysD ks = some kl ∧ kl.length = vs.length ∧ Reps K mg ro H ds vs
  | .tab i C m, ho => ∃ ps P, ho = .tbl ps ∧ (TriplesOk ps.toList ∧ ∀ (pos : Pos) (cv : Value), codeAmong pos ps.toList = some cv → ∃ c, cv = .ref c ∧ H c = some (LamX.CodeO c (lamQ C m)) ∧ c ∉ ro.all) ∧ ro.ro[i]? = some P ∧ IsTab K mg C m P
/-- the changeable places -/
structure RelS (K : PySem.W.Frag) (mg : Str → Option Value) (ro : Pl) (M : MS) (H : Hp) : Prop where
  len : ro.ro.length = M.length
  nd : ro.ro.Nodup
  live : ∀ a, a ∈ ro.hid → ∃ o, H a = some o
  dis : ∀ a, a ∈ ro.ro → a ∉ ro.hid
  at_ : ∀ (i : Nat) mo a, M[i]? = some mo → ro.ro[i]? = some a → ∃ ho, H a = some ho ∧ MRel K mg ro H mo ho
/-- the slots -/
def RepSt (K : PySem.W.Frag) (mg : Str → Option Value) (ro : Pl) (H : Hp) (sd : List (Option D)) (st : St) : Prop :=
  sd.length = st.length ∧ ∀ (i : Nat) d, sd[i]? = some (some d) → ∃ v, st[i]? = some (some v) ∧ Rep K mg ro H d v
theorem RepSt.mono {K : PySem.W.Frag} {mg : Str → Option Value} {ro ro' : Pl} {H H' : Hp} {sd : List (Option D)} {st : St} (p : Pres ro H ro' H') (h : RepSt K mg ro H sd st) : RepSt K mg ro' H' sd st :=
  ⟨h.1, fun i d e => let ⟨v, e', r⟩ := h.2 i d e; ⟨v, e', Rep.mono p d v r⟩⟩
theorem RepSt.monoW {K : PySem.W.Frag} {mg : Str → Option Value} {ro ro' : Pl} {H H' : Hp} {sd : List (Option D)} {st : St} (p : PresW ro H ro' H') (h : RepSt K mg ro H sd st) : RepSt K mg ro' H' sd st :=
  ⟨h.1, fun i d e => let ⟨v, e', r⟩ := h.2 i d e; ⟨v, e', Rep.monoW p d v r⟩⟩
theorem RepSt.set {K : PySem.W.Frag} {mg : Str → Option Value} {ro : Pl} {H : Hp} {sd : List (Option D)} {st : St} (h : RepSt K mg ro H sd st) {i : Nat} {d : D} {v : V} (r : Rep K mg ro H d v) : RepSt K mg ro H (sd.set i (some d)) (st.set i (some v)) := by
  refine ⟨by simp [h.1], fun j e q => ?_⟩
  by_cases hj : i = j
  · subst hj
    by_cases hl : i < sd.length
    · rw [List.getElem?_set_self hl] at q
      cases q
      exact ⟨v, by rw [List.getElem?_set_self (by rw [← h.1]; exact hl)], r⟩
    · rw [List.getElem?_eq_none (by simpa using hl)] at q; cases q
  · rw [List.getElem?_set_ne hj] at q
    obtain ⟨w, e', r'⟩ := h.2 j e q
    exact ⟨w, by rw [List.getElem?_set_ne hj]; exact e', r'⟩
theorem RepSt.unset {K : PySem.W.Frag} {mg : Str → Option Value} {ro : Pl} {H : Hp} {sd : List (Option D)} {st : St} (h : RepSt K mg ro H sd st) {i : Nat} {o : Option V} : RepSt K mg ro H (sd.set i none) (st.set i o) := by
  refine ⟨by simp [h.1], fun j e q => ?_⟩
  by_cases hj : i = j
  · subst hj
    by_cases hl : i < sd.length
    · rw [List.getElem?_set_self hl] at q; cases q
    · rw [List.getElem?_eq_none (by simpa using hl)] at q; cases q
  · rw [List.getElem?_set_ne hj] at q
    obtain ⟨w, e', r'⟩ := h.2 j e q
    exact ⟨w, by rw [List.getElem?_set_ne hj]; exact e', r'⟩
/-- an exception as HandS tells it: its class and its own dict -/
def RepX (K : PySem.W.Frag) (mg : Str → Option Value) (ro : Pl) (H : Hp) (C : String) (ns : List String) (ds : List D) (cls : Value) (dd : Option Addr) : Prop :=
  ∃ c, cls = .ref c ∧ mg (Str.ofString C) = some (.ref c) ∧ ((dd = none ∧ ns = [] ∧ ds = []) ∨ ∃ d vs, dd = some d ∧ H d = some (.xd (zipF ns vs)) ∧ d ∉ ro.all ∧ ns.length = vs.length ∧ Reps K mg ro H ds vs)
/-- what is to be shown where a piece has ended so; W: what is wished of an exception -/
def Post {A B : Type} (R : Pl → Hp → A → B → Prop) (K : PySem.W.Frag) (mg : Str → Option Value) (E : XK) (ro : Pl) (H : Hp) (Q : B → Hp → Prop) : Res A → Prop
  | .ok a M => ∀ ro' H' v, RelS K mg ro' M H' → Pres ro H ro' H' → R ro' H' a v → Q v H'
  | .exc C ns ds M => ∀ ro' H' cls dd, RelS K mg ro' M H' → Pres ro H ro' H' → RepX K mg ro' H' C ns ds cls dd → E cls dd H'
  | .stuck => False
section
variable {A A' B B' : Type} {R : Pl → Hp → A → B → Prop} {R' : Pl → Hp → A' → B' → Prop} {K : PySem.W.Frag} {mg : Str → Option Value} {E : XK} {ro ro1 : Pl} {H H1 : Hp} {Q : B → Hp → Prop}
theorem Post.moves {x : Res A} (h : Post R K mg E ro H Q x) (p : Pres ro H ro1 H1) : Post R K mg E ro1 H1 Q x := by
  cases x with
  | ok a M => exact fun ro' H' v rs q r => h ro' H' v rs (p.trans q) r
  | exc C ns ds M => exact fun ro' H' cls dd rs q r => h ro' H' cls dd rs (p.trans q) r
  | stuck => exact h
/-- one piece behind another -/
theorem Post.bind {x : Res A} {k : A → MS → Res A'} {Q' : B' → Hp → Prop} (h : Post R' K mg E ro H Q' (x.bind k)) :
    Post R K mg E ro H (fun v H1 => ∃ ro1 M1 a, RelS K mg ro1 M1 H1 ∧ Pres ro H ro1 H1 ∧ R ro1 H1 a v ∧ Post R' K mg E ro1 H1 Q' (k a M1)) x := by
  cases x with
  | ok a M => exact fun ro' H' v rs q r => ⟨ro', M, a, rs, q, r, Post.moves h q⟩
  | exc C ns ds M => exact h
  | stuck => exact h
theorem Post.imp {x : Res A} {Q' : B → Hp → Prop} (h : Post R K mg E ro H Q x) (f : ∀ v H', Q v H' → Q' v H') : Post R K mg E ro H Q' x := by
  cases x with
  | ok a M => exact fun ro' H' v rs q r => f _ _ (h ro' H' v rs q r)
  | exc C ns ds M => exact h
  | stuck => exact h
end
abbrev PostD (K : PySem.W.Frag) (mg : Str → Option Value) (E : XK) (ro : Pl) (H : Hp) (Q : VK) (x : Res D) : Prop := Post (fun ro' H' d v => Rep K mg ro' H' d v) K mg E ro H Q x
abbrev PostB (K : PySem.W.Frag) (mg : Str → Option Value) (E : XK) (ro : Pl) (H : Hp) (Q : Bool → Hp → Prop) (x : Res Bool) : Prop := Post (fun _ _ (b : Bool) c => c = b) K mg E ro H Q x
abbrev PostA (K : PySem.W.Frag) (mg : Str → Option Value) (E : XK) (ro : Pl) (H : Hp) (Q : List V → Hp → Prop) (x : Res (List D)) : Prop := Post (fun ro' H' ds vs => Reps K mg ro' H' ds vs) K mg E ro H Q x
abbrev SD := List (Option D)
abbrev ME := SD → MS → Res D
abbrev MB := SD → MS → Res Bool
abbrev MA := SD → MS → Res (List D)
def liftE (K : PySem.W.Frag) (mg : Str → Option Value) (W : WX) (m : ME) : TE := fun st H Q => ∃ ro sd M, RelS K mg ro M H ∧ RepSt K mg ro H sd st ∧ PostD K mg (fun c d H' => W c d st H') ro H Q (m sd M)
def liftB (K : PySem.W.Frag) (mg : Str → Option Value) (W : WX) (m : MB) : TT := fun st H Q => ∃ ro sd M, RelS K mg ro M H ∧ RepSt K mg ro H sd st ∧ PostB K mg (fun c d H' => W c d st H') ro H Q (m sd M)
def liftA (K : PySem.W.Frag) (mg : Str → Option Value) (W : WX) (m : MA) : TA := fun st H Q => ∃ ro sd M, RelS K mg ro M H ∧ RepSt K mg ro H sd st ∧ PostA K mg (fun c d H' => W c d st H') ro H Q (m sd M)
structure DE (X : Cx) (W : WX) (e : Expr) (m : ME) : Prop where
  pe : PE X e (liftE X.K X.mg W m)
structure DT (X : Cx) (W : WX) (e : Expr) (m : MB) : Prop where
  pt : PT X e (liftB X.K X.mg W m)
structure DW (X : Cx) (W : WX) (e : Expr) (m : MB) : Prop where
  pw : PW X e (liftB X.K X.mg W m)
structure DA (X : Cx) (W : WX) (es : List Expr) (m : MA) : Prop where
  pa : PA X es (liftA X.K X.mg W m)
/-- how a statement ends -/
inductive SRes where
  | nx (sd : SD) (M : MS)
  | ret (d : D) (M : MS)
  | brk (sd : SD) (M : MS)
  | ct (sd : SD) (M : MS)
  | exc (C : String) (ns : List String) (ds : List D) (sd : SD) (M : MS)
  | stuck
abbrev MST := SD → MS → SRes
def PostS (K : PySem.W.Frag) (mg : Str → Option Value) (W : WX) (ro : Pl) (H : Hp) (D0 : Ends) : SRes → Prop
  | .nx sd M => ∀ ro' H' st, RelS K mg ro' M H' → Pres ro H ro' H' → RepSt K mg ro' H' sd st → D0.nx st H'
  | .ret d M => ∀ ro' H' v, RelS K mg ro' M H' → Pres ro H ro' H' → Rep K mg ro' H' d v → D0.rt v H'
  | .brk sd M => ∀ ro' H' st, RelS K mg ro' M H' → Pres ro H ro' H' → RepSt K mg ro' H' sd st → D0.bk st H'
  | .ct sd M => ∀ ro' H' st, RelS K mg ro' M H' → Pres ro H ro' H' → RepSt K mg ro' H' sd st → D0.ct st H'
  | .exc C ns ds sd M => ∀ ro' H' st cls dd, RelS K mg ro' M H' → Pres ro H ro' H' → RepSt K mg ro' H' sd st → RepX K mg ro' H' C ns ds cls dd → W cls dd st H'
  | .stuck => False
def liftS (K : PySem.W.Frag) (mg : Str → Option Value) (W : WX) (m : MST) : TS := fun D0 st H => ∃ ro sd M, RelS K mg ro M H ∧ RepSt K mg ro H sd st ∧ PostS K mg W ro H D0 (m sd M)
structure DS (X : Cx) (W : WX) (s : Stmt) (m : MST) : Prop where
  ps : PS X s (liftS X.K X.mg W m)
structure DSs (X : Cx) (W : WX) (s : List Stmt) (m : MST) : Prop where
  ps : PSs X s (liftS X.K X.mg W m)
end DL
namespace DL
open PySem PySem.Spec L2
open PyProof.Rows hiding St
variable [HashW]
section
variable {K : PySem.W.Frag} {mg : Str → Option Value} {ro : Pl} {H : Hp} {M : MS}
theorem Reps.len : ∀ {ds : List D} {vs : List V}, Reps K mg ro H ds vs → ds.length = vs.length
  | [], vs, h => by cases (show vs = [] from h); rfl
  | d :: ds, vs, ⟨v, r, e, _, t⟩ => by subst e; simp [Reps.len t]
theorem Reps.append : ∀ {ds es : List D} {vs ws : List V}, Reps K mg ro H ds vs → Reps K mg ro H es ws → Reps K mg ro H (ds ++ es) (vs ++ ws)
  | [], es, vs, ws, h, h' => by cases (show vs = [] from h); exact h'
  | d :: ds, es, vs, ws, ⟨v, r, e, q, t⟩, h' => by subst e; exact ⟨v, r ++ ws, rfl, q, Reps.append t h'⟩
theorem Reps.get : ∀ {ds : List D} {vs : List V} {i : Nat} {d : D}, Reps K mg ro H ds vs → ds[i]? = some d → ∃ v, vs[i]? = some v ∧ Rep K mg ro H d v
  | [], vs, i, d, h, e => by simp at e
  | x :: ds, vs, 0, d, ⟨v, r, e, q, t⟩, e' => by subst e; simp at e'; subst e'; exact ⟨v, rfl, q⟩
  | x :: ds, vs, i + 1, d, ⟨v, r, e, q, t⟩, e' => by subst e; simp at e'; simpa using Reps.get t e'
theorem Reps.take : ∀ {ds : List D} {vs : List V} (n : Nat), Reps K mg ro H ds vs → Reps K mg ro H (ds.take n) (vs.take n)
  | ds, vs, 0, h => by simp [Reps]
  | [], vs, n + 1, h => by cases (show vs = [] from h); simp [Reps]
  | d :: ds, vs, n + 1, ⟨v, r, e, q, t⟩ => by subst e; exact ⟨v, r.take n, rfl, q, Reps.take n t⟩
theorem Reps.drop : ∀ {ds : List D} {vs : List V} (n : Nat), Reps K mg ro H ds vs → Reps K mg ro H (ds.drop n) (vs.drop n)
  | ds, vs, 0, h => h
  | [], vs, n + 1, h => by cases (show vs = [] from h); simp [Reps]
  | d :: ds, vs, n + 1, ⟨v, r, e, q, t⟩ => by subst e; exact Reps.drop n t
theorem Reps.set : ∀ {ds : List D} {vs : List V} {d : D} {v : V} (i : Nat), Reps K mg ro H ds vs → Rep K mg ro H d v → Reps K mg ro H (ds.set i d) (vs.set i v)
  | [], vs, d, v, i, h, _ => by cases (show vs = [] from h); simp [Reps]
  | x :: ds, vs, d, v, 0, ⟨w, r, e, q, t⟩, h => by subst e; exact ⟨v, r, rfl, h, t⟩
  | x :: ds, vs, d, v, i + 1, ⟨w, r, e, q, t⟩, h => by subst e; exact ⟨w, r.set i v, rfl, q, Reps.set i t h⟩
theorem Reps.rev : ∀ {ds : List D} {vs : List V}, Reps K mg ro H ds vs → Reps K mg ro H ds.reverse vs.reverse
  | [], vs, h => by cases (show vs = [] from h); simp [Reps]
  | d :: ds, vs, ⟨v, r, e, q, t⟩ => by
    subst e
    rw [List.reverse_cons, List.reverse_cons]
    exact (Reps.rev t).append ⟨v, [], rfl, q, rfl⟩
theorem Reps.dropLast {ds : List D} {vs : List V} (h : Reps K mg ro H ds vs) : Reps K mg ro H ds.dropLast vs.dropLast := by
  rw [List.dropLast_eq_take, List.dropLast_eq_take, h.len]
  exact h.take _
theorem Reps.eraseIdx : ∀ {ds : List D} {vs : List V} (i : Nat), Reps K mg ro H ds vs → Reps K mg ro H (ds.eraseIdx i) (vs.eraseIdx i)
  | [], vs, i, h => by cases (show vs = [] from h); simp [Reps]
  | x :: ds, vs, 0, ⟨w, r, e, q, t⟩ => by subst e; exact t
  | x :: ds, vs, i + 1, ⟨w, r, e, q, t⟩ => by subst e; exact ⟨w, r.eraseIdx i, rfl, q, Reps.eraseIdx i t⟩
theorem Reps.one {d : D} {v : V} (h : Rep K mg ro H d v) : Reps K mg ro H [d] [v] := ⟨v, [], rfl, h, rfl⟩
theorem Reps.strs : ∀ {xs : List (List Nat)} {vs : List V}, Reps K mg ro H (xs.map D.str) vs → vs = (xs.map tx).map V.str
  | [], vs, h => h
  | x :: xs, vs, ⟨v, r, e, q, t⟩ => by subst e; rw [Reps.strs t, show v = V.str (tx x) from q]; rfl
theorem Reps.flatten_replicate {ds : List D} {vs : List V} (h : Reps K mg ro H ds vs) : ∀ n, Reps K mg ro H (List.replicate n ds).flatten (List.replicate n vs).flatten
  | 0 => by simp [Reps]
  | n + 1 => by
    rw [List.replicate_succ, List.replicate_succ, List.flatten_cons, List.flatten_cons]
    exact h.append (Reps.flatten_replicate h n)
/-- what is read as a list; as a list or a tuple -/
def lstOf (M : MS) : D → Option (List D)
  | .lst ds => some ds
  | .cell n => match M[n]? with
    | some (.lst ds) => some ds
    | _ => none
  | _ => none
def seqOf (M : MS) : D → Option (List D)
  | .lst ds => some ds
  | .flst ds => some ds
  | .tup ds => some ds
  | .cell n => match M[n]? with
    | some (.lst ds) => some ds
    | _ => none
  | _ => none
@[simp] theorem lstOf_lst (ds : List D) : lstOf M (.lst ds) = some ds := rfl
@[simp] theorem seqOf_lst (ds : List D) : seqOf M (.lst ds) = some ds := rfl
@[simp] theorem seqOf_flst (ds : List D) : seqOf M (.flst ds) = some ds := rfl
@[simp] theorem seqOf_tup (ds : List D) : seqOf M (.tup ds) = some ds := rfl
theorem RelS.cellAt (R : RelS K mg ro M H) {n : Nat} {mo : MO} {x : V} (r : Rep K mg ro H (.cell n) x) (e : M[n]? = some mo) : ∃ a ho, x = .ref a ∧ ro.ro[n]? = some a ∧ H a = some ho ∧ MRel K mg ro H mo ho := by
  obtain ⟨a, rfl, g⟩ := r
  obtain ⟨ho, h, m⟩ := R.at_ n mo a e g
  exact ⟨a, ho, rfl, g, h, m⟩
theorem lst_of (R : RelS K mg ro M H) {d : D} {x : V} {ds : List D} (r : Rep K mg ro H d x) (e : lstOf M d = some ds) : ∃ a vs, x = .ref a ∧ H a = some (.lst vs) ∧ Reps K mg ro H ds vs := by
  cases d with
  | lst es =>
    cases (show some es = some ds from e)
    obtain ⟨a, vs, rfl, h, _, q⟩ := r
    exact ⟨a, vs, rfl, h, q⟩
  | cell n =>
    have e' : (match M[n]? with | some (.lst ds) => some ds | _ => none) = some ds := e
    split at e'
    · rename_i es hm
      cases e'
      obtain ⟨a, ho, rfl, _, h, vs, rfl, q⟩ := R.cellAt r hm
      exact ⟨a, vs, rfl, h, q⟩
    · cases e'
  | _ => cases e
theorem seq_of (R : RelS K mg ro M H) {d : D} {x : V} {ds : List D} (r : Rep K mg ro H d x) (e : seqOf M d = some ds) : ∃ a vs, x = .ref a ∧ (SqL K H a vs ∨ SqT K H a vs) ∧ Reps K mg ro H ds vs := by
  cases d with
  | lst es =>
    cases (show some es = some ds from e)
    obtain ⟨a, vs, rfl, h, _, q⟩ := r
    exact ⟨a, vs, rfl, .inl (SqL.of h), q⟩
  | flst es =>
    cases (show some es = some ds from e)
    obtain ⟨a, vs, rfl, h, q⟩ := r
    exact ⟨a, vs, rfl, .inl h.sq, q⟩
  | tup es =>
    cases (show some es = some ds from e)
    obtain ⟨a, vs, rfl, h, q⟩ := r
    exact ⟨a, vs, rfl, .inr h.sq, q⟩
  | cell n =>
    have e' : (match M[n]? with | some (.lst ds) => some ds | _ => none) = some ds := e
    split at e'
    · rename_i es hm
      cases e'
      obtain ⟨a, ho, rfl, _, h, vs, rfl, q⟩ := R.cellAt r hm
      exact ⟨a, vs, rfl, .inl (SqL.of h), q⟩
    · cases e'
  | _ => cases e
theorem RelS.liv (R : RelS K mg ro M H) {a : Addr} (h : a ∈ ro.ro) : H a ≠ none := by
  obtain ⟨i, hi⟩ := List.getElem?_of_mem h
  have hl : i < M.length := by rw [← R.len]; exact (List.getElem?_eq_some_iff.mp hi).1
  obtain ⟨ho, e, _⟩ := R.at_ i _ a (List.getElem?_eq_getElem hl) hi
  rw [e]; simp
theorem RelS.liveN (R : RelS K mg ro M H) (a : Addr) (h : a ∈ ro.hid) : H a ≠ none := by
  obtain ⟨xs, e⟩ := R.live a h
  rw [e]; simp
theorem RelS.fresh (R : RelS K mg ro M H) {p : Addr} (hp : H p = none) : p ∉ ro.all := fun h => by
  rcases List.mem_append.mp h with h | h
  · exact R.liv h hp
  · exact R.liveN p h hp
theorem MRel.monoW {ro ro' : Pl} {H H' : Hp} (p : PresW ro H ro' H') {mo : MO} {ho : HO} (h : MRel K mg ro H mo ho) : MRel K mg ro' H' mo ho := by
  cases mo with
  | lst ds => obtain ⟨vs, e, r⟩ := h; exact ⟨vs, e, Reps.monoW p ds vs r⟩
  | obj C ns ds => obtain ⟨c, dx, vs, e, g, l, r⟩ := h; exact ⟨c, dx, vs, e, g, l, Reps.monoW p ds vs r⟩
  | dic ks ds => obtain ⟨kl, vs, e, g, l, r⟩ := h; exact ⟨kl, vs, e, g, l, Reps.monoW p ds vs r⟩
  | tab i C m => obtain ⟨ps, P, e, t, g, k⟩ := h; exact ⟨ps, P, e, ⟨t.1, fun ps cv hc => let ⟨c, e1, e2, e3⟩ := t.2 ps cv hc; ⟨c, e1, p.keep c _ e2 e3, p.out e3 (by rw [e2]; simp)⟩⟩, p.get g, k⟩
theorem MRel.mono {ro ro' : Pl} {H H' : Hp} (p : Pres ro H ro' H') {mo : MO} {ho : HO} (h : MRel K mg ro H mo ho) : MRel K mg ro' H' mo ho := h.monoW p.w
theorem RelS.grow (R : RelS K mg ro M H) {H' : Hp} (h : ∀ a o, H a = some o → H' a = some o) : RelS K mg ro M H' ∧ Pres ro H ro H' := by
  have p : Pres ro H ro H' := ⟨⟨[], by simp⟩, rfl, fun a o e _ => h a o e, fun _ h => .inl h⟩
  refine ⟨⟨R.len, R.nd, fun a ha => ?_, R.dis, fun i mo a e1 e2 => ?_⟩, p⟩
  · obtain ⟨xs, e⟩ := R.live a ha
    exact ⟨xs, h a _ e⟩
  · obtain ⟨ho, e, m⟩ := R.at_ i mo a e1 e2
    exact ⟨ho, h a _ e, m.mono p⟩
theorem upd_grow {H : Hp} {p : Addr} {o : HO} (hp : H p = none) : ∀ a u, H a = some u → upd H p o a = some u := fun a u e => by rw [upd_ne (ne_of_none e hp)]; exact e
theorem RelS.alloc (R : RelS K mg ro M H) {p : Addr} {o : HO} (hp : H p = none) : RelS K mg ro M (upd H p o) ∧ Pres ro H ro (upd H p o) := R.grow (upd_grow hp)
abbrev Pl.add (p : Pl) (a : Addr) : Pl := ⟨p.ro ++ [a], p.hid⟩
/-- a new changeable place -/
theorem RelS.allocM (R : RelS K mg ro M H) {p : Addr} {o : HO} {mo : MO} (hp : H p = none) (m : MRel K mg ro H mo o) : RelS K mg (ro.add p) (M ++ [mo]) (upd H p o) ∧ Pres ro H (ro.add p) (upd H p o) := by
  have pr : Pres ro H (ro.add p) (upd H p o) := ⟨⟨[p], rfl⟩, rfl, fun a u e _ => upd_grow hp a u e, fun a h => by
    rcases List.mem_append.mp h with h | h
    · exact .inl h
    · have : a = p := by simpa using h
      exact .inr (this ▸ hp)⟩
  refine ⟨⟨by simp [R.len], ?_, fun a ha => ?_, fun a ha => ?_, fun i mo' a e1 e2 => ?_⟩, pr⟩
  · rw [List.nodup_append]
    refine ⟨R.nd, by simp, fun a ha b hb => ?_⟩
    have : b = p := by simpa using hb
    rw [this]
    exact fun e => R.fresh hp (List.mem_append_left _ (e ▸ ha))
  · obtain ⟨xs, e⟩ := R.live a ha
    exact ⟨xs, upd_grow hp _ _ e⟩
  · rcases List.mem_append.mp ha with h | h
    · exact R.dis a h
    · have : a = p := by simpa using h
      subst this
      exact fun z => R.liveN a z hp
  · by_cases hi : i < M.length
    · rw [List.getElem?_append_left hi] at e1
      rw [List.getElem?_append_left (by rw [R.len]; exact hi)] at e2
      obtain ⟨ho, e, m'⟩ := R.at_ i mo' a e1 e2
      exact ⟨ho, upd_grow hp _ _ e, m'.mono pr⟩
    · have hi' : i = M.length := by
        have := (List.getElem?_eq_some_iff.mp e1).1
        simp at this; omega
      subst hi'
      rw [List.getElem?_append_right (Nat.le_refl _)] at e1
      simp at e1; subst e1
      rw [← R.len, List.getElem?_append_right (Nat.le_refl _)] at e2
      simp at e2; subst e2
      exact ⟨o, upd_same, m.mono pr⟩
/-- a changeable place is changed -/
theorem RelS.change (R : RelS K mg ro M H) {n : Nat} {a : Addr} {o : HO} {mo : MO} (g : ro.ro[n]? = some a) (m : MRel K mg ro H mo o) : RelS K mg ro (M.set n mo) (upd H a o) ∧ Pres ro H ro (upd H a o) := by
  have hm : a ∈ ro.ro := List.mem_of_getElem? g
  have pr : Pres ro H ro (upd H a o) := ⟨⟨[], by simp⟩, rfl, fun b u e hb => by rw [upd_ne (fun z => hb (by rw [z]; exact hm))]; exact e, fun _ h => .inl h⟩
  refine ⟨⟨by simp [R.len], R.nd, fun b hb => ?_, R.dis, fun i mo' b e1 e2 => ?_⟩, pr⟩
  · rw [upd_ne (fun z => R.dis a hm (by rw [← z]; exact hb))]; exact R.live b hb
  · by_cases hi : n = i
    · subst hi
      rw [g] at e2; cases e2
      have hl : n < M.length := by rw [← R.len]; exact (List.getElem?_eq_some_iff.mp g).1
      rw [List.getElem?_set_self hl] at e1; cases e1
      exact ⟨o, upd_same, m.mono pr⟩
    · rw [List.getElem?_set_ne hi] at e1
      obtain ⟨ho, e, m'⟩ := R.at_ i mo' b e1 e2
      have hb : b ≠ a := fun z => by
        subst z
        obtain ⟨h1, q1⟩ := List.getElem?_eq_some_iff.mp g
        obtain ⟨h2, q2⟩ := List.getElem?_eq_some_iff.mp e2
        exact hi ((List.getElem_inj R.nd).mp (q1.trans q2.symm))
      exact ⟨ho, by rw [upd_ne hb]; exact e, m'.mono pr⟩
/-- a place is hidden; it is shown again -/
abbrev Pl.hide (p : Pl) (a : Addr) : Pl := ⟨p.ro, a :: p.hid⟩
mutual
theorem Rep.less {ro ro' : Pl} (e : ro'.ro = ro.ro) (h : ∀ a, a ∈ ro'.hid → a ∈ ro.hid) : ∀ (d : D) (v : V), Rep K mg ro H d v → Rep K mg ro' H d v
  | .non, v, q => q
  | .bl b, v, q => q
  | .int i, v, q => q
  | .str x, v, q => q
  | .tup ds, v, ⟨a, vs, e1, q, r⟩ => ⟨a, vs, e1, q.imp (fun ⟨z, n⟩ => ⟨z, fun m => n ((List.mem_append.mp m).elim (fun m => List.mem_append_left _ (e ▸ m)) fun m => List.mem_append_right _ (h a m))⟩) id, Reps.less e h ds vs r⟩
  | .lst ds, v, ⟨a, vs, e1, q, n, r⟩ => ⟨a, vs, e1, q, fun m => n ((List.mem_append.mp m).elim (fun m => List.mem_append_left _ (e ▸ m)) fun m => List.mem_append_right _ (h a m)), Reps.less e h ds vs r⟩
  | .flst ds, v, ⟨a, vs, e1, q, r⟩ => ⟨a, vs, e1, q.imp (fun ⟨z, n⟩ => ⟨z, fun m => n ((List.mem_append.mp m).elim (fun m => List.mem_append_left _ (e ▸ m)) fun m => List.mem_append_right _ (h a m))⟩) id, Reps.less e h ds vs r⟩
  | .obj C ns ds, v, ⟨a, c, dx, vs, e1, g, q, n, l, r⟩ => ⟨a, c, dx, vs, e1, g, q, fun m => n ((List.mem_append.mp m).elim (fun m => List.mem_append_left _ (e ▸ m)) fun m => List.mem_append_right _ (h a m)), l, Reps.less e h ds vs r⟩
  | .dic ks ds, v, ⟨a, kl, vs, e1, g, l, q, n, r⟩ => ⟨a, kl, vs, e1, g, l, q, fun m => n ((List.mem_append.mp m).elim (fun m => List.mem_append_left _ (e ▸ m)) fun m => List.mem_append_right _ (h a m)), Reps.less e h ds vs r⟩
  | .glo x, v, q => q
  | .ty n, v, q => q
  | .exn C ns ds x d, v, ⟨a, vs, e1, q, n, l, r⟩ => ⟨a, vs, e1, q, fun m => n ((List.mem_append.mp m).elim (fun m => List.mem_append_left _ (e ▸ m)) fun m => List.mem_append_right _ (h d m)), l, Reps.less e h ds vs r⟩
  | .cell n, v, ⟨a, e1, g⟩ => ⟨a, e1, by rw [e]; exact g⟩
theorem Reps.less {ro ro' : Pl} (e : ro'.ro = ro.ro) (h : ∀ a, a ∈ ro'.hid → a ∈ ro.hid) : ∀ (ds : List D) (vs : List V), Reps K mg ro H ds vs → Reps K mg ro' H ds vs
  | [], vs, q => q
  | d :: ds, vs, ⟨v, r, e1, q, t⟩ => ⟨v, r, e1, Rep.less e h d v q, Reps.less e h ds r t⟩
end
theorem MRel.less {ro ro' : Pl} (e : ro'.ro = ro.ro) (h : ∀ a, a ∈ ro'.hid → a ∈ ro.hid) {mo : MO} {ho : HO} (q : MRel K mg ro H mo ho) : MRel K mg ro' H mo ho := by
  cases mo with
  | lst ds => obtain ⟨vs, e1, r⟩ := q; exact ⟨vs, e1, Reps.less e h ds vs r⟩
  | obj C ns ds => obtain ⟨c, dx, vs, e1, g, l, r⟩ := q; exact ⟨c, dx, vs, e1, g, l, Reps.less e h ds vs r⟩
  | dic ks ds => obtain ⟨kl, vs, e1, g, l, r⟩ := q; exact ⟨kl, vs, e1, g, l, Reps.less e h ds vs r⟩
  | tab i C m => obtain ⟨ps, P, e1, t, g, k⟩ := q; exact ⟨ps, P, e1, ⟨t.1, fun ps cv hc => let ⟨c, e1, e2, e3⟩ := t.2 ps cv hc; ⟨c, e1, e2, fun m => e3 ((List.mem_append.mp m).elim (fun m => List.mem_append_left _ (e ▸ m)) fun m => List.mem_append_right _ (h c m))⟩⟩, by rw [e]; exact g, k⟩
theorem PresW.hide {ro : Pl} {H : Hp} {p : Addr} {o : HO} (hp : H p = none) : PresW ro H (ro.hide p) (upd H p o) := ⟨⟨[], by simp⟩, fun a u e _ => upd_grow hp a u e, fun a h => by
  rcases List.mem_append.mp h with h | h
  · exact .inl (List.mem_append_left _ h)
  · rcases List.mem_cons.mp h with h | h
    · exact .inr (h ▸ hp)
    · exact .inl (List.mem_append_right _ h)⟩
theorem RelS.hide (R : RelS K mg ro M H) {p : Addr} {o : HO} (hp : H p = none) : RelS K mg (ro.hide p) M (upd H p o) := by
  refine ⟨R.len, R.nd, fun a ha => ?_, fun a ha hb => ?_, fun i mo a e1 e2 => ?_⟩
  · rcases List.mem_cons.mp ha with rfl | ha
    · exact ⟨o, upd_same⟩
    · obtain ⟨xs, e⟩ := R.live a ha
      exact ⟨xs, upd_grow hp _ _ e⟩
  · rcases List.mem_cons.mp hb with rfl | hb
    · exact R.liv ha hp
    · exact R.dis a ha hb
  · obtain ⟨ho, e, m⟩ := R.at_ i mo a e1 e2
    exact ⟨ho, upd_grow hp _ _ e, m.monoW (PresW.hide hp)⟩
theorem Pl.ne {ro : Pl} {a p : Addr} (n : a ∉ ro.all) (hp : p ∈ ro.hid) : a ≠ p := fun z => n (by rw [z]; exact List.mem_append_right _ hp)
mutual
theorem Rep.unseen {p : Addr} {o : HO} (hp : p ∈ ro.hid) : ∀ (d : D) (v : V), Rep K mg ro H d v → Rep K mg ro (upd H p o) d v
  | .non, v, q => q
  | .bl b, v, q => q
  | .int i, v, q => q
  | .str x, v, q => q
  | .tup ds, v, ⟨a, vs, e1, q, r⟩ => ⟨a, vs, e1, q.imp (fun ⟨z, n⟩ => ⟨z.imp (fun z => by rw [upd_ne (Pl.ne n hp)]; exact z) fun ⟨u, z⟩ => ⟨u, by rw [upd_ne (Pl.ne n hp)]; exact z⟩, n⟩) id, Reps.unseen hp ds vs r⟩
  | .lst ds, v, ⟨a, vs, e1, q, n, r⟩ => ⟨a, vs, e1, by rw [upd_ne (Pl.ne n hp)]; exact q, n, Reps.unseen hp ds vs r⟩
  | .flst ds, v, ⟨a, vs, e1, q, r⟩ => ⟨a, vs, e1, q.imp (fun ⟨z, n⟩ => ⟨z.imp (fun z => by rw [upd_ne (Pl.ne n hp)]; exact z) fun ⟨u, z⟩ => ⟨u, by rw [upd_ne (Pl.ne n hp)]; exact z⟩, n⟩) id, Reps.unseen hp ds vs r⟩
  | .obj C ns ds, v, ⟨a, c, dx, vs, e1, g, q, n, l, r⟩ => ⟨a, c, dx, vs, e1, g, by rw [upd_ne (Pl.ne n hp)]; exact q, n, l, Reps.unseen hp ds vs r⟩
  | .dic ks ds, v, ⟨a, kl, vs, e1, g, l, q, n, r⟩ => ⟨a, kl, vs, e1, g, l, by rw [upd_ne (Pl.ne n hp)]; exact q, n, Reps.unseen hp ds vs r⟩
  | .glo x, v, q => q
  | .ty n, v, q => q
  | .exn C ns ds x d, v, ⟨a, vs, e1, q, n, l, r⟩ => ⟨a, vs, e1, by rw [upd_ne (Pl.ne n hp)]; exact q, n, l, Reps.unseen hp ds vs r⟩
  | .cell n, v, q => q
theorem Reps.unseen {p : Addr} {o : HO} (hp : p ∈ ro.hid) : ∀ (ds : List D) (vs : List V), Reps K mg ro H ds vs → Reps K mg ro (upd H p o) ds vs
  | [], vs, q => q
  | d :: ds, vs, ⟨v, r, e1, q, t⟩ => ⟨v, r, e1, Rep.unseen hp d v q, Reps.unseen hp ds r t⟩
end
theorem MRel.unseen {p : Addr} {o : HO} (hp : p ∈ ro.hid) {mo : MO} {ho : HO} (q : MRel K mg ro H mo ho) : MRel K mg ro (upd H p o) mo ho := by
  cases mo with
  | lst ds => obtain ⟨vs, e1, r⟩ := q; exact ⟨vs, e1, Reps.unseen hp ds vs r⟩
  | obj C ns ds => obtain ⟨c, dx, vs, e1, g, l, r⟩ := q; exact ⟨c, dx, vs, e1, g, l, Reps.unseen hp ds vs r⟩
  | dic ks ds => obtain ⟨kl, vs, e1, g, l, r⟩ := q; exact ⟨kl, vs, e1, g, l, Reps.unseen hp ds vs r⟩
  | tab i C m => obtain ⟨ps, P, e1, t, g, k⟩ := q; exact ⟨ps, P, e1, ⟨t.1, fun ps cv hc => let ⟨c, e1, e2, e3⟩ := t.2 ps cv hc; ⟨c, e1, by rw [upd_ne (Pl.ne e3 hp)]; exact e2, e3⟩⟩, g, k⟩
theorem RelS.unseen (R : RelS K mg ro M H) {p : Addr} {o : HO} (hp : p ∈ ro.hid) : RelS K mg ro M (upd H p o) := by
  refine ⟨R.len, R.nd, fun a ha => ?_, R.dis, fun i mo a e1 e2 => ?_⟩
  · by_cases e : a = p
    · subst e; exact ⟨o, upd_same⟩
    · rw [upd_ne e]; exact R.live a ha
  · obtain ⟨ho, e, m⟩ := R.at_ i mo a e1 e2
    exact ⟨ho, by rw [upd_ne (fun z => R.dis a (List.mem_of_getElem? e2) (by rw [z]; exact hp))]; exact e, m.unseen hp⟩
variable {E : XK} {Q : VK}
theorem PostD.pure {d : D} (R : RelS K mg ro M H) {v : V} (r : Rep K mg ro H d v) (h : PostD K mg E ro H Q (.ok d M)) : Q v H := h ro H v R (Pres.refl _ _) r
theorem PostD.newL {ds : List D} (R : RelS K mg ro M H) {vs : List V} (r : Reps K mg ro H ds vs) (h : PostD K mg E ro H Q (.ok (.lst ds) M)) : ∀ p, H p = none → Q (.ref p) (upd H p (.lst vs)) := fun p hp => by
  obtain ⟨R', P⟩ := R.alloc (o := .lst vs) hp
  exact h ro _ _ R' P ⟨p, vs, rfl, upd_same, R.fresh hp, Reps.mono P ds vs r⟩
theorem PostD.newT {ds : List D} (R : RelS K mg ro M H) {vs : List V} (r : Reps K mg ro H ds vs) (h : PostD K mg E ro H Q (.ok (.tup ds) M)) : ∀ p, H p = none → Q (.ref p) (upd H p (.tup vs)) := fun p hp => by
  obtain ⟨R', P⟩ := R.alloc (o := .tup vs) hp
  exact h ro _ _ R' P ⟨p, vs, rfl, .inl ⟨.inl upd_same, R.fresh hp⟩, Reps.mono P ds vs r⟩
theorem PostD.newC {ds : List D} (R : RelS K mg ro M H) {vs : List V} (r : Reps K mg ro H ds vs) (h : PostD K mg E ro H Q (.ok (.cell M.length) (M ++ [.lst ds]))) : ∀ p, H p = none → Q (.ref p) (upd H p (.lst vs)) := fun p hp => by
  obtain ⟨R', P⟩ := R.allocM (o := .lst vs) (mo := .lst ds) hp ⟨vs, rfl, r⟩
  exact h _ _ _ R' P ⟨p, rfl, by rw [← R.len, List.getElem?_append_right (Nat.le_refl _)]; simp⟩
end
theorem line_le {n : Nat} (h : n ≤ 1000000) : n ≤ sizeLine := by rw [sizeLine_eq]; omega
theorem line_lt {n : Nat} (h : n < 1000000) : n < sizeLine := by rw [sizeLine_eq]; omega
def nameE (i : Nat) : ME := fun sd M => match sd[i]? with
  | some (some d) => .ok d M
  | _ => .stuck
def constE (d : D) : ME := fun _ M => .ok d M
def binE (f : D → D → MS → Res D) (a b : ME) : ME := fun sd M => (a sd M).bind fun d M1 => (b sd M1).bind fun e M2 => f d e M2
def unE (f : D → MS → Res D) (a : ME) : ME := fun sd M => (a sd M).bind fun d M1 => f d M1
def andE (a b : ME) : ME := fun sd M => (a sd M).bind fun d M1 => match d with
  | .bl true => b sd M1
  | .bl false => .ok (.bl false) M1
  | _ => .stuck
def orE (a b : ME) : ME := fun sd M => (a sd M).bind fun d M1 => match d with
  | .bl true => .ok (.bl true) M1
  | .bl false => b sd M1
  | _ => .stuck
def notE (a : ME) : ME := fun sd M => (a sd M).bind fun d M1 => match d with
  | .bl c => .ok (.bl (!c)) M1
  | _ => .stuck
def ifE (c : MB) (a b : ME) : ME := fun sd M => (c sd M).bind fun k M1 => if k = true then a sd M1 else b sd M1
/-- a truth value as a test -/
def valB (a : ME) : MB := fun sd M => (a sd M).bind fun d M1 => match d with
  | .bl c => .ok c M1
  | _ => .stuck
def truD (M : MS) : D → Option Bool
  | .non => some false
  | .bl b => some b
  | .int i => some (i != 0)
  | .str x => if x.length ≤ 1000000 then some ((x.length : Int) != 0) else none
  | .lst ds => some (!ds.isEmpty)
  | .flst ds => some (!ds.isEmpty)
  | .tup ds => some (!ds.isEmpty)
  | .cell n => match M[n]? with
    | some (.lst ds) => some (!ds.isEmpty)
    | _ => none
  | _ => none
def truB (a : ME) : MB := fun sd M => (a sd M).bind fun d M1 => match truD M1 d with
  | some c => .ok c M1
  | none => .stuck
def andB (a b : MB) : MB := fun sd M => (a sd M).bind fun c M1 => if c = true then b sd M1 else .ok false M1
def orB (a b : MB) : MB := fun sd M => (a sd M).bind fun c M1 => if c = true then .ok true M1 else b sd M1
def notB (a : MB) : MB := fun sd M => (a sd M).bind fun c M1 => .ok (!c) M1
def nilA : MA := fun _ M => .ok [] M
def consA (a : ME) (r : MA) : MA := fun sd M => (a sd M).bind fun d M1 => (r sd M1).bind fun ds M2 => .ok (d :: ds) M2
def tupE (a : MA) : ME := fun sd M => (a sd M).bind fun ds M1 => if ds.length ≤ 1000000 then .ok (.tup ds) M1 else .stuck
def lstE (a : MA) : ME := fun sd M => (a sd M).bind fun ds M1 => if ds.length ≤ 1000000 then .ok (.lst ds) M1 else .stuck
/-- a list that will be changed -/
def celE (a : MA) : ME := fun sd M => (a sd M).bind fun ds M1 => if ds.length ≤ 1000000 then .ok (.cell M1.length) (M1 ++ [.lst ds]) else .stuck
def appE (f : List D → MS → Res D) (a : MA) : ME := fun sd M => (a sd M).bind fun ds M1 => f ds M1
/-- an operation of two values -/
def OpS (X : Cx) (fv : Value → Value → Sem Value) (f : D → D → MS → Res D) : Prop :=
  ∃ r : R2, OpR X fv r ∧ ∀ (ro : Pl) (H : Hp) (M : MS) (d e : D) (x y : V) (E : XK) (Q : VK), RelS X.K X.mg ro M H → Rep X.K X.mg ro H d x → Rep X.K X.mg ro H e y → PostD X.K X.mg E ro H Q (f d e M) → r x y H Q
def UnS (X : Cx) (fv : Value → Sem Value) (f : D → MS → Res D) : Prop :=
  ∃ r : V → Hp → VK → Prop, UnR X fv r ∧ ∀ (ro : Pl) (H : Hp) (M : MS) (d : D) (x : V) (E : XK) (Q : VK), RelS X.K X.mg ro M H → Rep X.K X.mg ro H d x → PostD X.K X.mg E ro H Q (f d M) → r x H Q
/-- a call of a built-in -/
def CallS (X : Cx) (fv : Value) (f : List D → MS → Res D) : Prop :=
  ∃ r : List V → Hp → VK → Prop, CallR X fv r ∧ ∀ (ro : Pl) (H : Hp) (M : MS) (ds : List D) (xs : List V) (E : XK) (Q : VK), RelS X.K X.mg ro M H → Reps X.K X.mg ro H ds xs → PostD X.K X.mg E ro H Q (f ds M) → r xs H Q
/-- a method of a built-in type -/
def MtS (X : Cx) (T id : String) (f : D → List D → MS → Res D) : Prop :=
  ∃ r : V → List V → Hp → VK → Prop, MtR X id r ∧ ∀ (ro : Pl) (H : Hp) (M : MS) (d : D) (ds : List D) (x : V) (xs : List V) (E : XK) (Q : VK), RelS X.K X.mg ro M H → Rep X.K X.mg ro H d x → Reps X.K X.mg ro H ds xs → PostD X.K X.mg E ro H Q (f d ds M) → r x xs H Q
/-- a subscript -/
def IxS (X : Cx) (f : D → D → MS → Res D) : Prop :=
  ∃ r : R2, IxR X r ∧ ∀ (ro : Pl) (H : Hp) (M : MS) (d e : D) (x y : V) (E : XK) (Q : VK), RelS X.K X.mg ro M H → Rep X.K X.mg ro H d x → Rep X.K X.mg ro H e y → PostD X.K X.mg E ro H Q (f d e M) → r x y H Q
section
variable {X : Cx} {W : WX} {a b c e : Expr} {es : List Expr} {pos : Pos} {ma mb mc : ME} {ta tb tc : MB} {ms : MA}
theorem de_name (i : Nat) {x : Str} (hN : X.N[i]? = some x := by rfl) (hv : Vis X.env.scope x := by first | exact Or.inl rfl | exact Or.inr (Or.inl rfl) | exact Or.inr (Or.inr rfl)) (hd : (x == ("__debug__" : Str)) = false := by decide)
    (hcd : (x == ("__classdict__" : Str)) = false := by decide) : DE X W (.Name x pos) (nameE i) := by
  refine ⟨⟨fun pins s st H Q I h => (pe_var hN hv hd hcd).run pins s st H Q I ?_⟩⟩
  obtain ⟨ro, sd, M, R, S, P⟩ := h
  unfold nameE at P
  split at P
  · rename_i d e
    obtain ⟨v, e', r⟩ := S.2 i d e
    exact ⟨v, e', PostD.pure R r P⟩
  · exact P.elim
theorem de_constV {d : D} {v : V} (h : PE X e (tC v)) (r : ∀ ro H, Rep X.K X.mg ro H d v) : DE X W e (constE d) := by
  refine ⟨⟨fun pins s st H Q I q => h.run pins s st H Q I ?_⟩⟩
  obtain ⟨ro, sd, M, R, S, P⟩ := q
  exact PostD.pure R (r ro H) P
theorem de_int {i j} : DE X W (.Constant (.int i) j pos) (constE (.int i)) := de_constV pe_int fun _ _ => rfl
theorem de_bl {b j} : DE X W (.Constant (.bool b) j pos) (constE (.bl b)) := de_constV pe_bl fun _ _ => rfl
theorem de_non {j} : DE X W (.Constant .none j pos) (constE .non) := de_constV pe_non fun _ _ => rfl
/-- a text's codes -/
def sL (s : String) : List Nat := s.toList.map Char.toNat
theorem tx_sL (s : String) : tx (sL s) = Str.ofString s := (Str.ofString_eq_toList s).symm
theorem de_str {s : String} {j} : DE X W (.Constant (.str (Str.ofString s)) j pos) (constE (.str (sL s))) := de_constV pe_str fun _ _ => by
  show V.str _ = V.str (tx (sL s))
  rw [tx_sL]
/-- a class or def of the module, as a value -/
theorem de_glo {x : String} {f : Addr} (hg : Gl X (Str.ofString x)) (hm : X.mg (Str.ofString x) = some (.ref f)) (hd : (Str.ofString x == ("__debug__" : Str)) = false := by decide) : DE X W (.Name (Str.ofString x) pos) (constE (.glo x)) :=
  de_constV (pe_glob (v := .ref f) hg hm rfl hd) fun _ _ => ⟨f, rfl, hm⟩
/-- a text of the module -/
theorem de_gstr {x : Str} {s : String} {t : Tok} (hg : Gl X x) (hm : X.mg x = some (.str (Str.ofString s) t)) (hd : (x == ("__debug__" : Str)) = false := by decide) : DE X W (.Name x pos) (constE (.str (sL s))) :=
  de_constV (pe_glob (v := .str (Str.ofString s)) hg hm ⟨t, rfl⟩ hd) fun _ _ => by
    show V.str _ = V.str (tx (sL s))
    rw [tx_sL]
theorem de_gint {x : Str} {i : Int} {t : Tok} (hg : Gl X x) (hm : X.mg x = some (.int i t)) (hd : (x == ("__debug__" : Str)) = false := by decide) : DE X W (.Name x pos) (constE (.int i)) :=
  de_constV (pe_glob (v := .int i) hg hm ⟨t, rfl⟩ hd) fun _ _ => rfl
theorem de_op2 {t : TE} {f : D → D → MS → Res D} {r : R2} (hpe : PE X e t)
    (ht : ∀ st H Q, tOp r (liftE X.K X.mg W ma) (liftE X.K X.mg W mb) st H Q → t st H Q)
    (hr : ∀ (ro : Pl) (H : Hp) (M : MS) (d e : D) (x y : V) (E : XK) (Q : VK), RelS X.K X.mg ro M H → Rep X.K X.mg ro H d x → Rep X.K X.mg ro H e y → PostD X.K X.mg E ro H Q (f d e M) → r x y H Q) : DE X W e (binE f ma mb) := by
  refine ⟨⟨fun pins s st H Q I h => hpe.run pins s st H Q I (ht _ _ _ ?_)⟩⟩
  obtain ⟨ro, sd, M, R, S, P⟩ := h
  refine ⟨ro, sd, M, R, S, (Post.bind P).imp fun x H1 ⟨ro1, M1, d, R1, P1, r1, q1⟩ => ?_⟩
  refine ⟨ro1, sd, M1, R1, S.mono P1, (Post.bind q1).imp fun y H2 ⟨ro2, M2, e, R2, P2, r2, q2⟩ => ?_⟩
  exact hr ro2 H2 M2 d e x y _ Q R2 (Rep.mono P2 d x r1) r2 q2
theorem de_op {op : Operator} {f : D → D → MS → Res D} (ho : OpS X (binaryOp op) f) (ha : DE X W a ma) (hb : DE X W b mb) : DE X W (.BinOp a op b pos) (binE f ma mb) := by
  obtain ⟨r, h1, h2⟩ := ho
  exact de_op2 (pe_op h1 ha.pe hb.pe) (fun _ _ _ h => h) h2
theorem de_cmp {op : CmpOp} {f : D → D → MS → Res D} (ho : OpS X (compareOp op) f) (ha : DE X W a ma) (hb : DE X W b mb) (hm : behindInMarks op b = false := by first | exact nobehind _ (by decide) (by decide) | rfl) : DE X W (.Compare a [op] [b] pos) (binE f ma mb) := by
  obtain ⟨r, h1, h2⟩ := ho
  exact de_op2 (pe_cmpR h1 ha.pe hb.pe hm) (fun _ _ _ h => h) h2
theorem de_ix {f : D → D → MS → Res D} (ho : IxS X f) (ha : DE X W a ma) (hb : DE X W b mb) (hs : PlainIx b := by exact fun _ _ => rfl) : DE X W (.Subscript a b pos) (binE f ma mb) := by
  obtain ⟨r, h1, h2⟩ := ho
  exact de_op2 (pe_ix h1 ha.pe hb.pe hs) (fun _ _ _ h => h) h2
theorem de_un {op : UnaryOp} {f : D → MS → Res D} (ho : UnS X (unaryOp op) f) (ha : DE X W a ma) : DE X W (.UnaryOp op a pos) (unE f ma) := by
  obtain ⟨r, h1, h2⟩ := ho
  refine ⟨⟨fun pins s st H Q I h => (pe_un h1 ha.pe).run pins s st H Q I ?_⟩⟩
  obtain ⟨ro, sd, M, R, S, P⟩ := h
  exact ⟨ro, sd, M, R, S, (Post.bind P).imp fun x H1 ⟨ro1, M1, d, R1, P1, r1, q1⟩ => h2 ro1 H1 M1 d x _ Q R1 r1 q1⟩
/-- tests -/
theorem dt_cmp {op : CmpOp} {f : D → D → MS → Res D} (ho : OpS X (compareOp op) f) (ha : DE X W a ma) (hb : DE X W b mb) (hm : behindInMarks op b = false := by first | exact nobehind _ (by decide) (by decide) | rfl) : DT X W (.Compare a [op] [b] pos) (valB (binE f ma mb)) := by
  obtain ⟨r, h1, h2⟩ := ho
  refine ⟨⟨fun pins s st H Q I h => (pt_cmpR h1 ha.pe hb.pe hm).run pins s st H Q I ?_⟩⟩
  obtain ⟨ro, sd, M, R, S, P⟩ := h
  have P : PostB X.K X.mg (fun c d H' => W c d st H') ro H Q ((binE f ma mb sd M).bind _) := P
  have P2 := Post.bind (R := fun ro' H' d v => Rep X.K X.mg ro' H' d v) P
  refine ⟨ro, sd, M, R, S, (Post.bind P2).imp fun x H1 ⟨ro1, M1, d, R1, P1, r1, q1⟩ => ?_⟩
  refine ⟨ro1, sd, M1, R1, S.mono P1, (Post.bind q1).imp fun y H2 ⟨ro2, M2, e, R2, Pr2, r2, q2⟩ => ?_⟩
  refine h2 ro2 H2 M2 d e x y _ _ R2 (Rep.mono Pr2 d x r1) r2 (q2.imp fun z H3 ⟨ro3, M3, g, R3, Pr3, r3, q3⟩ => ?_)
  cases g with
  | bl k =>
    cases (show z = V.bl k from r3)
    exact ⟨k, rfl, q3 ro3 H3 k R3 (Pres.refl _ _) rfl⟩
  | _ => exact q3.elim
theorem tru_of {K : PySem.W.Frag} {mg : Str → Option Value} {ro : Pl} {H : Hp} {M : MS} (R : RelS K mg ro M H) {d : D} {x : V} (r : Rep K mg ro H d x) {k : Bool} (e : truD M d = some k) : TruV K x H k := by
  cases d with
  | non => cases (show x = V.non from r); cases e; rfl
  | bl b => cases (show x = V.bl b from r); cases e; rfl
  | int i => cases (show x = V.int i from r); cases e; rfl
  | str y =>
    cases (show x = V.str (tx y) from r)
    have e' : (if y.length ≤ 1000000 then some ((y.length : Int) != 0) else none) = some k := e
    split at e'
    · rename_i h
      cases e'
      exact ⟨by show (tx y).cps.size ≤ _; simpa using line_le h, by simp [Str.length]⟩
    · cases e'
  | lst ds =>
    cases e
    obtain ⟨a, vs, rfl, h, _, q⟩ := r
    refine .inl ⟨vs, SqL.of h, ?_⟩
    have := q.len
    cases ds <;> cases vs <;> simp_all
  | flst ds =>
    cases e
    obtain ⟨a, vs, rfl, h, q⟩ := r
    refine .inl ⟨vs, h.sq, ?_⟩
    have := q.len
    cases ds <;> cases vs <;> simp_all
  | tup ds =>
    cases e
    obtain ⟨a, vs, rfl, h, q⟩ := r
    refine .inr (.inl ⟨vs, h.sq, ?_⟩)
    have := q.len
    cases ds <;> cases vs <;> simp_all
  | cell n =>
    have e' : (match M[n]? with | some (.lst ds) => some (!ds.isEmpty) | _ => none) = some k := e
    split at e'
    · rename_i ds hm
      cases e'
      obtain ⟨a, ho, rfl, _, h, vs, rfl, q⟩ := R.cellAt r hm
      refine .inl ⟨vs, SqL.of h, ?_⟩
      have := q.len
      cases ds <;> cases vs <;> simp_all
    · cases e'
  | _ => cases e
theorem dt_tru (h : DE X W e ma) (he : ∀ whole, isTrue e X.env whole = (do let v ← whole; standAt e.pos; holding [v] (truthy v)) := by intro _; rfl) : DT X W e (truB ma) := by
  refine ⟨⟨fun pins s st H Q I q => (pt_truth h.pe he).run pins s st H Q I ?_⟩⟩
  obtain ⟨ro, sd, M, R, S, P⟩ := q
  refine ⟨ro, sd, M, R, S, (Post.bind P).imp fun x H1 ⟨ro1, M1, d, R1, P1, r1, q1⟩ => ?_⟩
  cases e : truD M1 d with
  | some k =>
    rw [e] at q1
    exact ⟨k, tru_of R1 r1 e, q1 ro1 H1 k R1 (Pres.refl _ _) rfl⟩
  | none => rw [e] at q1; exact q1.elim
theorem dt_not (ha : DT X W a ta) : DT X W (.UnaryOp .Not a pos) (notB ta) := by
  refine ⟨⟨fun pins s st H Q I q => (pt_not ha.pt).run pins s st H Q I ?_⟩⟩
  obtain ⟨ro, sd, M, R, S, P⟩ := q
  refine ⟨ro, sd, M, R, S, (Post.bind P).imp fun x H1 ⟨ro1, M1, d, R1, P1, r1, q1⟩ => ?_⟩
  subst r1
  exact q1 ro1 H1 _ R1 (Pres.refl _ _) rfl
theorem DW.dt (h : DW X W e ta) : DT X W e ta := ⟨h.pw.pt⟩
theorem dw_and1 (ha : DT X W a ta) : DW X W (.BoolOp .And [a] pos) ta := ⟨pw_and1 ha.pt⟩
theorem dw_or1 (ha : DT X W a ta) : DW X W (.BoolOp .Or [a] pos) ta := ⟨pw_or1 ha.pt⟩
theorem dw_and (ha : DT X W a ta) (hb : DW X W (.BoolOp .And (b :: es) pos) tb) : DW X W (.BoolOp .And (a :: b :: es) pos) (andB ta tb) := by
  refine ⟨⟨fun wh pins s st H Q I q => (pw_and ha.pt hb.pw).run wh pins s st H Q I ?_⟩⟩
  obtain ⟨ro, sd, M, R, S, P⟩ := q
  refine ⟨ro, sd, M, R, S, (Post.bind P).imp fun x H1 ⟨ro1, M1, d, R1, P1, r1, q1⟩ => ?_⟩
  subst r1
  cases x with
  | true => rw [if_pos rfl] at q1 ⊢; exact ⟨ro1, sd, M1, R1, S.mono P1, q1⟩
  | false => rw [if_neg Bool.false_ne_true] at q1 ⊢; exact q1 ro1 H1 _ R1 (Pres.refl _ _) rfl
theorem dw_or (ha : DT X W a ta) (hb : DW X W (.BoolOp .Or (b :: es) pos) tb) : DW X W (.BoolOp .Or (a :: b :: es) pos) (orB ta tb) := by
  refine ⟨⟨fun wh pins s st H Q I q => (pw_or ha.pt hb.pw).run wh pins s st H Q I ?_⟩⟩
  obtain ⟨ro, sd, M, R, S, P⟩ := q
  refine ⟨ro, sd, M, R, S, (Post.bind P).imp fun x H1 ⟨ro1, M1, d, R1, P1, r1, q1⟩ => ?_⟩
  subst r1
  cases x with
  | false => rw [if_neg Bool.false_ne_true] at q1 ⊢; exact ⟨ro1, sd, M1, R1, S.mono P1, q1⟩
  | true => rw [if_pos rfl] at q1 ⊢; exact q1 ro1 H1 _ R1 (Pres.refl _ _) rfl
/-- truth values -/
theorem de_one {op} (h : DE X W a ma) : DE X W (.BoolOp op [a] pos) ma := ⟨pe_one h.pe⟩
theorem de_and (ha : DE X W a ma) (hb : DE X W (.BoolOp .And (b :: es) pos) mb) : DE X W (.BoolOp .And (a :: b :: es) pos) (andE ma mb) := by
  refine ⟨⟨fun pins s st H Q I q => (pe_and ha.pe hb.pe).run pins s st H Q I ?_⟩⟩
  obtain ⟨ro, sd, M, R, S, P⟩ := q
  refine ⟨ro, sd, M, R, S, (Post.bind P).imp fun x H1 ⟨ro1, M1, d, R1, P1, r1, q1⟩ => ?_⟩
  cases d with
  | bl k =>
    cases (show x = V.bl k from r1)
    refine ⟨k, rfl, ?_⟩
    cases k with
    | true => rw [if_pos rfl]; exact ⟨ro1, sd, M1, R1, S.mono P1, q1⟩
    | false => rw [if_neg Bool.false_ne_true]; exact PostD.pure (d := .bl false) R1 rfl q1
  | _ => exact q1.elim
theorem de_not (ha : DE X W a ma) : DE X W (.UnaryOp .Not a pos) (notE ma) := by
  refine ⟨⟨fun pins s st H Q I q => (pe_not ha.pe).run pins s st H Q I ?_⟩⟩
  obtain ⟨ro, sd, M, R, S, P⟩ := q
  refine ⟨ro, sd, M, R, S, (Post.bind P).imp fun x H1 ⟨ro1, M1, d, R1, P1, r1, q1⟩ => ?_⟩
  cases d with
  | bl k =>
    cases (show x = V.bl k from r1)
    exact ⟨k, rfl, PostD.pure (d := .bl (!k)) R1 rfl q1⟩
  | _ => exact q1.elim
/-- arguments, displays -/
theorem da_nil : DA X W [] nilA := by
  refine ⟨⟨fun pos pins s st H Q I q => pa_nil.run pos pins s st H Q I ?_⟩⟩
  obtain ⟨ro, sd, M, R, S, P⟩ := q
  exact P ro H [] R (Pres.refl _ _) rfl
theorem da_cons (ha : DE X W e ma) (hr : DA X W es ms) (hs : starEach (e :: es) X.env = (false, eval e X.env) :: starEach es X.env := by rfl) : DA X W (e :: es) (consA ma ms) := by
  refine ⟨⟨fun pos pins s st H Q I q => (pa_cons ha.pe hr.pa hs).run pos pins s st H Q I ?_⟩⟩
  obtain ⟨ro, sd, M, R, S, P⟩ := q
  refine ⟨ro, sd, M, R, S, (Post.bind P).imp fun x H1 ⟨ro1, M1, d, R1, P1, r1, q1⟩ => ?_⟩
  refine ⟨ro1, sd, M1, R1, S.mono P1, (Post.bind q1).imp fun xs H2 ⟨ro2, M2, ds, R2, P2, r2, q2⟩ => ?_⟩
  exact q2 ro2 H2 _ R2 (Pres.refl _ _) ⟨x, xs, rfl, Rep.mono P2 d x r1, r2⟩
theorem de_tup {k} (h : DA X W es ms) : DE X W (.Tuple es k pos) (tupE ms) := by
  refine ⟨⟨fun pins s st H Q I q => (pe_tup h.pa).run pins s st H Q I ?_⟩⟩
  obtain ⟨ro, sd, M, R, S, P⟩ := q
  refine ⟨ro, sd, M, R, S, (Post.bind P).imp fun xs H1 ⟨ro1, M1, ds, R1, P1, r1, q1⟩ => ?_⟩
  split at q1
  · rename_i hl
    exact ⟨by rw [← r1.len]; exact line_le hl, PostD.newT R1 r1 q1⟩
  · exact q1.elim
theorem de_lst (h : DA X W es ms) : DE X W (.List es pos) (lstE ms) := by
  refine ⟨⟨fun pins s st H Q I q => (pe_lst h.pa).run pins s st H Q I ?_⟩⟩
  obtain ⟨ro, sd, M, R, S, P⟩ := q
  refine ⟨ro, sd, M, R, S, (Post.bind P).imp fun xs H1 ⟨ro1, M1, ds, R1, P1, r1, q1⟩ => ?_⟩
  split at q1
  · rename_i hl
    exact ⟨by rw [← r1.len]; exact line_le hl, PostD.newL R1 r1 q1⟩
  · exact q1.elim
theorem de_cel (h : DA X W es ms) : DE X W (.List es pos) (celE ms) := by
  refine ⟨⟨fun pins s st H Q I q => (pe_lst h.pa).run pins s st H Q I ?_⟩⟩
  obtain ⟨ro, sd, M, R, S, P⟩ := q
  refine ⟨ro, sd, M, R, S, (Post.bind P).imp fun xs H1 ⟨ro1, M1, ds, R1, P1, r1, q1⟩ => ?_⟩
  split at q1
  · rename_i hl
    exact ⟨by rw [← r1.len]; exact line_le hl, PostD.newC R1 r1 q1⟩
  · exact q1.elim
/-- calls of built-ins -/
theorem de_callB {x : Str} {p : Pos} {id : String} {f : List D → MS → Res D} (hc : CallS X (.builtin id) f) (hg : Gl X x) (hm : X.mg x = none) (hv : bootBuiltins x = some (.builtin id)) (ha : DA X W (e :: es) ms) (hn : x ≠ "__name__" := by decide) (hdb : (x == ("__debug__" : Str)) = false := by decide)
    (he : starEach (e :: es) X.env = (false, eval e X.env) :: starEach es X.env := by rfl) (hpl : (backTo pos (starEach es X.env)).any (·.1) = false := by rfl) : DE X W (.Call (.Name x p) (e :: es) [] pos) (appE f ms) := by
  obtain ⟨r, h1, h2⟩ := hc
  refine ⟨⟨fun pins s st H Q I q => (pe_callB h1 hg hm hv ha.pa hn hdb he hpl).run pins s st H Q I ?_⟩⟩
  obtain ⟨ro, sd, M, R, S, P⟩ := q
  exact ⟨ro, sd, M, R, S, (Post.bind P).imp fun xs H1 ⟨ro1, M1, ds, R1, P1, r1, q1⟩ => h2 ro1 H1 M1 ds xs _ Q R1 r1 q1⟩
theorem de_callTy {x : Str} {p : Pos} {T : String} {f : List D → MS → Res D} (hc : CallS X (.type T) f) (hg : Gl X x) (hm : X.mg x = none) (hv : bootBuiltins x = some (.type T)) (ha : DA X W (e :: es) ms) (hn : x ≠ "__name__" := by decide) (hdb : (x == ("__debug__" : Str)) = false := by decide)
    (he : starEach (e :: es) X.env = (false, eval e X.env) :: starEach es X.env := by rfl) (hpl : (backTo pos (starEach es X.env)).any (·.1) = false := by rfl) : DE X W (.Call (.Name x p) (e :: es) [] pos) (appE f ms) := by
  obtain ⟨r, h1, h2⟩ := hc
  refine ⟨⟨fun pins s st H Q I q => (pe_callTy h1 hg hm hv ha.pa hn hdb he hpl).run pins s st H Q I ?_⟩⟩
  obtain ⟨ro, sd, M, R, S, P⟩ := q
  exact ⟨ro, sd, M, R, S, (Post.bind P).imp fun xs H1 ⟨ro1, M1, ds, R1, P1, r1, q1⟩ => h2 ro1 H1 M1 ds xs _ Q R1 r1 q1⟩
end
end DL
namespace DL
open PySem PySem.Spec L2
open PyProof.Rows hiding St
variable [HashW]
abbrev W0 : WX := fun _ _ _ _ => False
/-- what a body's context gives -/
structure Ctx (X : Cx) (W : WX) : Prop where
  tk : Takes X W
  po : PassesOwn (model X.prog X.w) X.A X.env X.xe
  calm : X.calm = true
def SRes.ofE {A : Type} (x : Res A) (sd : SD) (k : A → MS → SRes) : SRes := match x with
  | .ok a M => k a M
  | .exc C ns ds M => .exc C ns ds sd M
  | .stuck => .stuck
@[simp] theorem SRes.ofE_ok {A : Type} (a : A) (M : MS) (sd : SD) (k : A → MS → SRes) : SRes.ofE (.ok a M) sd k = k a M := rfl
@[simp] theorem SRes.ofE_exc {A : Type} (C : String) (ns : List String) (ds : List D) (M : MS) (sd : SD) (k : A → MS → SRes) : SRes.ofE (.exc C ns ds M) sd k = .exc C ns ds sd M := rfl
@[simp] theorem SRes.ofE_stuck {A : Type} (sd : SD) (k : A → MS → SRes) : SRes.ofE .stuck sd k = .stuck := rfl
def SRes.seq (x : SRes) (k : SD → MS → SRes) : SRes := match x with
  | .nx sd M => k sd M
  | r => r
@[simp] theorem SRes.seq_nx (sd : SD) (M : MS) (k : SD → MS → SRes) : (SRes.nx sd M).seq k = k sd M := rfl
@[simp] theorem SRes.seq_ret (d : D) (M : MS) (k : SD → MS → SRes) : (SRes.ret d M).seq k = .ret d M := rfl
@[simp] theorem SRes.seq_brk (sd : SD) (M : MS) (k : SD → MS → SRes) : (SRes.brk sd M).seq k = .brk sd M := rfl
@[simp] theorem SRes.seq_ct (sd : SD) (M : MS) (k : SD → MS → SRes) : (SRes.ct sd M).seq k = .ct sd M := rfl
@[simp] theorem SRes.seq_exc (C : String) (ns : List String) (ds : List D) (sd : SD) (M : MS) (k : SD → MS → SRes) : (SRes.exc C ns ds sd M).seq k = .exc C ns ds sd M := rfl
@[simp] theorem SRes.seq_stuck (k : SD → MS → SRes) : SRes.stuck.seq k = .stuck := rfl
section
variable {K : PySem.W.Frag} {mg : Str → Option Value} {W : WX} {ro ro1 : Pl} {H H1 : Hp} {D0 : Ends}
theorem PostS.moves {x : SRes} (h : PostS K mg W ro H D0 x) (p : Pres ro H ro1 H1) : PostS K mg W ro1 H1 D0 x := by
  cases x with
  | nx sd M => exact fun ro' H' st rs q r => h ro' H' st rs (p.trans q) r
  | ret d M => exact fun ro' H' v rs q r => h ro' H' v rs (p.trans q) r
  | brk sd M => exact fun ro' H' st rs q r => h ro' H' st rs (p.trans q) r
  | ct sd M => exact fun ro' H' st rs q r => h ro' H' st rs (p.trans q) r
  | exc C ns ds sd M => exact fun ro' H' st cls dd rs q r x => h ro' H' st cls dd rs (p.trans q) r x
  | stuck => exact h
theorem PostS.ofE {A B : Type} {R : Pl → Hp → A → B → Prop} {x : Res A} {sd : SD} {st : St} {k : A → MS → SRes} (h : PostS K mg W ro H D0 (SRes.ofE x sd k)) (S : RepSt K mg ro H sd st) :
    Post R K mg (fun c d H' => W c d st H') ro H (fun v H1 => ∃ ro1 M1 a, RelS K mg ro1 M1 H1 ∧ Pres ro H ro1 H1 ∧ R ro1 H1 a v ∧ PostS K mg W ro1 H1 D0 (k a M1)) x := by
  cases x with
  | ok a M => exact fun ro' H' v rs q r => ⟨ro', M, a, rs, q, r, PostS.moves h q⟩
  | exc C ns ds M => exact fun ro' H' cls dd rs q r => h ro' H' st cls dd rs q (S.mono q) r
  | stuck => exact h
theorem PostS.seq {x : SRes} {k : SD → MS → SRes} (h : PostS K mg W ro H D0 (x.seq k)) :
    PostS K mg W ro H { D0 with nx := fun st H1 => ∃ ro1 sd M1, RelS K mg ro1 M1 H1 ∧ RepSt K mg ro1 H1 sd st ∧ Pres ro H ro1 H1 ∧ PostS K mg W ro1 H1 D0 (k sd M1) } x := by
  cases x with
  | nx sd M => exact fun ro' H' st rs q r => ⟨ro', sd, M, rs, r, q, PostS.moves h q⟩
  | ret d M => exact h
  | brk sd M => exact h
  | ct sd M => exact h
  | exc C ns ds sd M => exact h
  | stuck => exact h
theorem PostS.imp {x : SRes} {D1 : Ends} (h : PostS K mg W ro H D0 x) (h1 : ∀ st H', D0.nx st H' → D1.nx st H') (h2 : ∀ v H', D0.rt v H' → D1.rt v H') (h3 : ∀ st H', D0.bk st H' → D1.bk st H') (h4 : ∀ st H', D0.ct st H' → D1.ct st H') : PostS K mg W ro H D1 x := by
  cases x with
  | nx sd M => exact fun ro' H' st rs q r => h1 _ _ (h ro' H' st rs q r)
  | ret d M => exact fun ro' H' v rs q r => h2 _ _ (h ro' H' v rs q r)
  | brk sd M => exact fun ro' H' st rs q r => h3 _ _ (h ro' H' st rs q r)
  | ct sd M => exact fun ro' H' st rs q r => h4 _ _ (h ro' H' st rs q r)
  | exc C ns ds sd M => exact h
  | stuck => exact h
end
def passS : MST := fun sd M => .nx sd M
def seqS (a b : MST) : MST := fun sd M => (a sd M).seq b
def setS (i : Nat) (m : ME) : MST := fun sd M => SRes.ofE (m sd M) sd fun d M1 => .nx (sd.set i (some d)) M1
def exprS (m : ME) : MST := fun sd M => SRes.ofE (m sd M) sd fun _ M1 => .nx sd M1
def retS (m : ME) : MST := fun sd M => SRes.ofE (m sd M) sd fun d M1 => .ret d M1
def ifS (c : MB) (a b : MST) : MST := fun sd M => SRes.ofE (c sd M) sd fun k M1 => if k = true then a sd M1 else b sd M1
def stuckS : MST := fun _ _ => .stuck
/-- name op= e -/
def augS (i : Nat) (f : D → D → MS → Res D) (m : ME) : MST := fun sd M => SRes.ofE (nameE i sd M) sd fun x M1 => SRes.ofE (m sd M1) sd fun y M2 => SRes.ofE (f x y M2) sd fun d M3 => .nx (sd.set i (some d)) M3
/-- o[i] = e: a list's item -/
def setItemD (M : MS) (o i v : D) : Option MS := match o, i with
  | .cell n, .int k => match M[n]? with
    | some (.lst ds) => match ixN ds.length k with
      | some j => some (M.set n (.lst (ds.set j v)))
      | none => none
    | _ => none
  | _, _ => none
def putS (mo mi m : ME) : MST := fun sd M => SRes.ofE (m sd M) sd fun v M1 => SRes.ofE (mo sd M1) sd fun o M2 => SRes.ofE (mi sd M2) sd fun i M3 => match setItemD M3 o i v with
  | some M4 => .nx sd M4
  | none => .stuck
section
variable {X : Cx} {W : WX} {s : Stmt} {ss rest : List Stmt} {e c : Expr} {pos : Pos} {m ma mb mc : ME} {tc : MB} {sa sb : MST}
theorem dss_nil : DSs X W [] passS := by
  refine ⟨⟨fun pins s st H D0 I q => pss_nil.run pins s st H D0 I ?_⟩⟩
  obtain ⟨ro, sd, M, R, S, P⟩ := q
  exact P ro H st R (Pres.refl _ _) S
theorem dss_one (h : DS X W s sa) : DSs X W [s] sa := ⟨pss_one h.ps⟩
theorem dss_cons (h : DS X W s sa) (hr : DSs X W rest sb) : DSs X W (s :: rest) (seqS sa sb) := by
  refine ⟨⟨fun pins s st H D0 I q => (pss_cons h.ps hr.ps).run pins s st H D0 I ?_⟩⟩
  obtain ⟨ro, sd, M, R, S, P⟩ := q
  exact ⟨ro, sd, M, R, S, (PostS.seq P).imp (fun st' H' ⟨ro1, sd1, M1, R1, S1, P1, q1⟩ => ⟨ro1, sd1, M1, R1, S1, q1⟩) (fun _ _ h => h) (fun _ _ h => h) (fun _ _ h => h)⟩
/-- a statement that the law never comes to -/
theorem ds_never : DS X W s stuckS := ⟨⟨fun pins s st H D0 I ⟨_, _, _, _, _, P⟩ => P.elim⟩⟩
theorem ds_set {i : Nat} {x : Str} {pos' : Pos} (he : DE X W e m) (hN : X.N.Nodup) (hi : X.N[i]? = some x := by rfl) (hx : Loc X.env.scope x := by first | exact Or.inl rfl | exact Or.inr rfl) (hs : swapsWith e (some (.Name x pos')) pos.line X.env = pure false := by rfl)
    (hf : X.fn x = true ∨ X.env.scope.names.lookup x = some .local := by first | exact .inl rfl | exact .inr rfl | assumption) : DS X W (.Assign [.Name x pos'] e pos) (setS i m) := by
  refine ⟨⟨fun pins s st H D0 I q => (ps_set hN hi hx he.pe hs hf).run pins s st H D0 I ?_⟩⟩
  obtain ⟨ro, sd, M, R, S, P⟩ := q
  refine ⟨ro, sd, M, R, S, (PostS.ofE P S).imp fun x H1 ⟨ro1, M1, d, R1, P1, r1, q1⟩ => ?_⟩
  exact q1 ro1 H1 _ R1 (Pres.refl _ _) ((S.mono P1).set r1)
theorem ds_expr (he : DE X W e m) (hs : swapsWith e none pos.line X.env = pure false := by rfl) : DS X W (.Expr e pos) (exprS m) := by
  refine ⟨⟨fun pins s st H D0 I q => (ps_expr he.pe hs).run pins s st H D0 I ?_⟩⟩
  obtain ⟨ro, sd, M, R, S, P⟩ := q
  refine ⟨ro, sd, M, R, S, (PostS.ofE P S).imp fun x H1 ⟨ro1, M1, d, R1, P1, r1, q1⟩ => ?_⟩
  exact q1 ro1 H1 _ R1 (Pres.refl _ _) (S.mono P1)
theorem ds_ret (he : DE X W e m) : DS X W (.Return (some e) pos) (retS m) := by
  refine ⟨⟨fun pins s st H D0 I q => (ps_ret he.pe).run pins s st H D0 I ?_⟩⟩
  obtain ⟨ro, sd, M, R, S, P⟩ := q
  refine ⟨ro, sd, M, R, S, (PostS.ofE P S).imp fun x H1 ⟨ro1, M1, d, R1, P1, r1, q1⟩ => ?_⟩
  exact q1 ro1 H1 _ R1 (Pres.refl _ _) r1
theorem ds_if {A B : List Stmt} (hc : DT X W c tc) (ha : DSs X W A sa) (hb : DSs X W B sb) : DS X W (.If c A B pos) (ifS tc sa sb) := by
  refine ⟨⟨fun pins s st H D0 I q => (ps_if hc.pt ha.ps hb.ps).run pins s st H D0 I ?_⟩⟩
  obtain ⟨ro, sd, M, R, S, P⟩ := q
  refine ⟨ro, sd, M, R, S, (PostS.ofE P S).imp fun x H1 ⟨ro1, M1, d, R1, P1, r1, q1⟩ => ?_⟩
  subst r1
  cases x with
  | true => rw [if_pos rfl] at q1 ⊢; exact ⟨ro1, sd, M1, R1, S.mono P1, q1⟩
  | false => rw [if_neg Bool.false_ne_true] at q1 ⊢; exact ⟨ro1, sd, M1, R1, S.mono P1, q1⟩
end
structure ItD where
  ds : List D
  chk : MS → Prop
/-- J walks it, from the heap H on -/
def IterOk (K : PySem.W.Frag) (mg : Str → Option Value) (ro : Pl) (H : Hp) (it : ItD) (J : It) : Prop :=
  ∀ (ro' : Pl) (H' : Hp) (M' : MS), RelS K mg ro' M' H' → PresW ro H ro' H' → it.chk M' →
    J.stop it.ds.length H' ∧ ∀ (i : Nat) (d : D), it.ds[i]? = some d → J.go i H' ∧ ∀ x H'', J.yld i H' x H'' → (∀ a o, H' a = some o → H'' a = some o) ∧ Rep K mg ro' H'' d x
abbrev MI := SD → MS → Res ItD
def liftI (K : PySem.W.Frag) (mg : Str → Option Value) (W : WX) (m : MI) : TI := fun st H Q => ∃ ro sd M, RelS K mg ro M H ∧ RepSt K mg ro H sd st ∧ Post (fun ro' H' it J => IterOk K mg ro' H' it J) K mg (fun c d H' => W c d st H') ro H Q (m sd M)
structure DI (X : Cx) (W : WX) (tg iter : Expr) (m : MI) : Prop where
  pi : PI X tg iter (liftI X.K X.mg W m)
abbrev MG := D → SD → Option SD
def liftG (K : PySem.W.Frag) (mg : Str → Option Value) (g : MG) (ix : List Nat) : TG := fun v st H Q => ∃ ro sd M d, RelS K mg ro M H ∧ RepSt K mg ro H sd st ∧ Rep K mg ro H d v ∧ ∃ sd', g d sd = some sd' ∧
  ∀ st', RepSt K mg ro H sd' st' → (∀ vs : List Nat, (∀ i, i ∈ ix → i ∈ vs) → wipe st' vs = wipe st vs) → Q st' H
structure DG (X : Cx) (tg : Expr) (g : MG) (ix : List Nat) : Prop where
  pg : PG X tg (liftG X.K X.mg g ix)
theorem wipe_get (st : St) : ∀ (vs : List Nat) (j : Nat), (wipe st vs)[j]? = if j ∈ vs ∧ j < st.length then some none else st[j]?
  | [], j => by simp [wipe]
  | v :: vs, j => by
    unfold wipe
    have ih := wipe_get st vs j
    have hl := wipe_length st vs
    by_cases h : v = j
    · subst h
      by_cases hv : v < st.length
      · rw [List.getElem?_set_self (by rw [hl]; exact hv), if_pos ⟨List.mem_cons_self, hv⟩]
      · rw [List.getElem?_eq_none (by rw [List.length_set, hl]; omega), if_neg (fun z => hv z.2), List.getElem?_eq_none (by omega)]
    · rw [List.getElem?_set_ne h, ih]
      have : (j ∈ v :: vs) ↔ (j ∈ vs) := by simp [Ne.symm h]
      simp only [this]
theorem wipe_set (st : St) {i : Nat} {x : Option V} {vs : List Nat} (h : i ∈ vs) : wipe (st.set i x) vs = wipe st vs := by
  apply List.ext_getElem?
  intro j
  rw [wipe_get, wipe_get, List.length_set]
  by_cases hj : i = j
  · subst hj
    by_cases hl : i < st.length
    · rw [if_pos ⟨h, hl⟩, if_pos ⟨h, hl⟩]
    · rw [if_neg (fun z => hl z.2), if_neg (fun z => hl z.2), List.getElem?_eq_none (by rw [List.length_set]; omega), List.getElem?_eq_none (by omega)]
  · rw [List.getElem?_set_ne hj]
def nameG (i : Nat) : MG := fun d sd => some (sd.set i (some d))
/-- (a, b, ..) = a tuple -/
def setAll : List Nat → List D → SD → Option SD
  | [], [], sd => some sd
  | i :: is, d :: ds, sd => setAll is ds (sd.set i (some d))
  | _, _, _ => none
def tupG (is : List Nat) : MG := fun d sd => match d with
  | .tup ds => setAll is ds sd
  | _ => none
open Classical in
noncomputable def forGo (chk : MS → Prop) (g : MG) (body : MST) : List D → SD → MS → SRes
  | [], sd, M => if chk M then .nx sd M else .stuck
  | d :: r, sd, M => if chk M then (match g d sd with
    | none => .stuck
    | some sd1 => match body sd1 M with
      | .nx sd2 M2 => forGo chk g body r sd2 M2
      | .ct sd2 M2 => forGo chk g body r sd2 M2
      | .brk sd2 M2 => .nx sd2 M2
      | .ret v M2 => .ret v M2
      | .exc C ns ds sd2 M2 => .exc C ns ds sd2 M2
      | .stuck => .stuck) else .stuck
noncomputable def forS (it : MI) (g : MG) (body : MST) : MST := fun sd M => SRes.ofE (it sd M) sd fun i M1 => forGo i.chk g body i.ds sd M1
/-- while, at most so many turns -/
def whileGo (c : MB) (body : MST) : Nat → SD → MS → SRes
  | 0, _, _ => .stuck
  | n + 1, sd, M => SRes.ofE (c sd M) sd fun k M1 => if k = true then (match body sd M1 with
      | .nx sd2 M2 => whileGo c body n sd2 M2
      | .ct sd2 M2 => whileGo c body n sd2 M2
      | .brk sd2 M2 => .nx sd2 M2
      | .ret v M2 => .ret v M2
      | .exc C ns ds sd2 M2 => .exc C ns ds sd2 M2
      | .stuck => .stuck) else .nx sd M1
def whileS (n : Nat) (c : MB) (body : MST) : MST := fun sd M => whileGo c body n sd M
section
variable {X : Cx} {W : WX} {tg iter : Expr} {pos : Pos} {body : List Stmt} {mi : MI} {g : MG} {ix : List Nat} {sb : MST} {c : Expr} {tc : MB}
theorem ds_for (cx : Ctx X W) (hi : DI X W tg iter mi) (hg : DG X tg g ix) (hb : DSs X W body sb) (hs : ∀ x, foldedSetIterable iter X.env x = pure x := by intro _; rfl) : DS X W (.For tg iter body [] pos) (forS mi g sb) := by
  refine ⟨⟨fun pins s st H D0 I q => (ps_for cx.po cx.calm hi.pi hg.pg hb.ps hs).run pins s st H D0 I ?_⟩⟩
  obtain ⟨ro, sd, M, R, S, P⟩ := q
  refine ⟨ro, sd, M, R, S, (PostS.ofE P S).imp fun J H1 ⟨ro1, M1, it, R1, P1, J1, q1⟩ => ?_⟩
  -- the invariant: what is left of the run
  refine ⟨fun i m st' H' => m = it.ds.length - i ∧ i ≤ it.ds.length ∧ ∃ ro' sd' M', RelS X.K X.mg ro' M' H' ∧ RepSt X.K X.mg ro' H' sd' st' ∧ Pres ro1 H1 ro' H' ∧ PostS X.K X.mg W ro' H' D0 (forGo it.chk g sb (it.ds.drop i) sd' M'),
    ⟨_, rfl, Nat.zero_le _, ro1, sd, M1, R1, S.mono P1, Pres.refl _ _, q1⟩, ?_⟩
  rintro i m st' H' ⟨rfl, hle, ro', sd', M', R', S', P', q'⟩
  by_cases hlt : i < it.ds.length
  · have hd : it.ds.drop i = it.ds[i] :: it.ds.drop (i + 1) := List.drop_eq_getElem_cons hlt
    rw [hd] at q'
    unfold forGo at q'
    by_cases hc : it.chk M'
    · rw [if_pos hc] at q'
      obtain ⟨_, hJ⟩ := J1 ro' H' M' R' P'.w hc
      obtain ⟨hgo, hy⟩ := hJ i _ (List.getElem?_eq_getElem hlt)
      refine .inr ⟨hgo, fun st2 H2 => ∃ ro2 sd2 M2, RelS X.K X.mg ro2 M2 H2 ∧ RepSt X.K X.mg ro2 H2 sd2 st2 ∧ Pres ro1 H1 ro2 H2 ∧ PostS X.K X.mg W ro2 H2 D0 (forGo it.chk g sb (it.ds.drop (i + 1)) sd2 M2),
        fun st2 H2 ⟨ro2, sd2, M2, R2, S2, P2, q2⟩ => ⟨it.ds.length - (i + 1), by omega, rfl, hlt, ro2, sd2, M2, R2, S2, P2, q2⟩, fun x H'' y => ?_⟩
      obtain ⟨hgrow, hrep⟩ := hy x H'' y
      obtain ⟨R'', P''⟩ := R'.grow hgrow
      cases hgd : g it.ds[i] sd' with
      | none => rw [hgd] at q'; exact q'.elim
      | some sd1 =>
        rw [hgd] at q'
        refine ⟨ro', sd', M', _, R'', S'.mono P'', hrep, sd1, hgd, fun st1 S1 _ => ?_⟩
        refine ⟨ro', sd1, M', R'', S1, ?_⟩
        have q' := q'
        dsimp only at q'
        cases hbd : sb sd1 M' with
        | nx sd2 M2 => rw [hbd] at q'; exact fun ro2 H2 st2 R2 P2 S2 => ⟨ro2, sd2, M2, R2, S2, (P'.trans P'').trans P2, PostS.moves q' (P''.trans P2)⟩
        | ct sd2 M2 => rw [hbd] at q'; exact fun ro2 H2 st2 R2 P2 S2 => ⟨ro2, sd2, M2, R2, S2, (P'.trans P'').trans P2, PostS.moves q' (P''.trans P2)⟩
        | brk sd2 M2 => rw [hbd] at q'; exact fun ro2 H2 st2 R2 P2 S2 => q' ro2 H2 st2 R2 (P''.trans P2) S2
        | ret v M2 => rw [hbd] at q'; exact fun ro2 H2 st2 R2 P2 S2 => q' ro2 H2 st2 R2 (P''.trans P2) S2
        | exc C ns ds sd2 M2 => rw [hbd] at q'; exact fun ro2 H2 st2 cls dd R2 P2 S2 r => q' ro2 H2 st2 cls dd R2 (P''.trans P2) S2 r
        | stuck => rw [hbd] at q'; exact q'
    · rw [if_neg hc] at q'; exact q'.elim
  · have e : i = it.ds.length := by omega
    subst e
    rw [List.drop_length] at q'
    unfold forGo at q'
    by_cases hc : it.chk M'
    · rw [if_pos hc] at q'
      exact .inl ⟨(J1 ro' H' M' R' P'.w hc).1, q' ro' H' st' R' (Pres.refl _ _) S'⟩
    · rw [if_neg hc] at q'; exact q'.elim
theorem ds_while {n : Nat} (cx : Ctx X W) (hc : DT X W c tc) (hb : DSs X W body sb) : DS X W (.While c body [] pos) (whileS n tc sb) := by
  refine ⟨⟨fun pins s st H D0 I q => (ps_while cx.po hc.pt hb.ps).run pins s st H D0 I ?_⟩⟩
  obtain ⟨ro, sd, M, R, S, P⟩ := q
  refine ⟨fun k st' H' => ∃ ro' sd' M', RelS X.K X.mg ro' M' H' ∧ RepSt X.K X.mg ro' H' sd' st' ∧ PostS X.K X.mg W ro' H' D0 (whileGo tc sb k sd' M'), ⟨n, ro, sd, M, R, S, P⟩, ?_⟩
  rintro k st' H' ⟨ro', sd', M', R', S', q'⟩
  cases k with
  | zero => exact q'.elim
  | succ k =>
    unfold whileGo at q'
    refine ⟨ro', sd', M', R', S', (PostS.ofE q' S').imp fun b H1 ⟨ro1, M1, b', R1, P1, r1, q1⟩ => ?_⟩
    subst r1
    cases b with
    | false => rw [if_neg Bool.false_ne_true] at q1 ⊢; exact q1 ro1 H1 st' R1 (Pres.refl _ _) (S'.mono P1)
    | true =>
      rw [if_pos rfl] at q1 ⊢
      refine ⟨fun st2 H2 => ∃ ro2 sd2 M2, RelS X.K X.mg ro2 M2 H2 ∧ RepSt X.K X.mg ro2 H2 sd2 st2 ∧ PostS X.K X.mg W ro2 H2 D0 (whileGo tc sb k sd2 M2), fun st2 H2 h => ⟨k, Nat.lt_succ_self _, h⟩, ro1, sd', M1, R1, S'.mono P1, ?_⟩
      cases hbd : sb sd' M1 with
      | nx sd2 M2 => rw [hbd] at q1; exact fun ro2 H2 st2 R2 P2 S2 => ⟨ro2, sd2, M2, R2, S2, PostS.moves q1 P2⟩
      | ct sd2 M2 => rw [hbd] at q1; exact fun ro2 H2 st2 R2 P2 S2 => ⟨ro2, sd2, M2, R2, S2, PostS.moves q1 P2⟩
      | brk sd2 M2 => rw [hbd] at q1; exact fun ro2 H2 st2 R2 P2 S2 => q1 ro2 H2 st2 R2 P2 S2
      | ret v M2 => rw [hbd] at q1; exact fun ro2 H2 st2 R2 P2 S2 => q1 ro2 H2 st2 R2 P2 S2
      | exc C ns ds sd2 M2 => rw [hbd] at q1; exact fun ro2 H2 st2 cls dd R2 P2 S2 r => q1 ro2 H2 st2 cls dd R2 P2 S2 r
      | stuck => rw [hbd] at q1; exact q1
/-- targets -/
theorem dg_name {i : Nat} {x : Str} (hN : X.N.Nodup) (hi : X.N[i]? = some x := by rfl) (hx : Loc X.env.scope x := by first | exact Or.inl rfl | exact Or.inr rfl) (hf : X.fn x = true ∨ X.env.scope.names.lookup x = some .local := by first | exact .inl rfl | exact .inr rfl | assumption) : DG X (.Name x pos) (nameG i) [i] := by
  refine ⟨⟨fun pins s st H v u Q I r h => (pg_name hN hi hx hf).run pins s st H v u Q I r ?_⟩⟩
  obtain ⟨ro, sd, M, d, R, S, rd, sd', e, q⟩ := h
  cases e
  exact q _ (S.set rd) fun vs h => wipe_set st (h i List.mem_cons_self)
end
abbrev FM := List D → MS → Res D
/-- a def's promise by its function over data -/
def spD (K : PySem.W.Frag) (mg : Str → Option Value) (n : Nat) (F : FM) : Sp := fun vs H Q E => vs.length = n ∧ ∃ ro ds M, RelS K mg ro M H ∧ Reps K mg ro H ds vs ∧ PostD K mg E ro H Q (F ds M)
def startD (n : Nat) (ds : List D) : SD := ds.map some ++ List.replicate (n - ds.length) none
/-- a body's end as a call's end -/
def SRes.res : SRes → Res D
  | .nx _ M => .ok .non M
  | .ret d M => .ok d M
  | .exc C ns ds _ M => .exc C ns ds M
  | _ => .stuck
def runD (n : Nat) (body : MST) : FM := fun ds M => (body (startD n ds) M).res
theorem repSt_start {K : PySem.W.Frag} {mg : Str → Option Value} {ro : Pl} {H : Hp} {ds : List D} {vs : List V} {N : List Str} (r : Reps K mg ro H ds vs) : RepSt K mg ro H (startD N.length ds) (L2.start N vs) := by
  have hl := r.len
  refine ⟨by simp [startD, L2.start, hl], fun i d e => ?_⟩
  unfold startD at e
  by_cases hi : i < ds.length
  · rw [List.getElem?_append_left (by simpa using hi), List.getElem?_map] at e
    cases q : ds[i]? with
    | none => rw [q] at e; cases e
    | some x =>
      rw [q] at e; cases e
      obtain ⟨v, hv, rv⟩ := r.get q
      refine ⟨v, ?_, rv⟩
      unfold L2.start
      rw [List.getElem?_append_left (by simpa [← hl] using hi), List.getElem?_map, hv]
      rfl
  · rw [List.getElem?_append_right (by simpa using hi), List.getElem?_replicate] at e
    split at e <;> cases e
section
variable {P : Program} {w : World} {K : PySem.W.Frag} {mg : Str → Option Value} {base : Heap}
abbrev DOk (P : Program) (w : World) (K : PySem.W.Frag) (mg : Str → Option Value) (base : Heap) (k : Nat) (f : Addr) (fd : FuncData) (ps : List Str) (F : FM) : Prop :=
  FnOk P w K mg base (L2.CX P w) k f fd ps (spD K mg ps.length F)
end
end DL
namespace DL
open PySem PySem.Spec L2
open PyProof.Rows hiding St
variable [HashW]
section
variable {X : Cx}
theorem OpS.or {fv : Value → Value → Sem Value} {f g : D → D → MS → Res D} (hf : OpS X fv f) (hg : OpS X fv g) (h : D → D → MS → Bool) : OpS X fv (fun d e M => if h d e M = true then f d e M else g d e M) := by
  obtain ⟨r, h1, h2⟩ := hf
  obtain ⟨r', h1', h2'⟩ := hg
  refine ⟨_, OpR.or h1 h1', fun ro H M d e x y E Q R rx ry P => ?_⟩
  dsimp only at P
  by_cases hc : h d e M = true
  · rw [if_pos hc] at P; exact .inl (h2 ro H M d e x y E Q R rx ry P)
  · rw [if_neg hc] at P; exact .inr (h2' ro H M d e x y E Q R rx ry P)
theorem opS_int {fv : Value → Value → Sem Value} {C : Int → Int → Prop} {k : Int → Int → D} {kv : Int → Int → V} (ho : OpR X fv (rI C kv)) (hk : ∀ i j ro H, Rep X.K X.mg ro H (k i j) (kv i j)) {f : D → D → MS → Res D}
    (hf : ∀ d e M, f d e M ≠ .stuck → ∃ i j, d = .int i ∧ e = .int j ∧ C i j ∧ f d e M = .ok (k i j) M) : OpS X fv f := by
  refine ⟨_, ho, fun ro H M d e x y E Q R rx ry P => ?_⟩
  obtain ⟨i, j, rfl, rfl, hc, ef⟩ := hf d e M fun z => by rw [z] at P; exact P
  rw [ef] at P
  cases (show x = V.int i from rx)
  cases (show y = V.int j from ry)
  exact ⟨i, j, rfl, rfl, hc, PostD.pure R (hk i j ro H) P⟩
theorem opS_int0 {fv : Value → Value → Sem Value} {k : Int → Int → D} {kv : Int → Int → V} (ho : OpR X fv (rI0 kv)) (hk : ∀ i j ro H, Rep X.K X.mg ro H (k i j) (kv i j)) {f : D → D → MS → Res D}
    (hf : ∀ d e M, f d e M ≠ .stuck → ∃ i j, d = .int i ∧ e = .int j ∧ f d e M = .ok (k i j) M) : OpS X fv f := by
  refine ⟨_, ho, fun ro H M d e x y E Q R rx ry P => ?_⟩
  obtain ⟨i, j, rfl, rfl, ef⟩ := hf d e M fun z => by rw [z] at P; exact P
  rw [ef] at P
  cases (show x = V.int i from rx)
  cases (show y = V.int j from ry)
  exact ⟨i, j, rfl, rfl, PostD.pure R (hk i j ro H) P⟩
end
def isI2 : D → D → MS → Bool := fun d e _ => match d, e with
  | .int _, .int _ => true
  | _, _ => false
def isS2 : D → D → MS → Bool := fun d e _ => match d, e with
  | .str _, .str _ => true
  | _, _ => false
def isT2 : D → D → MS → Bool := fun d e _ => match d, e with
  | .tup _, .tup _ => true
  | _, _ => false
def addI (d e : D) (M : MS) : Res D := match d, e with
  | .int i, .int j => .ok (.int (i + j)) M
  | _, _ => .stuck
def addS (d e : D) (M : MS) : Res D := match d, e with
  | .str x, .str y => if x.length + y.length ≤ 1000000 then .ok (.str (x ++ y)) M else .stuck
  | _, _ => .stuck
def addL (d e : D) (M : MS) : Res D := match lstOf M d, lstOf M e with
  | some xs, some ys => if xs.length + ys.length ≤ 1000000 then .ok (.lst (xs ++ ys)) M else .stuck
  | _, _ => .stuck
def addT (d e : D) (M : MS) : Res D := match d, e with
  | .tup xs, .tup ys => if xs.length + ys.length ≤ 1000000 then .ok (.tup (xs ++ ys)) M else .stuck
  | _, _ => .stuck
def addD : D → D → MS → Res D := fun d e M => if isI2 d e M = true then addI d e M else if isS2 d e M = true then addS d e M else if isT2 d e M = true then addT d e M else addL d e M
theorem Str.tx_append (x y : List Nat) : tx x ++ tx y = tx (x ++ y) := by
  show (⟨x.toArray ++ y.toArray⟩ : Str) = ⟨(x ++ y).toArray⟩
  simp
section
variable {X : Cx}
theorem opS_addI : OpS X (binaryOp .Add) addI := opS_int0 (k := fun i j => .int (i + j)) op_add (fun _ _ _ _ => rfl) fun d e M h => by
  cases d <;> cases e <;> first | exact absurd rfl h | exact ⟨_, _, rfl, rfl, rfl⟩
theorem opS_addS : OpS X (binaryOp .Add) addS := by
  refine ⟨_, op_add_str, fun ro H M d e x y E Q R rx ry P => ?_⟩
  cases d <;> cases e <;> try exact P.elim
  rename_i a b
  cases (show x = V.str (tx a) from rx)
  cases (show y = V.str (tx b) from ry)
  simp only [addS] at P
  split at P
  · rename_i hl
    refine ⟨_, _, rfl, rfl, by simp only [Str.length, List.size_toArray]; exact line_le hl, ?_⟩
    rw [Str.tx_append]
    exact PostD.pure (d := .str (a ++ b)) R rfl P
  · exact P.elim
theorem opS_addL : OpS X (binaryOp .Add) addL := by
  refine ⟨_, op_cat, fun ro H M d e x y E Q R rx ry P => ?_⟩
  unfold addL at P
  split at P
  · rename_i xs ys h1 h2
    obtain ⟨a, vs, rfl, ha, qa⟩ := lst_of R rx h1
    obtain ⟨b, ws, rfl, hb, qb⟩ := lst_of R ry h2
    split at P
    · rename_i hl
      exact ⟨a, b, vs, ws, rfl, rfl, ha, hb, by rw [← qa.len, ← qb.len]; exact line_le hl, PostD.newL R (qa.append qb) P⟩
    · exact P.elim
  · exact P.elim
theorem opS_addT : OpS X (binaryOp .Add) addT := by
  refine ⟨_, op_catA, fun ro H M d e x y E Q R rx ry P => ?_⟩
  cases d <;> cases e <;> try exact P.elim
  rename_i xs ys
  obtain ⟨a, vs, rfl, ha, qa⟩ := id rx
  obtain ⟨b, ws, rfl, hb, qb⟩ := id ry
  simp only [addT] at P
  split at P
  · rename_i hl
    refine ⟨a, b, vs, ws, rfl, rfl, ha.sq, hb.sq, by rw [← qa.len, ← qb.len]; exact line_le hl, fun e => ?_, fun _ e => ?_, fun _ _ => PostD.newT R (qa.append qb) P⟩
    · have : xs = [] := by have := qa.len; rw [e] at this; simpa using this
      subst this
      exact PostD.pure R ry P
    · have : ys = [] := by have := qb.len; rw [e] at this; simpa using this
      subst this
      rw [List.append_nil] at P
      exact PostD.pure R rx P
  · exact P.elim
theorem opS_add : OpS X (binaryOp .Add) addD := OpS.or opS_addI (OpS.or opS_addS (OpS.or opS_addT opS_addL isT2) isS2) isI2
end
def subI (d e : D) (M : MS) : Res D := match d, e with
  | .int i, .int j => .ok (.int (i - j)) M
  | _, _ => .stuck
def mulI (d e : D) (M : MS) : Res D := match d, e with
  | .int i, .int j => if (-(2 ^ 64) < i ∧ i < 2 ^ 64) ∨ (-(2 ^ 64) < j ∧ j < 2 ^ 64) then .ok (.int (i * j)) M else .stuck
  | _, _ => .stuck
def mulL (d e : D) (M : MS) : Res D := match lstOf M d, e with
  | some xs, .int k => if -1000 ≤ k ∧ k ≤ 1000 ∧ xs.length * k.toNat ≤ 1000000 then .ok (.lst (List.replicate k.toNat xs).flatten) M else .stuck
  | _, _ => .stuck
def fdivI (d e : D) (M : MS) : Res D := match d, e with
  | .int i, .int j => if 0 < j ∧ j < 1073741824 then .ok (.int (i / j)) M else .stuck
  | _, _ => .stuck
def modI (d e : D) (M : MS) : Res D := match d, e with
  | .int i, .int j => if 0 < j then .ok (.int (i % j)) M else .stuck
  | _, _ => .stuck
def powI (d e : D) (M : MS) : Res D := match d, e with
  | .int i, .int j => if 0 ≤ j ∧ j ≤ 1000000 ∧ i.natAbs < 2 ^ 64 then .ok (.int (i ^ j.toNat)) M else .stuck
  | _, _ => .stuck
def mulD : D → D → MS → Res D := fun d e M => if isI2 d e M = true then mulI d e M else mulL d e M
section
variable {X : Cx}
theorem opS_sub : OpS X (binaryOp .Sub) subI := opS_int0 (k := fun i j => .int (i - j)) op_sub (fun _ _ _ _ => rfl) fun d e M h => by
  cases d <;> cases e <;> first | exact absurd rfl h | exact ⟨_, _, rfl, rfl, rfl⟩
theorem opS_mulI : OpS X (binaryOp .Mult) mulI := opS_int (k := fun i j => .int (i * j)) op_mul (fun _ _ _ _ => rfl) fun d e M h => by
  cases d <;> cases e <;> try exact absurd rfl h
  simp only [mulI] at h ⊢
  split at h
  · rename_i c; exact ⟨_, _, rfl, rfl, c, if_pos c⟩
  · exact absurd rfl h
theorem opS_mulL : OpS X (binaryOp .Mult) mulL := by
  refine ⟨_, op_rep, fun ro H M d e x y E Q R rx ry P => ?_⟩
  unfold mulL at P
  split at P
  · rename_i xs k h1
    obtain ⟨a, vs, rfl, ha, qa⟩ := lst_of R rx h1
    cases (show y = V.int k from ry)
    split at P
    · rename_i hl
      exact ⟨a, k, vs, rfl, rfl, ha, by omega, by omega, by rw [← qa.len]; exact line_le hl.2.2, PostD.newL R (qa.flatten_replicate _) P⟩
    · exact P.elim
  · exact P.elim
theorem opS_mul : OpS X (binaryOp .Mult) mulD := OpS.or opS_mulI opS_mulL isI2
theorem opS_fdiv : OpS X (binaryOp .FloorDiv) fdivI := opS_int (k := fun i j => .int (i / j)) op_fdiv (fun _ _ _ _ => rfl) fun d e M h => by
  cases d <;> cases e <;> try exact absurd rfl h
  simp only [fdivI] at h ⊢
  split at h
  · rename_i c; exact ⟨_, _, rfl, rfl, c, if_pos c⟩
  · exact absurd rfl h
theorem opS_mod : OpS X (binaryOp .Mod) modI := opS_int (k := fun i j => .int (i % j)) op_mod (fun _ _ _ _ => rfl) fun d e M h => by
  cases d <;> cases e <;> try exact absurd rfl h
  simp only [modI] at h ⊢
  split at h
  · rename_i c; exact ⟨_, _, rfl, rfl, c, if_pos c⟩
  · exact absurd rfl h
theorem opS_pow : OpS X (binaryOp .Pow) powI := opS_int (k := fun i j => .int (i ^ j.toNat)) op_pow (fun _ _ _ _ => rfl) fun d e M h => by
  cases d <;> cases e <;> try exact absurd rfl h
  simp only [powI] at h ⊢
  split at h
  · rename_i c; exact ⟨_, _, rfl, rfl, c, if_pos c⟩
  · exact absurd rfl h
def negI (d : D) (M : MS) : Res D := match d with
  | .int i => .ok (.int (-i)) M
  | _ => .stuck
theorem unS_neg : UnS X (unaryOp .USub) negI := by
  refine ⟨_, un_neg, fun ro H M d x E Q R rx P => ?_⟩
  cases d <;> try exact P.elim
  rename_i i
  cases (show x = V.int i from rx)
  exact ⟨i, rfl, PostD.pure (d := .int (-i)) R rfl P⟩
end
def cmpI (p : Int → Int → Bool) (d e : D) (M : MS) : Res D := match d, e with
  | .int i, .int j => .ok (.bl (p i j)) M
  | _, _ => .stuck
def cmpT (p : List Nat → List Nat → Bool) (d e : D) (M : MS) : Res D := match d, e with
  | .str x, .str y => .ok (.bl (p x y)) M
  | _, _ => .stuck
def ltD : D → D → MS → Res D := fun d e M => if isI2 d e M = true then cmpI (fun i j => decide (i < j)) d e M else cmpT (fun x y => decide (x < y)) d e M
def leD : D → D → MS → Res D := fun d e M => if isI2 d e M = true then cmpI (fun i j => decide (i ≤ j)) d e M else cmpT (fun x y => !decide (y < x)) d e M
def gtD : D → D → MS → Res D := fun d e M => if isI2 d e M = true then cmpI (fun i j => decide (j < i)) d e M else cmpT (fun x y => decide (y < x)) d e M
def geD : D → D → MS → Res D := fun d e M => if isI2 d e M = true then cmpI (fun i j => decide (j ≤ i)) d e M else cmpT (fun x y => !decide (x < y)) d e M
section
variable {X : Cx}
theorem opS_cmpI {op : CmpOp} {p : Int → Int → Bool} (ho : OpR X (compareOp op) (rI0 fun i j => .bl (p i j))) : OpS X (compareOp op) (cmpI p) := opS_int0 (k := fun i j => .bl (p i j)) ho (fun _ _ _ _ => rfl) fun d e M h => by
  cases d <;> cases e <;> first | exact absurd rfl h | exact ⟨_, _, rfl, rfl, rfl⟩
theorem opS_cmpT {op : CmpOp} {p : List Nat → List Nat → Bool} (ho : OpR X (compareOp op) (fun x y H Q => ∃ i j, x = .str i ∧ y = .str j ∧ Q (.bl (p i.cps.toList j.cps.toList)) H)) : OpS X (compareOp op) (cmpT p) := by
  refine ⟨_, ho, fun ro H M d e x y E Q R rx ry P => ?_⟩
  cases d <;> cases e <;> try exact P.elim
  rename_i a b
  cases (show x = V.str (tx a) from rx)
  cases (show y = V.str (tx b) from ry)
  exact ⟨_, _, rfl, rfl, PostD.pure (d := .bl (p a b)) R rfl P⟩
theorem opS_lt : OpS X (compareOp .Lt) ltD := OpS.or (opS_cmpI op_lt) (opS_cmpT op_lt_str) isI2
theorem opS_ge : OpS X (compareOp .GtE) geD := OpS.or (opS_cmpI op_ge) (opS_cmpT op_ge_str) isI2
end
def isN (d : D) : Bool := match d with
  | .non => true
  | _ => false
section
variable {X : Cx} {W : WX} {a : Expr} {pos p2 : Pos} {ma : ME} {j : Option String}
theorem rep_non {K : PySem.W.Frag} {mg : Str → Option Value} {ro : Pl} {H : Hp} {d : D} {x : V} (r : Rep K mg ro H d x) : decide (x = .non) = isN d := by
  cases d with
  | non => cases (show x = V.non from r); rfl
  | bl b => cases (show x = V.bl b from r); rfl
  | int i => cases (show x = V.int i from r); rfl
  | str y => cases (show x = V.str (tx y) from r); rfl
  | tup ds => obtain ⟨a, vs, rfl, _⟩ := r; rfl
  | lst ds => obtain ⟨a, vs, rfl, _⟩ := r; rfl
  | flst ds => obtain ⟨a, vs, rfl, _⟩ := r; rfl
  | obj C ns ds => obtain ⟨a, c, dx, vs, rfl, _⟩ := r; rfl
  | dic ks ds => obtain ⟨a, kl, vs, rfl, _⟩ := r; rfl
  | glo x => obtain ⟨a, rfl, _⟩ := r; rfl
  | ty n => cases (show x = V.ty n from r); rfl
  | exn C ns ds x d => obtain ⟨a, vs, ⟨rfl, _⟩, _⟩ := r; rfl
  | cell n => obtain ⟨a, rfl, _⟩ := r; rfl
theorem opS_isN : OpS X (compareOp .Is) (fun d e M => match e with | .non => .ok (.bl (isN d)) M | _ => .stuck) := by
  refine ⟨_, op_isN, fun ro H M d e x y E Q R rx ry P => ?_⟩
  cases e <;> try exact P.elim
  cases (show y = V.non from ry)
  exact ⟨rfl, by rw [rep_non rx]; exact PostD.pure (d := .bl (isN d)) R rfl P⟩
end
def ixD (o i : D) (M : MS) : Res D := match i with
  | .int k => (match o with
    | .str x => if x.length ≤ 1000000 then (match atI x k with
      | some c => .ok (.str [c]) M
      | none => .stuck) else .stuck
    | _ => match seqOf M o with
      | some ds => (match atI ds k with
        | some d => .ok d M
        | none => .stuck)
      | none => .stuck)
  | _ => .stuck
theorem Reps.atI {K : PySem.W.Frag} {mg : Str → Option Value} {ro : Pl} {H : Hp} {ds : List D} {vs : List V} {k : Int} {d : D} (h : Reps K mg ro H ds vs) (e : L2.atI ds k = some d) : ∃ v, L2.atI vs k = some v ∧ Rep K mg ro H d v := by
  unfold L2.atI at e ⊢
  rw [← h.len]
  cases q : ixN ds.length k with
  | none => rw [q] at e; cases e
  | some j =>
    rw [q] at e
    exact h.get e
section
variable {X : Cx}
theorem ixS_any : IxS X ixD := by
  refine ⟨_, ix_seq, fun ro H M d e x y E Q R rx ry P => ?_⟩
  cases e <;> try exact P.elim
  rename_i k
  cases (show y = V.int k from ry)
  unfold ixD at P
  dsimp only at P
  split at P
  · rename_i z
    cases (show x = V.str (tx z) from rx)
    split at P
    · rename_i hl
      split at P
      · rename_i c hc
        refine .inr (.inr ⟨tx z, k, c, rfl, rfl, by simp only [Str.length, List.size_toArray]; exact line_le hl, hc, ?_⟩)
        exact PostD.pure (d := .str [c]) R rfl P
      · exact P.elim
    · exact P.elim
  · split at P
    · rename_i ds hs
      split at P
      · rename_i g hg
        obtain ⟨a, vs, rfl, ha, q⟩ := seq_of R rx hs
        obtain ⟨v, hv, rv⟩ := q.atI hg
        rcases ha with ha | ha
        · exact .inl ⟨a, vs, k, v, rfl, rfl, ha, hv, PostD.pure R rv P⟩
        · exact .inr (.inl ⟨a, vs, k, v, rfl, rfl, ha, hv, PostD.pure R rv P⟩)
      · exact P.elim
    · exact P.elim
end
def lenF (ds : List D) (M : MS) : Res D := match ds with
  | [.str x] => if x.length ≤ 1000000 then .ok (.int x.length) M else .stuck
  | [.cell n] => (match M[n]? with
    | some (.lst es) => .ok (.int es.length) M
    | some (.dic ks _) => .stuck
    | _ => .stuck)
  | [d] => (match seqOf M d with
    | some es => .ok (.int es.length) M
    | none => .stuck)
  | _ => .stuck
def max2F (ds : List D) (M : MS) : Res D := match ds with
  | [.int i, .int j] => .ok (.int (if j > i then j else i)) M
  | _ => .stuck
def min2F (ds : List D) (M : MS) : Res D := match ds with
  | [.int i, .int j] => .ok (.int (if j < i then j else i)) M
  | _ => .stuck
def absF (ds : List D) (M : MS) : Res D := match ds with
  | [.int i] => .ok (.int (if i < 0 then -i else i)) M
  | _ => .stuck
def intF (ds : List D) (M : MS) : Res D := match ds with
  | [.int i] => .ok (.int i) M
  | [.bl k] => .ok (.int (if k then 1 else 0)) M
  | _ => .stuck
def boolF (ds : List D) (M : MS) : Res D := match ds with
  | [.int i] => .ok (.bl (i != 0)) M
  | [.bl k] => .ok (.bl k) M
  | _ => .stuck
theorem reps1 {K : PySem.W.Frag} {mg : Str → Option Value} {ro : Pl} {H : Hp} {d : D} {vs : List V} (h : Reps K mg ro H [d] vs) : ∃ v, vs = [v] ∧ Rep K mg ro H d v := by
  obtain ⟨v, r, rfl, q, t⟩ := h
  cases (show r = [] from t)
  exact ⟨v, rfl, q⟩
theorem reps2 {K : PySem.W.Frag} {mg : Str → Option Value} {ro : Pl} {H : Hp} {d e : D} {vs : List V} (h : Reps K mg ro H [d, e] vs) : ∃ v w, vs = [v, w] ∧ Rep K mg ro H d v ∧ Rep K mg ro H e w := by
  obtain ⟨v, r, rfl, q, t⟩ := h
  obtain ⟨w, rfl, q'⟩ := reps1 t
  exact ⟨v, w, rfl, q, q'⟩
section
variable {X : Cx}
theorem callS_len : CallS X (.builtin "len") lenF := by
  refine ⟨_, call_len, fun ro H M ds xs E Q R rs P => ?_⟩
  have seqs : ∀ (d : D) (es : List D), ds = [d] → seqOf M d = some es → PostD X.K X.mg E ro H Q (.ok (.int es.length) M) → ∃ x n, xs = [x] ∧ LenV X.K x H n ∧ Q (.int n) H := fun d es hd he P' => by
    subst hd
    obtain ⟨v, rfl, q⟩ := reps1 rs
    obtain ⟨a, vs, rfl, ha, q'⟩ := seq_of R q he
    refine ⟨_, vs.length, rfl, ?_, by rw [← q'.len]; exact PostD.pure (d := .int es.length) R rfl P'⟩
    rcases ha with ha | ha
    · exact .inl ⟨vs, ha, rfl⟩
    · exact .inr ⟨vs, ha, rfl⟩
  unfold lenF at P
  split at P
  · rename_i x
    obtain ⟨v, rfl, q⟩ := reps1 rs
    cases (show v = V.str (tx x) from q)
    split at P
    · rename_i hl
      exact ⟨_, x.length, rfl, ⟨by simp only [Str.length, List.size_toArray]; exact line_le hl, by simp [Str.length]⟩, PostD.pure (d := .int x.length) R rfl P⟩
    · exact P.elim
  · rename_i n
    split at P
    · rename_i es hm
      exact seqs _ es rfl (by simp [seqOf, hm]) P
    · exact P.elim
    · exact P.elim
  · rename_i d _ _
    split at P
    · rename_i es he
      exact seqs d es rfl he P
    · exact P.elim
  · exact P.elim
theorem callS_min2 (hc : X.calm = true) : CallS X (.builtin "min") min2F := by
  refine ⟨_, call_min2 hc, fun ro H M ds xs E Q R rs P => ?_⟩
  unfold min2F at P
  split at P
  · obtain ⟨v, w, rfl, q, q'⟩ := reps2 rs
    cases (show v = V.int _ from q)
    cases (show w = V.int _ from q')
    exact ⟨_, _, rfl, PostD.pure (d := .int _) R rfl P⟩
  · exact P.elim
theorem callS_abs : CallS X (.builtin "abs") absF := by
  refine ⟨_, call_abs, fun ro H M ds xs E Q R rs P => ?_⟩
  unfold absF at P
  split at P
  · obtain ⟨v, rfl, q⟩ := reps1 rs
    cases (show v = V.int _ from q)
    exact ⟨_, rfl, PostD.pure (d := .int _) R rfl P⟩
  · exact P.elim
theorem callS_int : CallS X (.type "int") intF := by
  refine ⟨_, call_int1, fun ro H M ds xs E Q R rs P => ?_⟩
  unfold intF at P
  split at P
  · obtain ⟨v, rfl, q⟩ := reps1 rs
    cases (show v = V.int _ from q)
    exact .inl ⟨_, rfl, PostD.pure (d := .int _) R rfl P⟩
  · obtain ⟨v, rfl, q⟩ := reps1 rs
    cases (show v = V.bl _ from q)
    exact .inr ⟨_, rfl, PostD.pure (d := .int _) R rfl P⟩
  · exact P.elim
end
end DL
namespace DL
open PySem PySem.Spec L2
open PyProof.Rows hiding St
variable [HashW]
def itD (M : MS) (d : D) : Option ItD := match d with
  | .str x => some ⟨x.map fun c => .str [c], fun _ => True⟩
  | .tup ds => some ⟨ds, fun _ => True⟩
  | .lst ds => some ⟨ds, fun _ => True⟩
  | .flst ds => some ⟨ds, fun _ => True⟩
  | .cell n => match M[n]? with
    | some (.lst ds) => some ⟨ds, fun M' => M'[n]? = some (.lst ds)⟩
    | _ => none
  | _ => none
def anyI (m : ME) : MI := fun sd M => (m sd M).bind fun d M1 => match itD M1 d with
  | some it => .ok it M1
  | none => .stuck
def isTup : D → Bool
  | .tup _ => true
  | _ => false
section
variable {K : PySem.W.Frag} {mg : Str → Option Value} {ro : Pl} {H : Hp} {M : MS}
theorem Reps.at_ {ds : List D} {vs : List V} (h : Reps K mg ro H ds vs) {i : Nat} {d : D} (e : ds[i]? = some d) {x : V} (ex : vs[i]? = some x) : Rep K mg ro H d x := by
  obtain ⟨v, hv, r⟩ := h.get e
  rw [ex] at hv; cases hv
  exact r
theorem iterOk_tup {ds : List D} {x : V} (r : Rep K mg ro H (.tup ds) x) : ∃ a vs, x = .ref a ∧ SqT K H a vs ∧ IterOk K mg ro H ⟨ds, fun _ => True⟩ (Itt K a) := by
  obtain ⟨a, vs, rfl, q, rs⟩ := id r
  refine ⟨a, vs, rfl, q.sq, fun ro' H' M' R' P' _ => ?_⟩
  obtain ⟨a', vs', e, q', rs'⟩ := Rep.monoW P' _ _ r
  cases e
  refine ⟨⟨vs', q'.sq, by rw [← rs'.len]; exact Nat.le_refl _⟩, fun i d hd => ⟨?_, fun y H'' hy => ?_⟩⟩
  · obtain ⟨v, hv, _⟩ := rs'.get hd
    exact ⟨vs', v, q'.sq, hv⟩
  · obtain ⟨rfl, hy⟩ := hy
    exact ⟨fun _ _ h => h, rs'.at_ hd (hy vs' q'.sq)⟩
theorem iterOk_lst {ds : List D} {d0 : D} {chk : MS → Prop} {x : V} (R : RelS K mg ro M H) (r : Rep K mg ro H d0 x) (e0 : seqOf M d0 = some ds) (hn : isTup d0 = false) (hc : ∀ M', chk M' → seqOf M' d0 = some ds) : ∃ a vs, x = .ref a ∧ SqL K H a vs ∧ IterOk K mg ro H ⟨ds, chk⟩ (Itl K a) := by
  have key : ∀ {ro' : Pl} {H' : Hp} {M' : MS}, RelS K mg ro' M' H' → Rep K mg ro' H' d0 x → seqOf M' d0 = some ds → ∃ a vs, x = .ref a ∧ SqL K H' a vs ∧ Reps K mg ro' H' ds vs := fun {ro' H' M'} R' r' e' => by
    cases d0 with
    | lst es =>
      cases (show some es = some ds from e')
      obtain ⟨a, vs, rfl, h, _, q⟩ := r'
      exact ⟨a, vs, rfl, SqL.of h, q⟩
    | flst es =>
      cases (show some es = some ds from e')
      obtain ⟨a, vs, rfl, h, q⟩ := r'
      exact ⟨a, vs, rfl, h.sq, q⟩
    | cell n =>
      have e' : (match M'[n]? with | some (.lst ds) => some ds | _ => none) = some ds := e'
      split at e'
      · rename_i es hm
        cases e'
        obtain ⟨a, ho, rfl, _, h, vs, rfl, q⟩ := R'.cellAt r' hm
        exact ⟨a, vs, rfl, SqL.of h, q⟩
      · cases e'
    | tup es => cases hn
    | _ => cases e'
  obtain ⟨a, vs, rfl, q, rs⟩ := key R r e0
  refine ⟨a, vs, rfl, q, fun ro' H' M' R' P' hM => ?_⟩
  obtain ⟨a', vs', e, q', rs'⟩ := key R' (Rep.monoW P' _ _ r) (hc M' hM)
  cases e
  refine ⟨⟨vs', q', by rw [← rs'.len]; exact Nat.le_refl _⟩, fun i d hd => ⟨?_, fun y H'' hy => ?_⟩⟩
  · obtain ⟨v, hv, _⟩ := rs'.get hd
    exact ⟨vs', v, q', hv⟩
  · obtain ⟨rfl, hy⟩ := hy
    exact ⟨fun _ _ h => h, rs'.at_ hd (hy vs' q')⟩
theorem iterOk_str {x : List Nat} : IterOk K mg ro H ⟨x.map fun c => .str [c], fun _ => True⟩ (Its (tx x)) := fun ro' H' M' R' P' _ => by
  refine ⟨by show (tx x).cps.size ≤ _; simp, fun i d hd => ⟨?_, fun y H'' hy => ?_⟩⟩
  · have := (List.getElem?_eq_some_iff.mp hd).1
    show i < (tx x).cps.size
    simpa using this
  · obtain ⟨rfl, c, hc, rfl⟩ := hy
    refine ⟨fun _ _ h => h, ?_⟩
    rw [List.getElem?_map] at hd
    have hc' : x[i]? = some c := by simpa using hc
    rw [hc'] at hd
    cases hd
    rfl
end
section
variable {X : Cx} {W : WX} {tg e : Expr} {m : ME}
theorem PI.or {X : Cx} {tg iter : Expr} {w w' : TI} (h : PI X tg iter w) (h' : PI X tg iter w') : PI X tg iter (fun st H R => w st H R ∨ w' st H R) :=
  ⟨fun pins s st H R I q => q.elim (h.run pins s st H R I) (h'.run pins s st H R I)⟩
theorem di_any (h : DE X W e m) : DI X W tg e (anyI m) := by
  refine ⟨⟨fun pins s st H Q I q => (PI.or (pi_list h.pe) (PI.or (pi_tup h.pe) (pi_str h.pe))).run pins s st H Q I ?_⟩⟩
  obtain ⟨ro, sd, M, R, S, P⟩ := q
  have P : Post _ X.K X.mg (fun c d H' => W c d st H') ro H Q ((m sd M).bind _) := P
  cases em : m sd M with
  | stuck => rw [em] at P; exact P.elim
  | exc C ns ds M1 => exact .inl ⟨ro, sd, M, R, S, by rw [em] at P ⊢; exact P⟩
  | ok d M1 =>
    rw [em, Res.bind_ok] at P
    have fin : ∀ (it : ItD), itD M1 d = some it → ∀ {ro1 : Pl} {H1 : Hp}, RelS X.K X.mg ro1 M1 H1 → Pres ro H ro1 H1 → ∀ J, IterOk X.K X.mg ro1 H1 it J → Q J H1 := fun it hi {ro1 H1} R1 Pr J hJ => by
      rw [hi] at P
      exact P ro1 H1 J R1 Pr hJ
    have lists : ∀ ds chk, itD M1 d = some ⟨ds, chk⟩ → seqOf M1 d = some ds → isTup d = false → (∀ M', chk M' → seqOf M' d = some ds) → iList X.K (liftE X.K X.mg W m) st H Q := fun ds chk h1 h2 h3 h4 =>
      ⟨ro, sd, M, R, S, by rw [em]; exact fun ro1 H1 v R1 Pr r => let ⟨a, vs, ev, q, o⟩ := iterOk_lst R1 r h2 h3 h4; ⟨a, ev, ⟨vs, q⟩, fin _ h1 R1 Pr _ o⟩⟩
    cases d with
    | str x => exact .inr (.inr ⟨ro, sd, M, R, S, by rw [em]; exact fun ro1 H1 v R1 Pr r => ⟨tx x, r, fin _ rfl R1 Pr _ iterOk_str⟩⟩)
    | tup ds => exact .inr (.inl ⟨ro, sd, M, R, S, by rw [em]; exact fun ro1 H1 v R1 Pr r => let ⟨a, vs, ev, q, o⟩ := iterOk_tup r; ⟨a, ev, ⟨vs, q⟩, fin _ rfl R1 Pr _ o⟩⟩)
    | lst ds => exact .inl (lists ds (fun _ => True) rfl rfl rfl fun _ _ => rfl)
    | flst ds => exact .inl (lists ds (fun _ => True) rfl rfl rfl fun _ _ => rfl)
    | cell n =>
      cases hm : M1[n]? with
      | none => exact (by simp [itD, hm, Post] at P : False).elim
      | some mo =>
        cases mo with
        | lst ds => exact .inl (lists ds (fun M' => M'[n]? = some (.lst ds)) (by simp [itD, hm]) (by simp [seqOf, hm]) rfl fun M' h => by simp [seqOf, h])
        | _ => exact (by simp [itD, hm, Post] at P : False).elim
    | _ => exact P.elim
def intsI (xs : List Int) : ItD := ⟨xs.map D.int, fun _ => True⟩
theorem iterOk_ints {K : PySem.W.Frag} {mg : Str → Option Value} {ro : Pl} {H : Hp} (lo c : Int) (n : Nat) : IterOk K mg ro H (intsI ((List.range n).map fun (k : Nat) => lo + k * c)) (Itc lo c n) := fun ro' H' M' R' P' _ => by
  refine ⟨by show n ≤ _; simp [intsI], fun i d hd => ⟨?_, fun y H'' hy => ?_⟩⟩
  · have := (List.getElem?_eq_some_iff.mp hd).1
    show i < n
    simpa [intsI] using this
  · obtain ⟨rfl, rfl⟩ := hy
    refine ⟨fun _ _ h => h, ?_⟩
    have hi := (List.getElem?_eq_some_iff.mp hd).1
    simp [intsI] at hi hd
    obtain ⟨w, hw, hd⟩ := hd
    rw [List.getElem?_range hi] at hw
    cases hw
    rw [← hd]
    rfl
theorem itr_itc (lo : Int) (n : Nat) : Itr lo n = Itc lo 1 n := by
  unfold Itr Itc
  simp
def rangeN (lo hi : Int) : List Int := (List.range (hi - lo).toNat).map fun (k : Nat) => lo + k * 1
def range1I (a : MA) : MI := fun sd M => (a sd M).bind fun ds M1 => match ds with
  | [.int j] => if -1000000000 ≤ j ∧ j ≤ 1000000000 then .ok (intsI (rangeN 0 j)) M1 else .stuck
  | _ => .stuck
def range2I (a : MA) : MI := fun sd M => (a sd M).bind fun ds M1 => match ds with
  | [.int i, .int j] => if -1000000000 ≤ i ∧ i ≤ 1000000000 ∧ -1000000000 ≤ j ∧ j ≤ 1000000000 then .ok (intsI (rangeN i j)) M1 else .stuck
  | _ => .stuck
/-- steps upward -/
def rangeC (lo hi c : Int) : List Int := (List.range (if lo < hi then ((hi - lo - 1) / c + 1).toNat else 0)).map fun (k : Nat) => lo + k * c
def range3I (a : MA) : MI := fun sd M => (a sd M).bind fun ds M1 => match ds with
  | [.int i, .int j, .int c] => if -1000000000 ≤ i ∧ i ≤ 1000000000 ∧ -1000000000 ≤ j ∧ j ≤ 1000000000 ∧ 0 < c ∧ c ≤ 1000000000 then .ok (intsI (rangeC i j c)) M1 else .stuck
  | _ => .stuck
theorem di_range1 {a : Expr} {p pos : Pos} {ma : MA} (hg : Gl X "range") (hm : X.mg "range" = none) (ha : DA X W [a] ma) (hs : starEach [a] X.env = [(false, eval a X.env)] := by rfl) : DI X W tg (.Call (.Name "range" p) [a] [] pos) (range1I ma) := by
  refine ⟨⟨fun pins s st H Q I q => (pi_range1 hg hm ha.pa hs).run pins s st H Q I ?_⟩⟩
  obtain ⟨ro, sd, M, R, S, P⟩ := q
  refine ⟨ro, sd, M, R, S, (Post.bind P).imp fun xs H1 ⟨ro1, M1, ds, R1, P1, r1, q1⟩ => ?_⟩
  split at q1
  · rename_i j
    obtain ⟨v, rfl, r⟩ := reps1 r1
    cases (show v = V.int j from r)
    split at q1
    · rename_i hj
      refine ⟨j, rfl, by omega, by omega, q1 ro1 H1 _ R1 (Pres.refl _ _) ?_⟩
      rw [itr_itc]
      have := iterOk_ints (K := X.K) (mg := X.mg) (ro := ro1) (H := H1) 0 1 (j - 0).toNat
      rw [Int.sub_zero] at this
      unfold rangeN
      rw [Int.sub_zero]
      exact this
    · exact q1.elim
  · exact q1.elim
end
def Res.ne {A : Type} : Res A → Res A
  | .ok a M => .ok a M
  | _ => .stuck
@[simp] theorem Res.ne_ok {A : Type} (a : A) (M : MS) : (Res.ok a M).ne = .ok a M := rfl
def yesB : MB := fun _ M => .ok true M
structure DTs (X : Cx) (W : WX) (ifs : List Expr) (m : MB) : Prop where
  pts : PTs X ifs (liftB X.K X.mg W m)
def wipeD (sd : SD) : List Nat → SD
  | [] => sd
  | v :: vs => (wipeD sd vs).set v none
open Classical in
noncomputable def lcGo (chk : MS → Prop) (g : MG) (tt : MB) (te : ME) (w : SD) : List D → List D → MS → Res (List D)
  | [], acc, M => if chk M then .ok acc M else .stuck
  | d :: r, acc, M => if chk M then (match g d w with
    | none => .stuck
    | some sd1 => (tt sd1 M).ne.bind fun b M1 => if b = true then (te sd1 M1).ne.bind fun y M2 => if acc.length < 1000000 then lcGo chk g tt te w r (acc ++ [y]) M2 else .stuck else lcGo chk g tt te w r acc M1) else .stuck
noncomputable def lcE (mi : MI) (g : MG) (tt : MB) (te : ME) (vs : List Nat) : ME := fun sd M => (mi sd M).bind fun it M1 => (lcGo it.chk g tt te (wipeD sd vs) it.ds [] M1).ne.bind fun ds M2 => .ok (.lst ds) M2
/-- the list will be changed -/
noncomputable def lcC (mi : MI) (g : MG) (tt : MB) (te : ME) (vs : List Nat) : ME := fun sd M => (mi sd M).bind fun it M1 => (lcGo it.chk g tt te (wipeD sd vs) it.ds [] M1).ne.bind fun ds M2 => .ok (.cell M2.length) (M2 ++ [.lst ds])
section
variable {K : PySem.W.Frag} {mg : Str → Option Value}
theorem RepSt.wipe {ro : Pl} {H : Hp} {sd : SD} {st : St} (h : RepSt K mg ro H sd st) : ∀ vs, RepSt K mg ro H (wipeD sd vs) (L2.wipe st vs)
  | [] => h
  | v :: vs => (RepSt.wipe h vs).unset
theorem Post.ne {A B : Type} {R : Pl → Hp → A → B → Prop} {E : XK} {ro : Pl} {H : Hp} {Q : B → Hp → Prop} {x : Res A} {A' B' : Type} {R' : Pl → Hp → A' → B' → Prop} {E' : XK} {Q' : B' → Hp → Prop} {k : A → MS → Res A'} (h : Post R' K mg E' ro H Q' (x.ne.bind k)) :
    Post R K mg E ro H (fun v H1 => ∃ ro1 M1 a, RelS K mg ro1 M1 H1 ∧ Pres ro H ro1 H1 ∧ R ro1 H1 a v ∧ Post R' K mg E' ro1 H1 Q' (k a M1)) x := by
  cases x with
  | ok a M => exact Post.bind (x := .ok a M) h
  | exc C ns ds M => exact h.elim
  | stuck => exact h.elim
/-- the places that are looked through, as they stand within a comprehension -/
structure Within (ro1 : Pl) (H1 : Hp) (p : Addr) (ro' : Pl) (H' : Hp) : Prop where
  hid : ro'.hid = p :: ro1.hid
  pre : ∃ t, ro'.ro = ro1.ro ++ t
  keep : ∀ a o, H1 a = some o → a ∉ ro1.ro → H' a = some o
  new : ∀ a, a ∈ ro'.ro → a ∈ ro1.ro ∨ H1 a = none
theorem Within.out {ro1 ro' : Pl} {H1 H' : Hp} {p : Addr} (w : Within ro1 H1 p ro' H') : Pres ro1 H1 ⟨ro'.ro, ro1.hid⟩ H' := ⟨w.pre, rfl, w.keep, w.new⟩
theorem Within.w {ro1 ro' : Pl} {H1 H' : Hp} {p : Addr} (w : Within ro1 H1 p ro' H') (hp : H1 p = none) : PresW ro1 H1 ro' H' := ⟨w.pre, fun a o h n => w.keep a o h (Pl.out_ro n), fun a h => by
  rcases List.mem_append.mp h with h | h
  · rcases w.new a h with z | z
    · exact .inl (List.mem_append_left _ z)
    · exact .inr z
  · rw [w.hid] at h
    rcases List.mem_cons.mp h with h | h
    · exact .inr (h ▸ hp)
    · exact .inl (List.mem_append_right _ h)⟩
theorem Within.step {ro1 ro' ro2 : Pl} {H1 H' H2 : Hp} {p : Addr} (w : Within ro1 H1 p ro' H') (q : Pres ro' H' ro2 H2) : Within ro1 H1 p ro2 H2 := by
  have t := Pres.trans (r0 := ro1) (H0 := H1) (r1 := ⟨ro'.ro, ro1.hid⟩) (H1 := H') (r2 := ⟨ro2.ro, ro1.hid⟩) (H2 := H2) w.out ⟨q.pre, rfl, q.keep, q.new⟩
  exact ⟨q.hid.trans w.hid, t.pre, t.keep, t.new⟩
theorem Within.put {ro1 ro' : Pl} {H1 H' : Hp} {p : Addr} {o : HO} (w : Within ro1 H1 p ro' H') (hp : H1 p = none) : Within ro1 H1 p ro' (upd H' p o) :=
  ⟨w.hid, w.pre, fun a u h hn => by rw [upd_ne (ne_of_none h hp)]; exact w.keep a u h hn, w.new⟩
theorem RelS.shown' {ro1 ro' : Pl} {p : Addr} {M : MS} {H : Hp} (R : RelS K mg ro' M H) (e : ro'.hid = p :: ro1.hid) : RelS K mg ⟨ro'.ro, ro1.hid⟩ M H :=
  ⟨R.len, R.nd, fun a ha => R.live a (by rw [e]; exact List.mem_cons_of_mem _ ha), fun a ha hb => R.dis a ha (by rw [e]; exact List.mem_cons_of_mem _ hb), fun i mo a e1 e2 => let ⟨ho, e3, m⟩ := R.at_ i mo a e1 e2; ⟨ho, e3, MRel.less (ro := ro') (ro' := ⟨ro'.ro, ro1.hid⟩) rfl (fun x (h : x ∈ ro1.hid) => by rw [e]; exact List.mem_cons_of_mem _ h) m⟩⟩
end
section
variable {X : Cx} {W : WX}
theorem dts_nil : DTs X W [] yesB := by
  refine ⟨⟨fun pins s st H Q I q => pts_nil.run pins s st H Q I ?_⟩⟩
  obtain ⟨ro, sd, M, R, S, P⟩ := q
  exact P ro H true R (Pres.refl _ _) rfl
theorem dts_one {c : Expr} {t : MB} (h : DT X W c t) : DTs X W [c] t := ⟨pts_one h.pt⟩
/-- one run of the block, from the heap H1 on -/
theorem lc_turns {K : PySem.W.Frag} {mg : Str → Option Value} {it : ItD} {J : It} {ro1 : Pl} {H1 : Hp} {M1 : MS} {sd : SD} {st : St} {g : MG} {ix vs : List Nat} {tt : MB} {te : ME} {Q : VK} (hix : ∀ i, i ∈ ix → i ∈ vs)
    (R1 : RelS K mg ro1 M1 H1) (S1 : RepSt K mg ro1 H1 sd st) (J1 : IterOk K mg ro1 H1 it J) {p : Addr} (hp : H1 p = none)
    (fin : ∃ ds M2, lcGo it.chk g tt te (wipeD sd vs) it.ds [] M1 = .ok ds M2 ∧ ∀ ro' H' us, RelS K mg ro' M2 H' → Within ro1 H1 p ro' H' → H' p = some (.lst us) → Reps K mg ro' H' ds us → Q (.ref p) H') :
    ∃ Wv : Nat → Nat → Hp → Prop, (∃ m, Wv 0 m (upd H1 p (.lst []))) ∧ ∀ i m H, Wv i m H →
      (J.stop i H ∧ Q (.ref p) H) ∨ (J.go i H ∧ ∃ Nx : Hp → Prop, (∀ H', Nx H' → ∃ m', m' < m ∧ Wv (i + 1) m' H') ∧ ∀ x H', J.yld i H x H' → liftG K mg g ix x (wipe st vs) H' fun s2 H2 => wipe s2 vs = wipe st vs ∧ liftB K mg W0 tt s2 H2 fun b H3 =>
        if b = true then liftE K mg W0 te s2 H3 fun y H4 => ∃ acc, H4 p = some (.lst acc) ∧ acc.length < sizeLine ∧ Nx (upd H4 p (.lst (acc ++ [y]))) else Nx H3) := by
  obtain ⟨ds, M2, hrun, fin⟩ := fin
  refine ⟨fun i m H' => m = it.ds.length - i ∧ i ≤ it.ds.length ∧ ∃ ro' M' acc us, RelS K mg ro' M' H' ∧ Within ro1 H1 p ro' H' ∧ H' p = some (.lst us) ∧ Reps K mg ro' H' acc us ∧ lcGo it.chk g tt te (wipeD sd vs) (it.ds.drop i) acc M' = .ok ds M2,
    ⟨_, rfl, Nat.zero_le _, ro1.hide p, M1, [], [], R1.hide hp, ⟨rfl, ⟨[], by simp⟩, fun a o h _ => upd_grow hp a o h, fun a h => .inl h⟩, upd_same, rfl, hrun⟩, ?_⟩
  rintro i m H' ⟨rfl, hle, ro', M', acc, us, R', Wi, hpl, ra, hr⟩
  have mem : p ∈ ro'.hid := by rw [Wi.hid]; exact List.mem_cons_self
  by_cases hlt : i < it.ds.length
  · have hd : it.ds.drop i = it.ds[i] :: it.ds.drop (i + 1) := List.drop_eq_getElem_cons hlt
    rw [hd] at hr
    unfold lcGo at hr
    by_cases hc : it.chk M'
    · rw [if_pos hc] at hr
      obtain ⟨_, hJ⟩ := J1 ro' H' M' R' (Wi.w hp) hc
      obtain ⟨hgo, hy⟩ := hJ i _ (List.getElem?_eq_getElem hlt)
      refine .inr ⟨hgo, fun H2 => ∃ ro2 M3 acc us, RelS K mg ro2 M3 H2 ∧ Within ro1 H1 p ro2 H2 ∧ H2 p = some (.lst us) ∧ Reps K mg ro2 H2 acc us ∧ lcGo it.chk g tt te (wipeD sd vs) (it.ds.drop (i + 1)) acc M3 = .ok ds M2,
        fun H2 ⟨ro2, M3, acc, us, a, b, c, d, e⟩ => ⟨it.ds.length - (i + 1), by omega, rfl, hlt, ro2, M3, acc, us, a, b, c, d, e⟩, fun x H'' y => ?_⟩
      obtain ⟨hgrow, hrep⟩ := hy x H'' y
      obtain ⟨R'', P''⟩ := R'.grow hgrow
      cases hgd : g it.ds[i] (wipeD sd vs) with
      | none => rw [hgd] at hr; cases hr
      | some sd1 =>
        rw [hgd] at hr
        dsimp only at hr
        have S'' : RepSt K mg ro' H'' (wipeD sd vs) (wipe st vs) := ((S1.monoW (Wi.w hp)).mono P'').wipe vs
        refine ⟨ro', wipeD sd vs, M', _, R'', S'', hrep, sd1, hgd, fun st1 Sd1 hw => ⟨by rw [hw vs hix]; exact (List.ext_getElem? fun j => by rw [wipe_get, wipe_get, wipe_length]; split <;> rfl), ?_⟩⟩
        refine ⟨ro', sd1, M', R'', Sd1, ?_⟩
        cases ht : tt sd1 M' with
        | exc C ns ds M3 => rw [ht] at hr; cases hr
        | stuck => rw [ht] at hr; cases hr
        | ok b M3 =>
          rw [ht, Res.ne_ok, Res.bind_ok] at hr
          rintro ro3 H3 b' R3 P3 rfl
          have W3 := (Wi.step P'').step P3
          have ra3 := Reps.mono P3 _ _ (Reps.mono P'' _ _ ra)
          have hp3 : H3 p = some (.lst us) := P3.keep p _ (P''.keep p _ hpl fun z => R'.dis p z mem) fun z => R''.dis p z mem
          cases b' with
          | false =>
            rw [if_neg Bool.false_ne_true] at hr ⊢
            exact ⟨ro3, M3, acc, us, R3, W3, hp3, ra3, hr⟩
          | true =>
            rw [if_pos rfl] at hr ⊢
            refine ⟨ro3, sd1, M3, R3, Sd1.mono P3, ?_⟩
            cases hte : te sd1 M3 with
            | exc C ns ds M4 => rw [hte] at hr; cases hr
            | stuck => rw [hte] at hr; cases hr
            | ok y M4 =>
              rw [hte, Res.ne_ok, Res.bind_ok] at hr
              intro ro4 H4 yv R4 P4 ry
              split at hr
              · rename_i hl
                have mem4 : p ∈ ro4.hid := by rw [P4.hid, P3.hid]; exact mem
                have hp4 : H4 p = some (.lst us) := P4.keep p _ hp3 fun z => R3.dis p z (by rw [P3.hid]; exact mem)
                have ra4 := Reps.mono P4 _ _ ra3
                refine ⟨us, hp4, by rw [← ra4.len]; exact line_lt hl, ro4, M4, acc ++ [y], us ++ [yv], R4.unseen mem4, (W3.step P4).put hp, upd_same, ?_, hr⟩
                exact Reps.unseen mem4 _ _ (ra4.append (Reps.one ry))
              · cases hr
    · rw [if_neg hc] at hr; cases hr
  · have e : i = it.ds.length := by omega
    subst e
    rw [List.drop_length] at hr
    unfold lcGo at hr
    by_cases hc : it.chk M'
    · rw [if_pos hc] at hr
      cases hr
      exact .inl ⟨(J1 ro' H' _ R' (Wi.w hp) hc).1, fin ro' H' us R' Wi hpl ra⟩
    · rw [if_neg hc] at hr; cases hr
section
variable {elt tg iter : Expr} {ifs : List Expr} {scope : Scope} {own : List (Str × Nat)} {pos spos : Pos} {mi : MI} {g : MG} {ix : List Nat} {tt : MB} {te : ME}
theorem lc_tree {st : St} {H : Hp} {Q : VK} {vs : List Nat} (hix : ∀ i, i ∈ ix → i ∈ vs) (q : liftE X.K X.mg W (lcE mi g tt te vs) st H Q) : tLc (liftI X.K X.mg W mi) (liftG X.K X.mg g ix) (liftB X.K X.mg W0 tt) (liftE X.K X.mg W0 te) vs st H Q := by
  obtain ⟨ro, sd, M, R, S, P⟩ := q
  refine ⟨ro, sd, M, R, S, (Post.bind P).imp fun J H1 ⟨ro1, M1, it, R1, P1, J1, q1⟩ => fun p hp => ?_⟩
  refine lc_turns hix R1 (S.mono P1) J1 hp ?_
  cases hrun : lcGo it.chk g tt te (wipeD sd vs) it.ds [] M1 with
  | stuck => rw [hrun] at q1; exact q1.elim
  | exc C ns ds M2 => rw [hrun] at q1; exact q1.elim
  | ok ds M2 =>
    rw [hrun, Res.ne_ok, Res.bind_ok] at q1
    refine ⟨ds, M2, rfl, fun ro' H' us R' Wi hpl ra => ?_⟩
    have mem : p ∈ ro'.hid := by rw [Wi.hid]; exact List.mem_cons_self
    refine q1 _ H' (.ref p) (R'.shown' Wi.hid) Wi.out ⟨p, us, rfl, hpl, fun m => ?_, Reps.less (ro := ro') (ro' := ⟨ro'.ro, ro1.hid⟩) rfl (fun x (h : x ∈ ro1.hid) => by rw [Wi.hid]; exact List.mem_cons_of_mem _ h) _ _ ra⟩
    rcases List.mem_append.mp m with m | m
    · exact R'.dis p m mem
    · exact R1.liveN p m hp
variable (hc : X.calm = true) (hN : X.N.Nodup) (hi : DI X W tg iter mi) (ok : BlkOk X.N X.env.scope scope own) (hix : ∀ i, i ∈ ix → i ∈ own.map (·.2))
    (hg : ∀ (s : Shared) (H : Hp) (C : Addr) (cl : List (Str × Addr)) (fp : List Addr), DG (X.blk s H scope (compEnvC scope cl C X.env) fp) tg g ix) (ht : ∀ (s : Shared) (H : Hp) (C : Addr) (cl : List (Str × Addr)) (fp : List Addr), DTs (X.blk s H scope (compEnvC scope cl C X.env) fp) W0 ifs tt)
    (he : ∀ (s : Shared) (H : Hp) (C : Addr) (cl : List (Str × Addr)) (fp : List Addr), DE (X.blk s H scope (compEnvC scope cl C X.env) fp) W0 elt te)
include hc hN hi ok hix hg ht he
theorem de_lc (hs : ∀ x, foldedSetIterable iter X.env x = pure x := by intro _; rfl) : DE X W (.ListComp elt [⟨tg, iter, ifs, 0⟩] scope pos) (lcE mi g tt te (own.map (·.2))) :=
  ⟨⟨fun pins s st H Q I q => (pe_lc hc hN hi.pi ok (fun a b c d e => (hg a b c d e).pg) (fun a b c d e => (ht a b c d e).pts) (fun a b c d e => (he a b c d e).pe) hs).run pins s st H Q I (lc_tree hix q)⟩⟩
theorem setLc_end {i : Nat} {m : ME} {D0 : Ends} {st : St} {H : Hp} {vs : List Nat} (hl : ∀ Q, liftE X.K X.mg W m st H Q → tLc (liftI X.K X.mg W mi) (liftG X.K X.mg g ix) (liftB X.K X.mg W0 tt) (liftE X.K X.mg W0 te) vs st H Q)
    (q : liftS X.K X.mg W (setS i m) D0 st H) : tAsg (tLc (liftI X.K X.mg W mi) (liftG X.K X.mg g ix) (liftB X.K X.mg W0 tt) (liftE X.K X.mg W0 te) vs) (gName i) D0 st H := by
  obtain ⟨ro, sd, M, R, S, P⟩ := q
  refine hl _ ⟨ro, sd, M, R, S, (PostS.ofE P S).imp fun x H1 ⟨ro1, M1, d, R1, P1, r1, q1⟩ => ?_⟩
  exact q1 ro1 H1 _ R1 (Pres.refl _ _) ((S.mono P1).set r1)
theorem ds_setLc {i : Nat} {y : Str} {py : Pos} (hy : X.N[i]? = some y) (hyl : X.env.scope.names.lookup y = some .local) (hsw : swapsWith (.ListComp elt [⟨tg, iter, ifs, 0⟩] scope pos) (some (.Name y py)) spos.line X.env = pure true)
    (hs : ∀ x, foldedSetIterable iter X.env x = pure x := by intro _; rfl) : DS X W (.Assign [.Name y py] (.ListComp elt [⟨tg, iter, ifs, 0⟩] scope pos) spos) (setS i (lcE mi g tt te (own.map (·.2)))) :=
  ⟨⟨fun pins s st H D0 I q => (ps_setLc hc hN hy hyl hsw hi.pi ok (fun a b c d e => (hg a b c d e).pg) (fun a b c d e => (ht a b c d e).pts) (fun a b c d e => (he a b c d e).pe) hs).run pins s st H D0 I
    (setLc_end hc hN hi ok hix hg ht he (fun _ => lc_tree hix) q)⟩⟩
end
end
end DL
namespace DL
open PySem PySem.Spec L2
open PyProof.Rows hiding St
variable [HashW]
theorem ofString_inj {s t : String} (h : Str.ofString s = Str.ofString t) : s = t := by
  rw [Str.ofString_eq_toList, Str.ofString_eq_toList] at h
  have h1 : s.toList.map Char.toNat = t.toList.map Char.toNat := by
    have := congrArg (fun z : Str => z.cps.toList) h
    simpa using this
  have h2 : s.toList = t.toList := List.map_inj_right (fun a b e => Char.ext (UInt32.toNat_inj.mp e)) |>.mp h1
  exact String.toList_inj.mp h2
def lookF : List String → List D → String → Option D
  | n :: ns, d :: ds, f => if f = n then some d else lookF ns ds f
  | _, _, _ => none
def putN : List String → List D → String → D → List String × List D
  | n :: ns, d :: ds, f, e => if n = f then (n :: ns, e :: ds) else ((n :: (putN ns ds f e).1), (d :: (putN ns ds f e).2))
  | _, _, f, e => ([f], [e])
section
variable {K : PySem.W.Frag} {mg : Str → Option Value} {ro : Pl} {H : Hp}
theorem lookF_some : ∀ {ns : List String} {ds : List D} {vs : List V} {f : String} {d : D}, Reps K mg ro H ds vs → lookF ns ds f = some d → ∃ v, (zipF ns vs).lookup (Str.ofString f) = some v ∧ Rep K mg ro H d v
  | [], ds, vs, f, d, r, e => by cases ds <;> cases e
  | n :: ns, [], vs, f, d, r, e => by cases e
  | n :: ns, x :: ds, vs, f, d, ⟨v, rs, ev, q, t⟩, e => by
    subst ev
    show ∃ w, List.lookup (Str.ofString f) ((Str.ofString n, v) :: zipF ns rs) = some w ∧ _
    unfold lookF at e
    split at e
    · rename_i h
      cases e
      subst h
      exact ⟨v, by simp [List.lookup], q⟩
    · rename_i h
      have hb : (Str.ofString f == Str.ofString n) = false := beq_eq_false_iff_ne.mpr fun z => h (ofString_inj z)
      obtain ⟨w, hw, rw'⟩ := lookF_some t e
      exact ⟨w, by simp only [List.lookup, hb]; exact hw, rw'⟩
theorem lookF_none : ∀ {ns : List String} {vs : List V} {f : String}, ns.contains f = false → (zipF ns vs).lookup (Str.ofString f) = none
  | [], vs, f, _ => rfl
  | n :: ns, [], f, _ => rfl
  | n :: ns, v :: vs, f, h => by
    simp only [List.contains_cons, Bool.or_eq_false_iff] at h
    show List.lookup (Str.ofString f) ((Str.ofString n, v) :: zipF ns vs) = none
    have hb : (Str.ofString f == Str.ofString n) = false := beq_eq_false_iff_ne.mpr fun z => (beq_eq_false_iff_ne.mp h.1) (ofString_inj z)
    simp only [List.lookup, hb]
    exact lookF_none h.2
theorem putN_reps : ∀ {ns : List String} {ds : List D} {vs : List V} {f : String} {e : D} {u : V}, Reps K mg ro H ds vs → ns.length = ds.length → Rep K mg ro H e u →
    ∃ ws, putF (Str.ofString f) u (zipF ns vs) = zipF (putN ns ds f e).1 ws ∧ Reps K mg ro H (putN ns ds f e).2 ws ∧ (putN ns ds f e).1.length = ws.length
  | [], [], vs, f, e, u, r, _, q => by
    cases (show vs = [] from r)
    exact ⟨[u], rfl, Reps.one q, rfl⟩
  | n :: ns, d :: ds, vs, f, e, u, ⟨v, rs, ev, qd, t⟩, hl, q => by
    subst ev
    show ∃ ws, (if Str.ofString n = Str.ofString f then (Str.ofString n, u) :: zipF ns rs else (Str.ofString n, v) :: putF (Str.ofString f) u (zipF ns rs)) = _ ∧ _
    have hl' : ns.length = ds.length := by simpa using hl
    unfold putN
    by_cases h : n = f
    · rw [if_pos (congrArg Str.ofString h), if_pos h]
      exact ⟨u :: rs, rfl, ⟨u, rs, rfl, q, t⟩, by simp [hl', t.len]⟩
    · rw [if_neg (fun z => h (ofString_inj z)), if_neg h]
      obtain ⟨ws, e1, e2, e3⟩ := putN_reps (f := f) t hl' q
      exact ⟨v :: ws, by rw [e1]; rfl, ⟨v, ws, rfl, qd, e2⟩, by simp [e3]⟩
theorem length_zipF {ns : List String} {vs : List V} (h : ns.length = vs.length) : (zipF ns vs).length = ns.length := by
  unfold zipF
  rw [List.length_zip, List.length_map]; omega
end
mutual
def nc (n : Nat) : D → Bool
  | .tup ds => ncs n ds
  | .lst ds => ncs n ds
  | .flst ds => ncs n ds
  | .obj _ _ ds => ncs n ds
  | .dic _ ds => ncs n ds
  | .exn _ _ ds _ _ => ncs n ds
  | .cell k => decide (k < n)
  | _ => true
def ncs (n : Nat) : List D → Bool
  | [] => true
  | d :: ds => nc n d && ncs n ds
end
def ncM (n : Nat) : MO → Bool
  | .lst ds => ncs n ds
  | .obj _ _ ds => ncs n ds
  | .dic _ ds => ncs n ds
  | .tab i _ _ => decide (i < n)
mutual
/-- new changeable places are written out as what they are in the end -/
def clo (n : Nat) (M : MS) : D → Option D
  | .tup ds => (clos n M ds).map D.tup
  | .lst ds => (clos n M ds).map D.lst
  | .flst ds => (clos n M ds).map D.flst
  | .obj C ns ds => (clos n M ds).map (D.obj C ns)
  | .dic ks ds => (clos n M ds).map (D.dic ks)
  | .exn C ns ds x d => (clos n M ds).map fun es => D.exn C ns es x d
  | .cell k => if k < n then some (.cell k) else match M[k]? with
    | some (.lst ds) => if ncs n ds = true then some (.lst ds) else none
    | some (.obj C ns ds) => if ncs n ds = true then some (.obj C ns ds) else none
    | some (.dic ks ds) => if ncs n ds = true then some (.dic ks ds) else none
    | some (.tab ..) => none
    | none => none
  | d => some d
def clos (n : Nat) (M : MS) : List D → Option (List D)
  | [] => some []
  | d :: ds => match clo n M d, clos n M ds with
    | some e, some es => some (e :: es)
    | _, _ => none
end
open Classical in
noncomputable def closeR (M : MS) (x : Res D) : Res D := match x with
  | .ok d M' => if M'.take M.length = M ∨ (M'.take M.length).all (ncM M.length) = true then (match clo M.length M' d with
    | some e => .ok e (M'.take M.length)
    | none => .stuck) else .stuck
  | .exc C ns ds M' => if M'.take M.length = M ∨ (M'.take M.length).all (ncM M.length) = true then (match clos M.length M' ds with
    | some es => .exc C ns es (M'.take M.length)
    | none => .stuck) else .stuck
  | .stuck => .stuck
section
variable {K : PySem.W.Frag} {mg : Str → Option Value} {ro ro' : Pl} {H : Hp}
mutual
theorem Rep.nc : ∀ (d : D) (v : V), Rep K mg ro H d v → nc ro.ro.length d = true
  | .non, v, q => rfl
  | .bl b, v, q => rfl
  | .int i, v, q => rfl
  | .str x, v, q => rfl
  | .tup ds, v, ⟨a, vs, e1, q, r⟩ => Reps.nc ds vs r
  | .lst ds, v, ⟨a, vs, e1, q, n, r⟩ => Reps.nc ds vs r
  | .flst ds, v, ⟨a, vs, e1, q, r⟩ => Reps.nc ds vs r
  | .obj C ns ds, v, ⟨a, c, dx, vs, e1, g, q, n, l, r⟩ => Reps.nc ds vs r
  | .dic ks ds, v, ⟨a, kl, vs, e1, g, l, q, n, r⟩ => Reps.nc ds vs r
  | .glo x, v, q => rfl
  | .ty n, v, q => rfl
  | .exn C ns ds x d, v, ⟨a, vs, e1, q, n, l, r⟩ => Reps.nc ds vs r
  | .cell n, v, ⟨a, e1, g⟩ => decide_eq_true (List.getElem?_eq_some_iff.mp g).1
theorem Reps.nc : ∀ (ds : List D) (vs : List V), Reps K mg ro H ds vs → ncs ro.ro.length ds = true
  | [], vs, q => rfl
  | d :: ds, vs, ⟨v, r, e1, q, t⟩ => by
    show (DL.nc _ d && ncs _ ds) = true
    rw [Rep.nc d v q, Reps.nc ds r t]; rfl
end
theorem Pl.sub {a : Addr} (h : ∃ t, ro'.ro = ro.ro ++ t) (hh : ro'.hid = ro.hid) (n : a ∉ ro'.all) : a ∉ ro.all := fun m => by
  obtain ⟨t, e⟩ := h
  rcases List.mem_append.mp m with m | m
  · exact n (List.mem_append_left _ (by rw [e]; exact List.mem_append_left _ m))
  · exact n (List.mem_append_right _ (by rw [hh]; exact m))
mutual
theorem Rep.shrink (h : ∃ t, ro'.ro = ro.ro ++ t) (hh : ro'.hid = ro.hid) : ∀ (d : D) (v : V), nc ro.ro.length d = true → Rep K mg ro' H d v → Rep K mg ro H d v
  | .non, v, _, q => q
  | .bl b, v, _, q => q
  | .int i, v, _, q => q
  | .str x, v, _, q => q
  | .tup ds, v, c, ⟨a, vs, e1, q, r⟩ => ⟨a, vs, e1, q.imp (fun ⟨z, n⟩ => ⟨z, Pl.sub h hh n⟩) id, Reps.shrink h hh ds vs c r⟩
  | .lst ds, v, c, ⟨a, vs, e1, q, n, r⟩ => ⟨a, vs, e1, q, Pl.sub h hh n, Reps.shrink h hh ds vs c r⟩
  | .flst ds, v, c, ⟨a, vs, e1, q, r⟩ => ⟨a, vs, e1, q.imp (fun ⟨z, n⟩ => ⟨z, Pl.sub h hh n⟩) id, Reps.shrink h hh ds vs c r⟩
  | .obj C ns ds, v, k, ⟨a, c, dx, vs, e1, g, q, n, l, r⟩ => ⟨a, c, dx, vs, e1, g, q, Pl.sub h hh n, l, Reps.shrink h hh ds vs k r⟩
  | .dic ks ds, v, c, ⟨a, kl, vs, e1, g, l, q, n, r⟩ => ⟨a, kl, vs, e1, g, l, q, Pl.sub h hh n, Reps.shrink h hh ds vs c r⟩
  | .glo x, v, _, q => q
  | .ty n, v, _, q => q
  | .exn C ns ds x d, v, c, ⟨a, vs, e1, q, n, l, r⟩ => ⟨a, vs, e1, q, Pl.sub h hh n, l, Reps.shrink h hh ds vs c r⟩
  | .cell n, v, c, ⟨a, e1, g⟩ => ⟨a, e1, by
      obtain ⟨t, e⟩ := h
      have hn : n < ro.ro.length := of_decide_eq_true c
      rw [e, List.getElem?_append_left hn] at g
      exact g⟩
theorem Reps.shrink (h : ∃ t, ro'.ro = ro.ro ++ t) (hh : ro'.hid = ro.hid) : ∀ (ds : List D) (vs : List V), ncs ro.ro.length ds = true → Reps K mg ro' H ds vs → Reps K mg ro H ds vs
  | [], vs, _, q => q
  | d :: ds, vs, c, ⟨v, r, e1, q, t⟩ => by
    have c' : (DL.nc ro.ro.length d && ncs ro.ro.length ds) = true := c
    obtain ⟨c1, c2⟩ := Bool.and_eq_true_iff.mp c'
    exact ⟨v, r, e1, Rep.shrink h hh d v c1 q, Reps.shrink h hh ds r c2 t⟩
end
theorem MRel.shrink (h : ∃ t, ro'.ro = ro.ro ++ t) (hh : ro'.hid = ro.hid) {mo : MO} {ho : HO} (c : ncM ro.ro.length mo = true) (q : MRel K mg ro' H mo ho) : MRel K mg ro H mo ho := by
  cases mo with
  | lst ds => obtain ⟨vs, e1, r⟩ := q; exact ⟨vs, e1, Reps.shrink h hh ds vs c r⟩
  | obj C ns ds => obtain ⟨d, dx, vs, e1, g, l, r⟩ := q; exact ⟨d, dx, vs, e1, g, l, Reps.shrink h hh ds vs c r⟩
  | dic ks ds => obtain ⟨kl, vs, e1, g, l, r⟩ := q; exact ⟨kl, vs, e1, g, l, Reps.shrink h hh ds vs c r⟩
  | tab i C m =>
    obtain ⟨ps, P, e1, t, g, k⟩ := q
    obtain ⟨tl, e⟩ := h
    have hi : i < ro.ro.length := of_decide_eq_true c
    have h' : ∃ t, ro'.ro = ro.ro ++ t := ⟨tl, e⟩
    rw [e, List.getElem?_append_left hi] at g
    exact ⟨ps, P, e1, ⟨t.1, fun ps cv hc => let ⟨c, e1, e2, e3⟩ := t.2 ps cv hc; ⟨c, e1, e2, Pl.sub h' hh e3⟩⟩, g, k⟩
theorem MRel.nc {mo : MO} {ho : HO} (q : MRel K mg ro H mo ho) : ncM ro.ro.length mo = true := by
  cases mo with
  | lst ds => obtain ⟨vs, e1, r⟩ := q; exact Reps.nc ds vs r
  | obj C ns ds => obtain ⟨d, dx, vs, e1, g, l, r⟩ := q; exact Reps.nc ds vs r
  | dic ks ds => obtain ⟨kl, vs, e1, g, l, r⟩ := q; exact Reps.nc ds vs r
  | tab i C m => obtain ⟨ps, P, e1, t, g, k⟩ := q; exact decide_eq_true (List.getElem?_eq_some_iff.mp g).1
variable {M' : MS}
mutual
theorem Rep.clo (h : ∃ t, ro'.ro = ro.ro ++ t) (hh : ro'.hid = ro.hid) (R : RelS K mg ro' M' H) : ∀ (d : D) (v : V) (e : D), DL.clo ro.ro.length M' d = some e → Rep K mg ro' H d v → Rep K mg ro H e v
  | .non, v, e, c, q => by cases c; exact q
  | .bl b, v, e, c, q => by cases c; exact q
  | .int i, v, e, c, q => by cases c; exact q
  | .str x, v, e, c, q => by cases c; exact q
  | .tup ds, v, e, c, ⟨a, vs, e1, q, r⟩ => by
    have c : (clos _ M' ds).map D.tup = some e := c
    obtain ⟨es, c1, rfl⟩ := Option.map_eq_some_iff.mp c
    exact ⟨a, vs, e1, q.imp (fun ⟨z, n⟩ => ⟨z, Pl.sub h hh n⟩) id, Reps.clo h hh R ds vs es c1 r⟩
  | .lst ds, v, e, c, ⟨a, vs, e1, q, n, r⟩ => by
    have c : (clos _ M' ds).map D.lst = some e := c
    obtain ⟨es, c1, rfl⟩ := Option.map_eq_some_iff.mp c
    exact ⟨a, vs, e1, q, Pl.sub h hh n, Reps.clo h hh R ds vs es c1 r⟩
  | .flst ds, v, e, c, ⟨a, vs, e1, q, r⟩ => by
    have c : (clos _ M' ds).map D.flst = some e := c
    obtain ⟨es, c1, rfl⟩ := Option.map_eq_some_iff.mp c
    exact ⟨a, vs, e1, q.imp (fun ⟨z, n⟩ => ⟨z, Pl.sub h hh n⟩) id, Reps.clo h hh R ds vs es c1 r⟩
  | .obj C ns ds, v, e, c, ⟨a, cc, dx, vs, e1, g, q, n, l, r⟩ => by
    have c : (clos _ M' ds).map (D.obj C ns) = some e := c
    obtain ⟨es, c1, rfl⟩ := Option.map_eq_some_iff.mp c
    exact ⟨a, cc, dx, vs, e1, g, q, Pl.sub h hh n, l, Reps.clo h hh R ds vs es c1 r⟩
  | .dic ks ds, v, e, c, ⟨a, kl, vs, e1, g, l, q, n, r⟩ => by
    have c : (clos _ M' ds).map (D.dic ks) = some e := c
    obtain ⟨es, c1, rfl⟩ := Option.map_eq_some_iff.mp c
    exact ⟨a, kl, vs, e1, g, l, q, Pl.sub h hh n, Reps.clo h hh R ds vs es c1 r⟩
  | .glo x, v, e, c, q => by cases c; exact q
  | .ty n, v, e, c, q => by cases c; exact q
  | .exn C ns ds x d, v, e, c, ⟨a, vs, e1, q, n, l, r⟩ => by
    have c : ((clos _ M' ds).map fun es => D.exn C ns es x d) = some e := c
    obtain ⟨es, c1, rfl⟩ := Option.map_eq_some_iff.mp c
    exact ⟨a, vs, e1, q, Pl.sub h hh n, l, Reps.clo h hh R ds vs es c1 r⟩
  | .cell k, v, e, c, q => by
    have c : (if k < ro.ro.length then some (D.cell k) else match M'[k]? with
      | some (.lst ds) => if ncs ro.ro.length ds = true then some (.lst ds) else none
      | some (.obj C ns ds) => if ncs ro.ro.length ds = true then some (.obj C ns ds) else none
      | some (.dic ks ds) => if ncs ro.ro.length ds = true then some (.dic ks ds) else none
      | some (.tab ..) => none
      | none => none) = some e := c
    by_cases hk : k < ro.ro.length
    · rw [if_pos hk] at c; cases c
      exact Rep.shrink h hh (.cell k) v (decide_eq_true hk) q
    · rw [if_neg hk] at c
      have out : ∀ a, ro'.ro[k]? = some a → a ∉ ro.all := fun a g m => by
        rcases List.mem_append.mp m with m | m
        · obtain ⟨t, e'⟩ := h
          obtain ⟨j, hj⟩ := List.getElem?_of_mem m
          have hjl := (List.getElem?_eq_some_iff.mp hj).1
          have hj' : ro'.ro[j]? = some a := by rw [e', List.getElem?_append_left hjl]; exact hj
          obtain ⟨l1, q1⟩ := List.getElem?_eq_some_iff.mp g
          obtain ⟨l2, q2⟩ := List.getElem?_eq_some_iff.mp hj'
          have : k = j := (List.getElem_inj R.nd).mp (q1.trans q2.symm)
          omega
        · exact R.dis a (List.mem_of_getElem? g) (by rw [hh]; exact m)
      cases hm : M'[k]? with
      | none => rw [hm] at c; cases c
      | some mo =>
        rw [hm] at c
        obtain ⟨a, ho, rfl, g, e2, mr⟩ := R.cellAt q hm
        cases mo with
        | lst ds =>
          dsimp only at c
          split at c
          · rename_i hc
            cases c
            obtain ⟨vs, rfl, r⟩ := mr
            exact ⟨a, vs, rfl, e2, out a g, Reps.shrink h hh ds vs hc r⟩
          · cases c
        | obj C ns ds =>
          dsimp only at c
          split at c
          · rename_i hc
            cases c
            obtain ⟨cc, dx, vs, rfl, gg, l, r⟩ := mr
            exact ⟨a, cc, dx, vs, rfl, gg, e2, out a g, l, Reps.shrink h hh ds vs hc r⟩
          · cases c
        | dic ks ds =>
          dsimp only at c
          split at c
          · rename_i hc
            cases c
            obtain ⟨kl, vs, rfl, gg, l, r⟩ := mr
            exact ⟨a, .k kl, vs, rfl, keysG_of gg, l, e2, out a g, Reps.shrink h hh ds vs hc r⟩
          · cases c
        | tab i C m => cases c
theorem Reps.clo (h : ∃ t, ro'.ro = ro.ro ++ t) (hh : ro'.hid = ro.hid) (R : RelS K mg ro' M' H) : ∀ (ds : List D) (vs : List V) (es : List D), clos ro.ro.length M' ds = some es → Reps K mg ro' H ds vs → Reps K mg ro H es vs
  | [], vs, es, c, q => by cases c; exact q
  | d :: ds, vs, es, c, ⟨v, r, e1, q, t⟩ => by
    have c : (match DL.clo ro.ro.length M' d, clos ro.ro.length M' ds with | some e, some es => some (e :: es) | _, _ => none) = some es := c
    cases h1 : DL.clo ro.ro.length M' d with
    | none => rw [h1] at c; cases c
    | some e =>
      cases h2 : clos ro.ro.length M' ds with
      | none => rw [h1, h2] at c; cases c
      | some es' =>
        rw [h1, h2] at c; cases c
        exact ⟨v, r, e1, Rep.clo h hh R d v e h1 q, Reps.clo h hh R ds r es' h2 t⟩
end
/-- back to the places that were there -/
theorem RelS.back {M M' : MS} {H' : Hp} (R : RelS K mg ro M H) (R' : RelS K mg ro' M' H') (P : Pres ro H ro' H') (hc : M'.take M.length = M ∨ (M'.take M.length).all (ncM M.length) = true) : RelS K mg ro (M'.take M.length) H' ∧ Pres ro H ro H' := by
  obtain ⟨t, e⟩ := P.pre
  have hl : M.length ≤ M'.length := by rw [← R.len, ← R'.len, e, List.length_append]; omega
  have hmo : ∀ i mo, (M'.take M.length)[i]? = some mo → i < M.length ∧ M'[i]? = some mo := fun i mo h => by
    have hi := (List.getElem?_eq_some_iff.mp h).1
    rw [List.length_take] at hi
    rw [List.getElem?_take_of_lt (by omega)] at h
    exact ⟨by omega, h⟩
  refine ⟨⟨by rw [List.length_take, R.len]; omega, R.nd, fun a ha => R'.live a (by rw [P.hid]; exact ha), R.dis, fun i mo a e1 e2 => ?_⟩, ⟨⟨[], by simp⟩, rfl, P.keep, fun _ h => .inl h⟩⟩
  obtain ⟨hi, e1'⟩ := hmo i mo e1
  have e2' : ro'.ro[i]? = some a := P.get e2
  obtain ⟨ho, e3, m⟩ := R'.at_ i mo a e1' e2'
  refine ⟨ho, e3, m.shrink P.pre P.hid ?_⟩
  rcases hc with hc | hc
  · rw [hc] at e1
    obtain ⟨ho', e4, m'⟩ := R.at_ i mo a e1 e2
    exact m'.nc
  · rw [R.len]
    exact List.all_eq_true.mp hc mo (List.mem_of_getElem? e1)
theorem Post.close {E : XK} {Q : VK} {M : MS} {x : Res D} (R : RelS K mg ro M H) (h : PostD K mg E ro H Q (closeR M x)) : PostD K mg E ro H Q x := by
  cases x with
  | stuck => exact h
  | ok d M' =>
    intro ro' H' v R' P r
    unfold closeR at h
    dsimp only at h
    split at h
    · rename_i hc
      obtain ⟨Rb, Pb⟩ := R.back R' P hc
      split at h
      · rename_i e he
        exact h ro H' v Rb Pb (Rep.clo P.pre P.hid R' d v e (by rw [R.len]; exact he) r)
      · exact h.elim
    · exact h.elim
  | exc C ns ds M' =>
    rintro ro' H' cls dd R' P ⟨c, rfl, hm, r⟩
    unfold closeR at h
    dsimp only at h
    split at h
    · rename_i hc
      obtain ⟨Rb, Pb⟩ := R.back R' P hc
      split at h
      · rename_i es he
        refine h ro H' _ dd Rb Pb ⟨c, rfl, hm, ?_⟩
        rcases r with ⟨r1, r2, r3⟩ | ⟨d, vs, r1, r2, r3, r4, r5⟩
        · subst r3
          cases he
          exact .inl ⟨r1, r2, rfl⟩
        · exact .inr ⟨d, vs, r1, r2, Pl.sub P.pre P.hid r3, r4, Reps.clo P.pre P.hid R' ds vs es (by rw [R.len]; exact he) r5⟩
      · exact h.elim
    · exact h.elim
end
def callE (n : Nat) (F : FM) (g : List D → List D) (a : MA) : ME := fun sd M => (a sd M).bind fun ds M1 => if (g ds).length = n then F (g ds) M1 else .stuck
section
variable {X : Cx} {W : WX}
theorem run_DA {A : Around} {k : Nat} {f : Addr} {fd : FuncData} {ps : List Str} {F : FM} {pins : List (Addr × Obj)} {st : St} {H : Hp} {s : Shared} {Q : VK} {args : Args} {us : List Value} {vs : List V} {ro : Pl} {ds : List D} {M : MS}
    (hF : DOk X.prog X.w X.K X.mg X.base k f fd ps F) (hA : A.frames = X.A.frames) (hr : Room k A) (tk : Takes X W) (hb : BindsTo s fd args (ps.zip us)) (I : Inv X pins st H s) (r : Vals vs us) (R : RelS X.K X.mg ro M H) (rs : Reps X.K X.mg ro H ds vs) (hl : ds.length = ps.length)
    (P : PostD X.K X.mg (fun c d H' => W c d st H') ro H Q (F ds M)) : wpAny (model X.prog X.w) A (call (.ref f) args.pos args.kw) (EP X pins st Q) X.xe s := by
  have e0 : Env0 X.prog X.w X.K X.mg X.base A X.stack s H := by
    have e := I.env0
    exact ⟨by rw [hA]; exact e.frames, e.mod, e.bs, e.bsz, e.funs, e.frf, e.hok, e.bare⟩
  refine wpAny_call (codeAny_mono (hF.run A X.stack s H args us vs Q (WE W st) hr e0 hb r ⟨by rw [← rs.len]; exact hl, ro, ds, M, R, rs, P⟩) fun r s' hq => ?_)
  cases r with
  | error e => exact passAt tk st pins H s e s' I hq
  | ok fl =>
    cases fl with
    | ret u => exact I.after hq
    | next => exact False.elim hq
    | brk => exact False.elim hq
    | cont => exact False.elim hq
theorem run_D {k : Nat} {f : Addr} {fd : FuncData} {ps : List Str} {F : FM} {pins : List (Addr × Obj)} {st : St} {H : Hp} {s : Shared} {Q : VK} {args : Args} {us : List Value} {vs : List V} {ro : Pl} {ds : List D} {M : MS}
    (hF : DOk X.prog X.w X.K X.mg X.base k f fd ps F) (hr : Room k X.A) (tk : Takes X W) (hb : BindsTo s fd args (ps.zip us)) (I : Inv X pins st H s) (r : Vals vs us) (R : RelS X.K X.mg ro M H) (rs : Reps X.K X.mg ro H ds vs) (hl : ds.length = ps.length)
    (P : PostD X.K X.mg (fun c d H' => W c d st H') ro H Q (F ds M)) : wpAny (model X.prog X.w) X.A (call (.ref f) args.pos args.kw) (EP X pins st Q) X.xe s := run_DA hF rfl hr tk hb I r R rs hl P
variable {k : Nat} {f : Addr} {fd : FuncData} {ps : List Str} {F : FM} {x m : Str} {p pos apos : Pos} {e o : Expr} {es : List Expr} {kws : List Keyword} {ma : MA} {mo : ME} {dfl : List D} {dvs : List V} {dV : List Value}
/-- the defaults that fill up -/
structure Dfl (X : Cx) (fd : FuncData) (ps : List Str) (n : Nat) (dfl : List D) : Prop where
  ex : ∃ (dvs : List V) (dV : List Value), Binds X.K fd ps dV ∧ Vals dvs dV ∧ ∀ ro H, Reps X.K X.mg ro H dfl dvs
theorem Dfl.none {fd : FuncData} {ps : List Str} {n : Nat} (h : Binds X.K fd ps []) : Dfl X fd ps n [] := ⟨[], [], h, .nil, fun _ _ => rfl⟩
theorem de_call (hF : DOk X.prog X.w X.K X.mg X.base k f fd ps F) (hr : Room k X.A) (tk : Takes X W) (hg : Gl X x) (hm : X.mg x = some (.ref f)) (hk : PySem.W.keepIn X.K (.ref f) = true) (hd : Dfl X fd ps 0 dfl) (ha : DA X W (e :: es) ma)
    (hdb : (x == ("__debug__" : Str)) = false := by decide) (he : starEach (e :: es) X.env = (false, eval e X.env) :: starEach es X.env := by rfl) (hpl : (backTo pos (starEach es X.env)).any (·.1) = false := by rfl) :
    DE X W (.Call (.Name x p) (e :: es) [] pos) (callE ps.length F (· ++ dfl) ma) := by
  obtain ⟨dvs, dV, hb, hv, hdf⟩ := hd.ex
  refine ⟨⟨fun pins s st H Q I q => ?_⟩⟩
  obtain ⟨ro, sd, M, R, S, P⟩ := q
  refine wpAny_Call_Name_kw (ld_glob I hg hm ?_ hdb)
  refine PySem.W.callWith_K (h₀ := X.base) I.ok.mod.kin hk (thn (ha.pa.run pos pins s st H _ I ⟨ro, sd, M, R, S, Post.bind P⟩) fun us s1 ⟨vs, H1, I1, r, ro1, M1, ds, R1, P1, r1, q1⟩ => ⟨I1.kIn, ?_⟩) he hpl
  dsimp only at q1
  split at q1
  · rename_i hl
    have r2 := r.append hv
    have rs := r1.append (hdf ro1 H1)
    exact run_D (args := ⟨us, []⟩) hF hr tk (hb s1 us I1.kIn (by rw [← r2.length, ← rs.len]; exact hl)) I1 r2 R1 rs hl q1
  · exact q1.elim
theorem de_call0 (hF : DOk X.prog X.w X.K X.mg X.base k f fd ps F) (hr : Room k X.A) (tk : Takes X W) (hg : Gl X x) (hm : X.mg x = some (.ref f)) (hk : PySem.W.keepIn X.K (.ref f) = true) (hd : Dfl X fd ps 0 dfl)
    (hdb : (x == ("__debug__" : Str)) = false := by decide) : DE X W (.Call (.Name x p) [] [] pos) (callE ps.length F (· ++ dfl) nilA) := by
  obtain ⟨dvs, dV, hb, hv, hdf⟩ := hd.ex
  refine ⟨⟨fun pins s st H Q I q => ?_⟩⟩
  obtain ⟨ro, sd, M, R, S, P⟩ := q
  refine wpAny_Call_Name_kw (ld_glob I hg hm ?_ hdb)
  refine PySem.W.callWith_K0 I.kIn hk ?_
  have P : PostD X.K X.mg _ ro H Q (if ([] ++ dfl).length = ps.length then F ([] ++ dfl) M else .stuck) := P
  split at P
  · rename_i hl
    have r2 := (Vals.append (xs := []) .nil hv)
    have rs := hdf ro H
    exact run_D (us := dV) (args := ⟨[], []⟩) hF hr tk (by have := hb s [] I.kIn (by rw [← r2.length, List.nil_append, ← rs.len]; exact hl); simpa using this) I hv R rs hl P
  · exact P.elim
/-- keywords -/
structure DK (X : Cx) (W : WX) (kws : List Keyword) (m : MA) : Prop where
  pk : PK X kws (liftA X.K X.mg W m)
theorem dk_nil : DK X W [] nilA := by
  refine ⟨⟨fun pos pins s st H Q I q => pk_nil.run pos pins s st H Q I ?_⟩⟩
  obtain ⟨ro, sd, M, R, S, P⟩ := q
  exact P ro H [] R (Pres.refl _ _) rfl
theorem dk_cons {nm : Option Str} {kpos : Pos} {me : ME} {ms : MA} (ha : DE X W e me) (hr : DK X W kws ms) : DK X W (⟨nm, e, kpos⟩ :: kws) (consA me ms) := by
  refine ⟨⟨fun pos pins s st H Q I q => (pk_cons ha.pe hr.pk).run pos pins s st H Q I ?_⟩⟩
  obtain ⟨ro, sd, M, R, S, P⟩ := q
  refine ⟨ro, sd, M, R, S, (Post.bind P).imp fun x H1 ⟨ro1, M1, d, R1, P1, r1, q1⟩ => ?_⟩
  refine ⟨ro1, sd, M1, R1, S.mono P1, (Post.bind q1).imp fun xs H2 ⟨ro2, M2, ds, R2, P2, r2, q2⟩ => ?_⟩
  exact q2 ro2 H2 _ R2 (Pres.refl _ _) ⟨x, xs, rfl, Rep.mono P2 d x r1, r2⟩
/-- how positional values and keywords are put in the parameters' order -/
structure KwB (X : Cx) (fd : FuncData) (ps : List Str) (n : Nat) (ks : List Str) (gD : List D → List D → List D) : Prop where
  ex : ∃ (g : List Value → List Value → List Value) (gV : List V → List V → List V), KBn X.K fd ps n ks g gV ∧ ∀ ro H ds vs es zs, Reps X.K X.mg ro H ds vs → Reps X.K X.mg ro H es zs → Reps X.K X.mg ro H (gD ds es) (gV vs zs)
def callKE (n np nk : Nat) (F : FM) (gD : List D → List D → List D) (a b : MA) : ME := fun sd M => (a sd M).bind fun ds M1 => (b sd M1).bind fun es M2 => if ds.length = np ∧ es.length = nk ∧ (gD ds es).length = n then F (gD ds es) M2 else .stuck
theorem de_callK {np : Nat} {ks : List Str} {gD : List D → List D → List D} {mk : MA} (hF : DOk X.prog X.w X.K X.mg X.base k f fd ps F) (hr : Room k X.A) (tk : Takes X W) (hg : Gl X x) (hm : X.mg x = some (.ref f)) (hk : PySem.W.keepIn X.K (.ref f) = true)
    (hb : KwB X fd ps np ks gD) (ha : DA X W (e :: es) ma) (hkw : DK X W kws mk) (hall : (backToKw pos (keywordEach kws X.env)).all (·.1.isSome) = true := by rfl) (hks : (backToKw pos (keywordEach kws X.env)).filterMap (·.1) = ks := by rfl)
    (hdb : (x == ("__debug__" : Str)) = false := by decide) (he : starEach (e :: es) X.env = (false, eval e X.env) :: starEach es X.env := by rfl)
    (hpl : ((backTo pos (starEach (e :: es) X.env)).any (·.1) || (backToKw pos (keywordEach kws X.env)).any (·.1.isNone)) = false := by rfl) :
    DE X W (.Call (.Name x p) (e :: es) kws pos) (callKE ps.length np ks.length F gD ma mk) := by
  obtain ⟨g, gV, hb, hgD⟩ := hb.ex
  refine ⟨⟨fun pins s st H Q I q => ?_⟩⟩
  obtain ⟨ro, sd, M, R, S, P⟩ := q
  refine wpAny_Call_Name_kw (ld_glob I hg hm ?_ hdb)
  refine PySem.W.callWith_KW (h₀ := X.base) I.ok.mod.kin hk hall (thn (ha.pa.run pos pins s st H _ I ⟨ro, sd, M, R, S, Post.bind P⟩) fun us s1 ⟨vs, H1, I1, r, ro1, M1, ds, R1, P1, r1, q1⟩ => ?_) hpl he
  refine thn (hkw.pk.run pos pins s1 st H1 _ I1 ⟨ro1, sd, M1, R1, S.mono P1, Post.bind q1⟩) fun ws s2 ⟨zs, H2, I2, rz, ro2, M2, es', R2, P2, r2, q2⟩ => ⟨I2.kIn, ?_⟩
  split at q2
  · rename_i hl
    obtain ⟨l1, l2, l3⟩ := hl
    have rs := hgD ro2 H2 ds vs es' zs (Reps.mono P2 _ _ r1) r2
    rw [hks]
    exact run_D (args := ⟨us, ks.zip ws⟩) hF hr tk (hb.to s2 us ws I2.kIn (by rw [← r.length, ← r1.len]; exact l1) (by rw [← rz.length, ← r2.len]; exact l2)) I2 (hb.rel r rz) R2 rs l3 q2
  · exact q2.elim
/-- a class of the text -/
structure CInfo (K : PySem.W.Frag) (mg : Str → Option Value) (C : String) (c : Addr) (fs : List String) : Prop where
  mgC : mg (Str.ofString C) = some (.ref c)
  cl : Cls K c
  na : ∀ f, f ∈ fs → NoAttr K c (Str.ofString f)
def fldD (cs : List String) (f : String) (d : D) (M : MS) : Res D := match d with
  | .obj C ns ds => if C ∈ cs then (match lookF ns ds f with
    | some e => .ok e M
    | none => .stuck) else .stuck
  | .cell n => (match M[n]? with
    | some (.obj C ns ds) => if C ∈ cs then (match lookF ns ds f with
      | some e => .ok e M
      | none => .stuck) else .stuck
    | _ => .stuck)
  | _ => .stuck
theorem de_fld {cs : List String} {f : String} (hcs : ∀ C, C ∈ cs → ∃ c fs, CInfo X.K X.mg C c fs ∧ f ∈ fs) (he : DE X W o mo) (hb : attributeBase o (Str.ofString f) X.env (eval o X.env) = eval o X.env := by rfl) : DE X W (.Attribute o (Str.ofString f) pos) (unE (fldD cs f) mo) := by
  refine ⟨⟨fun pins s st H Q I q => (pe_fld he.pe hb).run pins s st H Q I ?_⟩⟩
  obtain ⟨ro, sd, M, R, S, P⟩ := q
  refine ⟨ro, sd, M, R, S, (Post.bind P).imp fun x H1 ⟨ro1, M1, d, R1, P1, r1, q1⟩ => ?_⟩
  have fin : ∀ (C : String) (ns : List String) (ds : List D) (a c dx : Addr) (vs : List V), X.mg (Str.ofString C) = some (.ref c) → H1 a = some (.ins c dx (zipF ns vs)) → Reps X.K X.mg ro1 H1 ds vs →
      PostD X.K X.mg (fun c d H' => W c d st H') ro1 H1 Q (if C ∈ cs then (match lookF ns ds f with | some e => .ok e M1 | none => .stuck) else .stuck) →
      ∃ C dx fs v, H1 a = some (.ins C dx fs) ∧ Cls X.K C ∧ NoAttr X.K C (Str.ofString f) ∧ fs.lookup (Str.ofString f) = some v ∧ Q v H1 := fun C ns ds a c dx vs hmg hH rs q1 => by
    split at q1
    · rename_i hC
      obtain ⟨c', fs, ci, hf⟩ := hcs C hC
      have e := ci.mgC
      rw [hmg] at e; cases e
      split at q1
      · rename_i e he
        obtain ⟨v, hv, rv⟩ := lookF_some rs he
        exact ⟨c, dx, _, v, hH, ci.cl, ci.na f hf, hv, PostD.pure R1 rv q1⟩
      · exact q1.elim
    · exact q1.elim
  cases d with
  | obj C ns ds =>
    obtain ⟨a, c, dx, vs, rfl, hmg, hH, _, _, rs⟩ := r1
    obtain ⟨C', dx', fs, v, z⟩ := fin C ns ds a c dx vs hmg hH rs q1
    exact ⟨a, C', dx', fs, v, rfl, z⟩
  | cell n =>
    have q1 : PostD X.K X.mg (fun c d H' => W c d st H') ro1 H1 Q (match M1[n]? with | some (.obj C ns ds) => if C ∈ cs then (match lookF ns ds f with | some e => .ok e M1 | none => .stuck) else .stuck | _ => .stuck) := q1
    cases hm : M1[n]? with
    | none => rw [hm] at q1; exact q1.elim
    | some mo =>
      rw [hm] at q1
      cases mo with
      | obj C ns ds =>
        obtain ⟨a, ho, rfl, _, hH, c, dx, vs, rfl, hmg, _, rs⟩ := R1.cellAt r1 hm
        obtain ⟨C', dx', fs, v, z⟩ := fin C ns ds a c dx vs hmg hH rs q1
        exact ⟨a, C', dx', fs, v, rfl, z⟩
      | _ => exact q1.elim
  | _ => exact q1.elim
/-- o.f = e, o a changeable instance -/
def setFldD (cs : List String) (f : String) (M : MS) (o v : D) : Option MS := match o with
  | .cell n => (match M[n]? with
    | some (.obj C ns ds) => if C ∈ cs ∧ ns.length < 900 ∧ ns.length = ds.length then some (M.set n (.obj C (putN ns ds f v).1 (putN ns ds f v).2)) else none
    | _ => none)
  | _ => none
def setFldS (cs : List String) (f : String) (mo m : ME) : MST := fun sd M => SRes.ofE (m sd M) sd fun v M1 => SRes.ofE (mo sd M1) sd fun o M2 => match setFldD cs f M2 o v with
  | some M3 => .nx sd M3
  | none => .stuck
theorem ds_fld {cs : List String} {f : String} {pos' : Pos} {me : ME} (hcs : ∀ C, C ∈ cs → ∃ c fs, CInfo X.K X.mg C c fs ∧ f ∈ fs) (ho : DE X W o mo) (he : DE X W e me) (hs : swapsWith e (some (.Attribute o (Str.ofString f) pos')) pos.line X.env = pure false := by rfl) :
    DS X W (.Assign [.Attribute o (Str.ofString f) pos'] e pos) (setFldS cs f mo me) := by
  refine ⟨⟨fun pins s st H D0 I q => (ps_fld ho.pe he.pe hs).run pins s st H D0 I ?_⟩⟩
  obtain ⟨ro, sd, M, R, S, P⟩ := q
  refine ⟨ro, sd, M, R, S, (PostS.ofE P S).imp fun x H1 ⟨ro1, M1, d, R1, P1, r1, q1⟩ => ?_⟩
  refine ⟨ro1, sd, M1, R1, S.mono P1, (PostS.ofE q1 (S.mono P1)).imp fun y H2 ⟨ro2, M2, o', R2, P2, r2, q2⟩ => ?_⟩
  have r1' := Rep.mono P2 _ _ r1
  cases o' with
  | cell n =>
    have q2 : PostS X.K X.mg W ro2 H2 D0 (match (match M2[n]? with | some (.obj C ns ds) => if C ∈ cs ∧ ns.length < 900 ∧ ns.length = ds.length then some (M2.set n (.obj C (putN ns ds f d).1 (putN ns ds f d).2)) else none | _ => none) with | some M3 => .nx sd M3 | none => .stuck) := q2
    cases hm : M2[n]? with
    | none => rw [hm] at q2; exact q2.elim
    | some mo =>
      rw [hm] at q2
      cases mo with
      | obj C ns ds =>
        dsimp only at q2
        by_cases hc : C ∈ cs ∧ ns.length < 900 ∧ ns.length = ds.length
        · rw [if_pos hc] at q2
          obtain ⟨a, ho, rfl, g, hH, c, dx, vs, rfl, hmg, hl, rs⟩ := R2.cellAt r2 hm
          obtain ⟨c', fs, ci, hf⟩ := hcs C hc.1
          have e := ci.mgC
          rw [hmg] at e; cases e
          obtain ⟨ws, w1, w2, w3⟩ := putN_reps (f := f) rs hc.2.2 r1'
          obtain ⟨R3, P3⟩ := R2.change (mo := .obj C (putN ns ds f d).1 (putN ns ds f d).2) (o := .ins c dx (zipF (putN ns ds f d).1 ws)) g ⟨c, dx, ws, rfl, hmg, w3, w2⟩
          refine ⟨a, c, dx, _, rfl, hH, ci.cl, ci.na f hf, by rw [length_zipF hl]; omega, ?_⟩
          rw [w1]
          exact q2 ro2 _ _ R3 P3 (((S.mono P1).mono P2).mono P3)
        · rw [if_neg hc] at q2; exact q2.elim
      | _ => exact q2.elim
  | _ => exact q2.elim
/-- o.m(..) -/
def insOf (M : MS) (C m : String) : D → Bool
  | .obj C' ns _ => decide (C' = C) && !ns.contains m
  | .cell n => match M[n]? with
    | some (.obj C' ns _) => decide (C' = C) && !ns.contains m
    | _ => false
  | _ => false
def methE (C m : String) (n : Nat) (F : FM) (g : List D → List D) (o : ME) (a : MA) : ME := fun sd M => (o sd M).bind fun d M1 => if insOf M1 C m d = true then (a sd M1).bind fun ds M2 => if (g (d :: ds)).length = n then F (g (d :: ds)) M2 else .stuck else .stuck
theorem ins_of {ro : Pl} {H : Hp} {M : MS} {C m : String} {c : Addr} {fs : List String} (ci : CInfo X.K X.mg C c fs) (R : RelS X.K X.mg ro M H) {d : D} {v : V} (r : Rep X.K X.mg ro H d v) (h : insOf M C m d = true) : ∃ a dx gs, v = .ref a ∧ H a = some (.ins c dx gs) ∧ gs.lookup (Str.ofString m) = none := by
  cases d with
  | obj C' ns ds =>
    have h : (decide (C' = C) && !ns.contains m) = true := h
    simp only [Bool.and_eq_true, decide_eq_true_eq, Bool.not_eq_true'] at h
    obtain ⟨rfl, hn⟩ := h
    obtain ⟨a, c', dx, vs, rfl, hmg, hH, _, _, rs⟩ := r
    have e := ci.mgC
    rw [hmg] at e; cases e
    exact ⟨a, dx, _, rfl, hH, lookF_none hn⟩
  | cell n =>
    have h : (match M[n]? with | some (.obj C' ns _) => decide (C' = C) && !ns.contains m | _ => false) = true := h
    cases hm : M[n]? with
    | none => rw [hm] at h; cases h
    | some mo =>
      rw [hm] at h
      cases mo with
      | obj C' ns ds =>
        simp only [Bool.and_eq_true, decide_eq_true_eq, Bool.not_eq_true'] at h
        obtain ⟨rfl, hn⟩ := h
        obtain ⟨a, ho, rfl, _, hH, c', dx, vs, rfl, hmg, _, rs⟩ := R.cellAt r hm
        have e := ci.mgC
        rw [hmg] at e; cases e
        exact ⟨a, dx, _, rfl, hH, lookF_none hn⟩
      | _ => cases h
  | _ => cases h
theorem de_meth {C m : String} {c : Addr} {fs : List String} {pl : Sem Bool} (ci : CInfo X.K X.mg C c fs) (hmt : Meth X.K c (Str.ofString m) f) (hF : DOk X.prog X.w X.K X.mg X.base k f fd ps F) (hr : Room k X.A) (tk : Takes X W) (hd : Dfl X fd ps 0 dfl) (ho : DE X W o mo) (ha : DA X W (e :: es) ma)
    (hst : starEach (e :: es) X.env = (false, eval e X.env) :: starEach es X.env := by rfl) (hpl : (backTo pos (starEach es X.env)).any (·.1) = false := by rfl)
    (ht : eval (.Call (.Attribute o (Str.ofString m) apos) (e :: es) [] pos) X.env = (do
      let ov ← eval o X.env
      standAt apos.atName
      let (f, first) ← holding [ov] (getMethod ov (Str.ofString m) pl)
      callWith pos f first (backTo pos (starEach (e :: es) X.env)) (backToKw pos (keywordEach [] X.env))) := by rfl) :
    DE X W (.Call (.Attribute o (Str.ofString m) apos) (e :: es) [] pos) (methE C m ps.length F (· ++ dfl) mo ma) := by
  obtain ⟨dvs, dV, hb, hv, hdf⟩ := hd.ex
  refine ⟨⟨fun pins s st H Q I q => ?_⟩⟩
  obtain ⟨ro, sd, M, R, S, P⟩ := q
  refine PySem.W.methodCall_KW (pl := pl) (thn (ho.pe.run pins s st H _ I ⟨ro, sd, M, R, S, Post.bind P⟩) fun u s1 ⟨x, H1, I1, rx, ro1, M1, d, R1, P1, r1, q1⟩ => ?_) ht
  dsimp only at q1
  split at q1
  · rename_i hi
    obtain ⟨a, dx, gs, rfl, hH, hl⟩ := ins_of ci R1 r1 hi
    obtain rfl : u = Value.ref a := rx
    refine getmeth_ok I1 hH ci.cl hmt hl ?_
    refine PySem.W.callWith_K (first := [.ref a]) (h₀ := X.base) I.ok.mod.kin hmt.kp (thn (ha.pa.run pos pins s1 st H1 _ I1 ⟨ro1, sd, M1, R1, S.mono P1, Post.bind q1⟩) fun us s2 ⟨vs, H2, I2, r, ro2, M2, ds, R2, P2, r2, q2⟩ => ⟨I2.kIn, ?_⟩) hst hpl
    split at q2
    · rename_i hl'
      have r3 : Vals (V.ref a :: (vs ++ dvs)) (Value.ref a :: (us ++ dV)) := .cons rfl (r.append hv)
      have rs : Reps X.K X.mg ro2 H2 (d :: (ds ++ dfl)) (V.ref a :: (vs ++ dvs)) := ⟨_, _, rfl, Rep.mono P2 _ _ r1, r2.append (hdf ro2 H2)⟩
      refine run_D (args := ⟨.ref a :: us, []⟩) (us := .ref a :: (us ++ dV)) hF hr tk (hb s2 (.ref a :: us) I2.kIn ?_) I2 r3 R2 rs hl' q2
      rw [List.cons_append, ← r3.length, ← rs.len]; exact hl'
    · exact q2.elim
  · exact q1.elim
theorem de_meth0 {C m : String} {c : Addr} {fs : List String} {pl : Sem Bool} (ci : CInfo X.K X.mg C c fs) (hmt : Meth X.K c (Str.ofString m) f) (hF : DOk X.prog X.w X.K X.mg X.base k f fd ps F) (hr : Room k X.A) (tk : Takes X W) (hd : Dfl X fd ps 0 dfl) (ho : DE X W o mo)
    (ht : eval (.Call (.Attribute o (Str.ofString m) apos) [] [] pos) X.env = (do
      let ov ← eval o X.env
      standAt apos.atName
      let (f, first) ← holding [ov] (getMethod ov (Str.ofString m) pl)
      callWith pos f first (backTo pos (starEach [] X.env)) (backToKw pos (keywordEach [] X.env))) := by rfl) :
    DE X W (.Call (.Attribute o (Str.ofString m) apos) [] [] pos) (methE C m ps.length F (· ++ dfl) mo nilA) := by
  obtain ⟨dvs, dV, hb, hv, hdf⟩ := hd.ex
  refine ⟨⟨fun pins s st H Q I q => ?_⟩⟩
  obtain ⟨ro, sd, M, R, S, P⟩ := q
  refine PySem.W.methodCall_KW (pl := pl) (thn (ho.pe.run pins s st H _ I ⟨ro, sd, M, R, S, Post.bind P⟩) fun u s1 ⟨x, H1, I1, rx, ro1, M1, d, R1, P1, r1, q1⟩ => ?_) ht
  dsimp only at q1
  split at q1
  · rename_i hi
    obtain ⟨a, dx, gs, rfl, hH, hl⟩ := ins_of ci R1 r1 hi
    obtain rfl : u = Value.ref a := rx
    refine getmeth_ok I1 hH ci.cl hmt hl ?_
    refine PySem.W.callWith_K0 (first := [.ref a]) I1.kIn hmt.kp ?_
    have q1 : PostD X.K X.mg _ ro1 H1 Q (if (d :: ([] ++ dfl)).length = ps.length then F (d :: ([] ++ dfl)) M1 else .stuck) := q1
    split at q1
    · rename_i hl'
      have r3 : Vals (V.ref a :: dvs) (Value.ref a :: dV) := .cons rfl hv
      have rs : Reps X.K X.mg ro1 H1 (d :: dfl) (V.ref a :: dvs) := ⟨_, _, rfl, r1, hdf ro1 H1⟩
      refine run_D (args := ⟨[.ref a], []⟩) (us := .ref a :: dV) hF hr tk (hb s1 [.ref a] I1.kIn ?_) I1 r3 R1 rs hl' q1
      show (Value.ref a :: dV).length = _
      rw [← r3.length, ← rs.len]; exact hl'
    · exact q1.elim
  · exact q1.elim
/-- C(..): a new instance; it will be changed, or it is kept as it is behind its __init__ -/
def mkD (C : String) (F : FM) : FM := fun ds M => (F (.cell M.length :: ds) (M ++ [.obj C [] []])).bind fun r M' => match r with
  | .non => .ok (.cell M.length) M'
  | _ => .stuck
noncomputable def mkT (C : String) (F : FM) : FM := fun ds M => closeR M (mkD C F ds M)
theorem run_mk {C : String} {c : Addr} {fs : List String} {pins : List (Addr × Obj)} {st : St} {H : Hp} {s : Shared} {Q : VK} {us wus : List Value} {kw : List (Str × Value)} {vs : List V} {ro : Pl} {ds : List D} {M : MS} (ci : CInfo X.K X.mg C c fs) (Mk' : Mk X.K c f)
    (hF : DOk X.prog X.w X.K X.mg X.base k f fd ps F) (hr : Room (k + 1) X.A) (tk : Takes X W) (hb : ∀ self, BindsTo { s with heap := (s.heap.push PySem.W.emptyDict).push (PySem.W.instObj c s.heap.objs.size) } fd ⟨self :: us, kw⟩ (ps.zip (self :: wus))) (I : Inv X pins st H s) (r : Vals vs wus) (R : RelS X.K X.mg ro M H)
    (rs : Reps X.K X.mg ro H ds vs) (hl : (ds.length + 1) = ps.length) (hkw : kw = []) (P : PostD X.K X.mg (fun c d H' => W c d st H') ro H Q (mkD C F ds M)) : wpAny (model X.prog X.w) X.A (call (.ref c) us kw) (EP X pins st Q) X.xe s := by
  subst hkw
  have n1 : H (s.heap.objs.size + 1) = none := I.hok.fresh (Nat.le_succ _)
  have n2 : H s.heap.objs.size = none := I.hok.fresh (Nat.le_refl _)
  have ne : s.heap.objs.size ≠ s.heap.objs.size + 1 := Nat.ne_of_lt (Nat.lt_succ_self _)
  have I2 := Inv.made (C := c) I
  obtain ⟨Ra, Pa⟩ := R.alloc (o := .own (s.heap.objs.size + 1)) n2
  have n3 : upd H s.heap.objs.size (.own (s.heap.objs.size + 1)) (s.heap.objs.size + 1) = none := by rw [upd_ne ne.symm]; exact n1
  obtain ⟨Rb, Pb⟩ := Ra.allocM (mo := .obj C [] []) (o := .ins c s.heap.objs.size []) n3 ⟨c, _, [], rfl, ci.mgC, rfl, rfl⟩
  have r2 : Vals (V.ref (s.heap.objs.size + 1) :: vs) (Value.ref (s.heap.objs.size + 1) :: wus) := .cons rfl r
  have rs2 : Reps X.K X.mg (ro.add (s.heap.objs.size + 1)) _ (D.cell M.length :: ds) (V.ref (s.heap.objs.size + 1) :: vs) :=
    ⟨_, _, rfl, ⟨_, rfl, by show (ro.ro ++ [_])[M.length]? = _; rw [← R.len, List.getElem?_append_right (Nat.le_refl _)]; simp⟩, Reps.mono Pb _ _ (Reps.mono Pa _ _ rs)⟩
  have P2 := Post.moves (Post.moves P Pa) Pb
  refine wpAny_call (make_map (f := f) I.kIn Mk'.makes Mk'.init (beq_iff_eq.mp Mk'.fn) (codeAny_mono (hF.run _ X.stack _ _ ⟨Value.ref (s.heap.objs.size + 1) :: us, []⟩ (Value.ref (s.heap.objs.size + 1) :: wus) _
    (fun v H2 => v = .non ∧ Q (.ref (s.heap.objs.size + 1)) H2) (WE W st) (hr.make c us []) (I2.env0.make c us []) (hb _) r2 ⟨by rw [← rs2.len, List.length_cons]; exact hl, _, _, _, Rb, rs2, ?_⟩) fun r s' hq' => ?_))
  · unfold mkD at P2
    cases e : F (.cell M.length :: ds) (M ++ [.obj C [] []]) with
    | stuck => rw [e] at P2; exact P2
    | exc C' ns es M' => rw [e] at P2; exact P2
    | ok d M' =>
      rw [e, Res.bind_ok] at P2
      cases d with
      | non =>
        intro ro' H' v R' P' rv
        cases (show v = V.non from rv)
        refine ⟨rfl, P2 ro' H' _ R' P' ⟨_, rfl, P'.get ?_⟩⟩
        show (ro.ro ++ [_])[M.length]? = _
        rw [← R.len, List.getElem?_append_right (Nat.le_refl _)]; simp
      | _ => exact P2.elim
  · cases r with
    | error e => exact passAt tk st pins _ _ e s' I2 hq'
    | ok fl =>
      cases fl with
      | ret u =>
        obtain ⟨v, H', I3, rv, ev, q3⟩ := I2.after hq'
        subst ev
        exact ⟨rv, ⟨V.ref (s.heap.objs.size + 1), H', I3, rfl, q3⟩⟩
      | next => exact False.elim hq'
      | brk => exact False.elim hq'
      | cont => exact False.elim hq'
/-- the two ways of taking it -/
def MkAs (X : Cx) (C : String) (F G : FM) : Prop := ∀ (ro : Pl) (H : Hp) (E : XK) (Q : VK) (ds : List D) (M : MS), RelS X.K X.mg ro M H → PostD X.K X.mg E ro H Q (G ds M) → PostD X.K X.mg E ro H Q (mkD C F ds M)
theorem mkAs_T {C : String} {F : FM} : MkAs X C F (mkT C F) := fun _ _ _ _ _ _ R h => Post.close R h
theorem de_mk {C : String} {c : Addr} {fs : List String} {G : FM} (hG : MkAs X C F G) (ci : CInfo X.K X.mg C c fs) (Mk' : Mk X.K c f) (hF : DOk X.prog X.w X.K X.mg X.base k f fd ps F) (hr : Room (k + 1) X.A) (tk : Takes X W) (hg : Gl X (Str.ofString C)) (hd : Dfl X fd ps 0 dfl) (ha : DA X W (e :: es) ma)
    (hps : 0 < ps.length := by decide) (hdb : (Str.ofString C == ("__debug__" : Str)) = false := by decide) (he : starEach (e :: es) X.env = (false, eval e X.env) :: starEach es X.env := by rfl) (hpl : (backTo pos (starEach es X.env)).any (·.1) = false := by rfl) :
    DE X W (.Call (.Name (Str.ofString C) p) (e :: es) [] pos) (callE (ps.length - 1) G (· ++ dfl) ma) := by
  obtain ⟨dvs, dV, hb, hv, hdf⟩ := hd.ex
  refine ⟨⟨fun pins s st H Q I q => ?_⟩⟩
  obtain ⟨ro, sd, M, R, S, P⟩ := q
  refine wpAny_Call_Name_kw (ld_glob I hg ci.mgC ?_ hdb)
  refine PySem.W.callWith_K (h₀ := X.base) I.ok.mod.kin Mk'.kp (thn (ha.pa.run pos pins s st H _ I ⟨ro, sd, M, R, S, Post.bind P⟩) fun us s1 ⟨vs, H1, I1, r, ro1, M1, ds, R1, P1, r1, q1⟩ => ⟨I1.kIn, ?_⟩) he hpl
  dsimp only at q1
  split at q1
  · rename_i hl
    have r2 := r.append hv
    have rs := r1.append (hdf ro1 H1)
    refine run_mk ci Mk' hF hr tk (fun self => ?_) I1 r2 R1 rs (by omega) rfl (hG _ _ _ _ _ _ R1 q1)
    have h3 := hb { s1 with heap := (s1.heap.push PySem.W.emptyDict).push (PySem.W.instObj c s1.heap.objs.size) } (self :: us) ((Inv.made (C := c) I1).kIn) (by
      rw [List.cons_append, List.length_cons, ← r2.length, ← rs.len]; omega)
    rw [List.cons_append] at h3
    exact h3
  · exact q1.elim
end
end DL
namespace DL
open PySem PySem.Spec L2
open PyProof.Rows hiding St
variable [HashW]
def mapO {A B : Type} (f : A → Option B) : List A → Option (List B)
  | [] => some []
  | a :: r => match f a, mapO f r with
    | some b, some bs => some (b :: bs)
    | _, _ => none
def pyN : Nat → MS → D → Option PyData
  | 0, _, _ => none
  | n + 1, M, d => match d with
    | .non => some .none
    | .bl b => some (.bool b)
    | .int i => some (.int i)
    | .str x => some (.str (tx x))
    | .tup ds => (mapO (pyN n M) ds).map .tuple
    | .lst ds => (mapO (pyN n M) ds).map .list
    | .flst ds => (mapO (pyN n M) ds).map .list
    | .cell k => match M[k]? with
      | some (.lst ds) => (mapO (pyN n M) ds).map .list
      | _ => none
    | _ => none
abbrev pyD (M : MS) (d : D) : Option PyData := pyN 30 M d
section
variable {K : PySem.W.Frag} {mg : Str → Option Value} {ro : Pl} {H : Hp} {M : MS}
theorem dpAll_of {n : Nat} (ih : ∀ d v p, pyN n M d = some p → Rep K mg ro H d v → Dp K H v p) : ∀ (ds : List D) (vs : List V) (ps : List PyData), mapO (pyN n M) ds = some ps → Reps K mg ro H ds vs → DpAll K H vs ps
  | [], vs, ps, e, r => by cases e; cases (show vs = [] from r); exact .nil
  | d :: ds, vs, ps, e, ⟨v, w, ev, q, t⟩ => by
    subst ev
    unfold mapO at e
    cases h1 : pyN n M d with
    | none => rw [h1] at e; cases e
    | some p =>
      cases h2 : mapO (pyN n M) ds with
      | none => rw [h1, h2] at e; cases e
      | some qs =>
        rw [h1, h2] at e; cases e
        exact .cons (ih d v p h1 q) (dpAll_of ih ds w qs h2 t)
theorem dp_of (R : RelS K mg ro M H) : ∀ (n : Nat) (d : D) (v : V) (p : PyData), pyN n M d = some p → Rep K mg ro H d v → Dp K H v p
  | 0, _, _, _, e, _ => by cases e
  | n + 1, d, v, p, e, r => by
    have ih := dp_of R n
    cases d with
    | non => cases e; cases (show v = V.non from r); exact .non
    | bl b => cases e; cases (show v = V.bl b from r); exact .bl b
    | int i => cases e; cases (show v = V.int i from r); exact .int i
    | str x => cases e; cases (show v = V.str (tx x) from r); exact .str _
    | tup ds =>
      have e : (mapO (pyN n M) ds).map PyData.tuple = some p := e
      obtain ⟨ps, h1, rfl⟩ := Option.map_eq_some_iff.mp e
      obtain ⟨a, vs, rfl, q, rs⟩ := r
      exact .tup q.sq (dpAll_of ih ds vs ps h1 rs)
    | lst ds =>
      have e : (mapO (pyN n M) ds).map PyData.list = some p := e
      obtain ⟨ps, h1, rfl⟩ := Option.map_eq_some_iff.mp e
      obtain ⟨a, vs, rfl, q, _, rs⟩ := r
      exact .lst (SqL.of q) (dpAll_of ih ds vs ps h1 rs)
    | flst ds =>
      have e : (mapO (pyN n M) ds).map PyData.list = some p := e
      obtain ⟨ps, h1, rfl⟩ := Option.map_eq_some_iff.mp e
      obtain ⟨a, vs, rfl, q, rs⟩ := r
      exact .lst q.sq (dpAll_of ih ds vs ps h1 rs)
    | cell k =>
      have e : (match M[k]? with | some (.lst ds) => (mapO (pyN n M) ds).map PyData.list | _ => none) = some p := e
      cases hm : M[k]? with
      | none => rw [hm] at e; cases e
      | some mo =>
        rw [hm] at e
        cases mo with
        | lst ds =>
          obtain ⟨ps, h1, rfl⟩ := Option.map_eq_some_iff.mp e
          obtain ⟨a, ho, rfl, _, hH, vs, rfl, rs⟩ := R.cellAt r hm
          exact .lst (SqL.of hH) (dpAll_of ih ds vs ps h1 rs)
        | _ => cases e
    | _ => cases e
end
/-- == of two of none, truth values, ints, texts; not a truth value with an int -/
def eqSc : D → D → Option Bool
  | .non, .non => some true
  | .bl a, .bl b => some (a == b)
  | .int a, .int b => some (a == b)
  | .str a, .str b => some (a == b)
  | .non, .int _ => some false
  | .int _, .non => some false
  | .non, .str _ => some false
  | .str _, .non => some false
  | .non, .bl _ => some false
  | .bl _, .non => some false
  | .int _, .str _ => some false
  | .str _, .int _ => some false
  | .bl _, .str _ => some false
  | .str _, .bl _ => some false
  | _, _ => none
def eqS (neg : Bool) (d e : D) (M : MS) : Res D := match eqSc d e with
  | some b => .ok (.bl (b != neg)) M
  | none => .stuck
def eqP (neg : Bool) (d e : D) (M : MS) : Res D := match pyD M d, pyD M e with
  | some p, some q => if SeqAt.shaped p = true ∧ SeqAt.shaped q = true then .ok (.bl (PyData.eqv p q != neg)) M else .stuck
  | _, _ => .stuck
def eqD (neg : Bool) : D → D → MS → Res D := fun d e M => if (eqSc d e).isSome = true then eqS neg d e M else eqP neg d e M
section
variable {X : Cx}
theorem tx_inj {x y : List Nat} : tx x = tx y ↔ x = y := by
  constructor
  · intro h
    have := congrArg (fun z : Str => z.cps.toList) h
    simpa using this
  · rintro rfl; rfl
theorem eqSc_scal {K : PySem.W.Frag} {mg : Str → Option Value} {ro : Pl} {H : Hp} {d e : D} {x y : V} {b : Bool} (h : eqSc d e = some b) (rx : Rep K mg ro H d x) (ry : Rep K mg ro H e y) : scal x y = true ∧ decide (x = y) = b := by
  cases d <;> cases e <;> first | cases h | skip
  all_goals (cases (show x = _ from rx); cases (show y = _ from ry))
  all_goals refine ⟨rfl, ?_⟩
  all_goals simp [tx_inj]
  all_goals first | rfl | exact Bool.eq_iff_iff.mpr (by simp)
theorem opS_eqS (neg : Bool) : OpS X (compareOp (if neg then .NotEq else .Eq)) (eqS neg) := by
  cases neg with
  | false =>
    refine ⟨_, op_eq, fun ro H M d e x y E Q R rx ry P => ?_⟩
    unfold eqS at P
    split at P
    · rename_i b h
      obtain ⟨h1, h2⟩ := eqSc_scal h rx ry
      exact ⟨h1, by rw [h2]; simpa using PostD.pure (d := .bl (b != false)) R rfl P⟩
    · exact P.elim
  | true =>
    refine ⟨_, op_ne, fun ro H M d e x y E Q R rx ry P => ?_⟩
    unfold eqS at P
    split at P
    · rename_i b h
      obtain ⟨h1, h2⟩ := eqSc_scal h rx ry
      exact ⟨h1, by rw [h2]; simpa using PostD.pure (d := .bl (b != true)) R rfl P⟩
    · exact P.elim
theorem opS_eqP (neg : Bool) (hu : X.A.units + 64 < cLine) : OpS X (compareOp (if neg then .NotEq else .Eq)) (eqP neg) := by
  cases neg with
  | false =>
    refine ⟨_, op_eqD hu, fun ro H M d e x y E Q R rx ry P => ?_⟩
    unfold eqP at P
    split at P
    · rename_i p q h1 h2
      split at P
      · rename_i hs
        exact ⟨p, q, dp_of R 30 d x p h1 rx, dp_of R 30 e y q h2 ry, hs.1, hs.2, by simpa using PostD.pure (d := .bl (PyData.eqv p q != false)) R rfl P⟩
      · exact P.elim
    · exact P.elim
  | true =>
    refine ⟨_, op_neD hu, fun ro H M d e x y E Q R rx ry P => ?_⟩
    unfold eqP at P
    split at P
    · rename_i p q h1 h2
      split at P
      · rename_i hs
        exact ⟨p, q, dp_of R 30 d x p h1 rx, dp_of R 30 e y q h2 ry, hs.1, hs.2, by simpa using PostD.pure (d := .bl (PyData.eqv p q != true)) R rfl P⟩
      · exact P.elim
    · exact P.elim
theorem opS_eq (hu : X.A.units + 64 < cLine) : OpS X (compareOp .Eq) (eqD false) := OpS.or (opS_eqS false) (opS_eqP false hu) fun d e _ => (eqSc d e).isSome
theorem opS_ne (hu : X.A.units + 64 < cLine) : OpS X (compareOp .NotEq) (eqD true) := OpS.or (opS_eqS true) (opS_eqP true hu) fun d e _ => (eqSc d e).isSome
end
def subIn (x y : List Nat) : Bool := !(Builtin.Str.occurrences (tx y) (tx x) 0 (tx y).length 1).isEmpty
def inS (neg : Bool) (d e : D) (M : MS) : Res D := match d, e with
  | .str x, .str y => .ok (.bl (subIn x y != neg)) M
  | _, _ => .stuck
def inP (neg : Bool) (d e : D) (M : MS) : Res D := match pyD M d, pyD M e with
  | some p, some (.list qs) => if SeqAt.shaped p = true ∧ SeqAt.shaped (.list qs) = true then .ok (.bl ((qs.any fun z => PyData.eqv z p) != neg)) M else .stuck
  | _, _ => .stuck
def inD (neg : Bool) : D → D → MS → Res D := fun d e M => if isS2 d e M = true then inS neg d e M else inP neg d e M
section
variable {X : Cx}
theorem opS_inS (neg : Bool) : OpS X (compareOp (if neg then .NotIn else .In)) (inS neg) := by
  cases neg with
  | false =>
    refine ⟨_, op_in_str, fun ro H M d e x y E Q R rx ry P => ?_⟩
    cases d <;> cases e <;> try exact P.elim
    rename_i a b
    cases (show x = V.str (tx a) from rx)
    cases (show y = V.str (tx b) from ry)
    exact ⟨_, _, rfl, rfl, by simpa [subIn] using PostD.pure (d := .bl (subIn a b != false)) R rfl P⟩
  | true =>
    refine ⟨_, op_notin_str, fun ro H M d e x y E Q R rx ry P => ?_⟩
    cases d <;> cases e <;> try exact P.elim
    rename_i a b
    cases (show x = V.str (tx a) from rx)
    cases (show y = V.str (tx b) from ry)
    exact ⟨_, _, rfl, rfl, by simpa [subIn] using PostD.pure (d := .bl (subIn a b != true)) R rfl P⟩
theorem opS_inP (neg : Bool) (hu : X.A.units + 65 < cLine) : OpS X (compareOp (if neg then .NotIn else .In)) (inP neg) := by
  cases neg with
  | false =>
    refine ⟨_, op_inD hu, fun ro H M d e x y E Q R rx ry P => ?_⟩
    unfold inP at P
    split at P
    · rename_i p q h1 h2
      split at P
      · rename_i hs
        exact ⟨p, q, dp_of R 30 d x p h1 rx, dp_of R 30 e y _ h2 ry, hs.1, hs.2, by simpa using PostD.pure (d := .bl ((q.any fun z => PyData.eqv z p) != false)) R rfl P⟩
      · exact P.elim
    · exact P.elim
  | true =>
    refine ⟨_, op_notInD hu, fun ro H M d e x y E Q R rx ry P => ?_⟩
    unfold inP at P
    split at P
    · rename_i p q h1 h2
      split at P
      · rename_i hs
        exact ⟨p, q, dp_of R 30 d x p h1 rx, dp_of R 30 e y _ h2 ry, hs.1, hs.2, by simpa using PostD.pure (d := .bl ((q.any fun z => PyData.eqv z p) != true)) R rfl P⟩
      · exact P.elim
    · exact P.elim
theorem opS_in (hu : X.A.units + 65 < cLine) : OpS X (compareOp .In) (inD false) := OpS.or (opS_inS false) (opS_inP false hu) isS2
theorem opS_notIn (hu : X.A.units + 65 < cLine) : OpS X (compareOp .NotIn) (inD true) := OpS.or (opS_inS true) (opS_inP true hu) isS2
end
def isIns (M : MS) (C : String) : D → Bool
  | .obj C' _ _ => decide (C' = C)
  | .cell n => match M[n]? with
    | some (.obj C' _ _) => decide (C' = C)
    | _ => false
  | _ => false
section
variable {X : Cx} {k : Nat} {f c : Addr} {fd : FuncData} {ps : List Str} {F : FM}
theorem ins_is {K : PySem.W.Frag} {mg : Str → Option Value} {ro : Pl} {H : Hp} {M : MS} {C : String} (R : RelS K mg ro M H) {d : D} {v : V} (r : Rep K mg ro H d v) (h : isIns M C d = true) : ∃ a c dx gs, v = .ref a ∧ mg (Str.ofString C) = some (.ref c) ∧ H a = some (.ins c dx gs) := by
  cases d with
  | obj C' ns ds =>
    obtain rfl : C' = C := of_decide_eq_true h
    obtain ⟨a, c', dx, vs, rfl, hmg, hH, _, _, rs⟩ := r
    exact ⟨a, c', dx, _, rfl, hmg, hH⟩
  | cell n =>
    have h : (match M[n]? with | some (.obj C' _ _) => decide (C' = C) | _ => false) = true := h
    cases hm : M[n]? with
    | none => rw [hm] at h; cases h
    | some mo =>
      rw [hm] at h
      cases mo with
      | obj C' ns ds =>
        obtain rfl : C' = C := of_decide_eq_true h
        obtain ⟨a, ho, rfl, _, hH, c', dx, vs, rfl, hmg, _, rs⟩ := R.cellAt r hm
        exact ⟨a, c', dx, _, rfl, hmg, hH⟩
      | _ => cases h
  | _ => cases h
theorem Post.noE {A B : Type} {R : Pl → Hp → A → B → Prop} {K : PySem.W.Frag} {mg : Str → Option Value} {E E' : XK} {ro : Pl} {H : Hp} {Q : B → Hp → Prop} {x : Res A} (h : Post R K mg E ro H Q x.ne) : Post R K mg E' ro H Q x := by
  cases x with
  | ok a M => exact h
  | exc C ns ds M => exact h.elim
  | stuck => exact h.elim
/-- e in o, o's class has its own __contains__ -/
def inO (C : String) (F : FM) (neg : Bool) (d e : D) (M : MS) : Res D := if isIns M C e = true then (F [e, d] M).ne.bind fun r M1 => match r with
  | .bl b => .ok (.bl (b != neg)) M1
  | _ => .stuck else .stuck
theorem truthy_bl {M : Model} {A : Around} {E : Value → Shared → Prop} {s : Shared} {b : Bool} {Q : Bool → Shared → Prop} (h : Q b s) : wpAny M A (truthy (.bool b)) Q E s := by
  unfold truthy
  exact wpAny_pure h
theorem opS_inO {C : String} (neg : Bool) (hc : X.mg (Str.ofString C) = some (.ref c)) (hs : PySem.W.findIn X.K (.ref c) "__contains__" = some (some (.ref f))) (hf : PySem.W.isFn X.K (.ref f) = true) (hb : Binds X.K fd ps []) (hF : DOk X.prog X.w X.K X.mg X.base k f fd ps F)
    (hr : Room k X.A) (hps : ps.length = 2 := by rfl) : OpS X (compareOp (if neg then .NotIn else .In)) (inO C F neg) := by
  refine ⟨fun x y H Q => ∃ ro M d e, RelS X.K X.mg ro M H ∧ Rep X.K X.mg ro H d x ∧ Rep X.K X.mg ro H e y ∧ PostD X.K X.mg (fun _ _ _ => False) ro H Q (inO C F neg d e M), ?_, fun ro H M d e x y E Q R rx ry P => ⟨ro, M, d, e, R, rx, ry, ?_⟩⟩
  · rintro pins s σ H x y v u Q I rx ry ⟨ro, M, d, e, R, qx, qy, P⟩
    unfold inO at P
    split at P
    · rename_i hi
      obtain ⟨a, c', dx, gs, rfl, hmg, hH⟩ := ins_is R qy hi
      rw [hc] at hmg; cases hmg
      obtain rfl : u = Value.ref a := ry
      obtain ⟨mA, J, _⟩ := ins_get I.hok hH
      obtain ⟨od, J, _⟩ := J.look
      obtain ⟨m, hFr⟩ := I.fr
      have r2 : Vals [V.ref a, x] [Value.ref a, v] := .cons rfl (.cons rx .nil)
      have rs : Reps X.K X.mg ro H [e, d] [V.ref a, x] := ⟨_, _, rfl, qy, Reps.one qx⟩
      have P2 : PostD X.K X.mg (fun _ _ _ => False) ro H (fun z H' => ∃ b, z = .bl b ∧ Q (.bl (b != neg)) H') (F [e, d] M) := by
        refine (Post.noE (E := fun _ _ _ => False) ?_)
        cases eF : F [e, d] M with
        | stuck => rw [eF] at P; exact P
        | exc C' ns es M' => rw [eF] at P; exact P.elim
        | ok r M' =>
          rw [eF, Res.ne_ok, Res.bind_ok] at P
          cases r with
          | bl b =>
            intro ro' H' z R' P' rz
            cases (show z = V.bl b from rz)
            exact ⟨b, rfl, P ro' H' _ R' P' rfl⟩
          | _ => exact P.elim
      have core : wpAny (model X.prog X.w) X.A (call (.ref f) [.ref a, v]) (EP X pins σ fun z H' => ∃ b, z = .bl b ∧ Q (.bl (b != neg)) H') X.xe s :=
        run_DA (W := W0) (args := ⟨[.ref a, v], []⟩) (us := [.ref a, v]) hF rfl hr takes0 (by
          have := hb s [.ref a, v] I.kIn (by simp [hps])
          simpa using this) I r2 R rs (by rw [hps]; rfl) P2
      cases neg with
      | false =>
        refine PySem.W.in_K hFr I.ok.mod.kin J hs hf (wpAny_mono core (fun r s' ⟨z, H', I', rz, b, ez, q⟩ => ?_) fun _ _ x => x)
        subst ez
        cases (show r = Value.bool b from rz)
        exact truthy_bl ⟨.bl b, H', I', rfl, by simpa using q⟩
      | true =>
        refine PySem.W.notIn_K hFr I.ok.mod.kin J hs hf (wpAny_mono core (fun r s' ⟨z, H', I', rz, b, ez, q⟩ => ?_) fun _ _ x => x)
        subst ez
        cases (show r = Value.bool b from rz)
        exact truthy_bl ⟨.bl (!b), H', I', rfl, by simpa using q⟩
    · exact P.elim
  · unfold inO at P ⊢
    split
    · rename_i hi
      rw [if_pos hi] at P
      cases eF : F [e, d] M with
      | stuck => rw [eF] at P; exact P
      | exc C' ns es M' => rw [eF] at P; exact P
      | ok r M' =>
        rw [eF] at P
        rw [Res.ne_ok, Res.bind_ok] at P ⊢
        cases r <;> exact P
    · rename_i hi
      rw [if_neg hi] at P; exact P
end
end DL
namespace DL
open PySem PySem.Spec L2
open PyProof.Rows hiding St
variable [HashW]
inductive TN where
  | b (n : String)
  | c (C : String)
/-- a dict whose keys are no tuples -/
def dicT : List D → Option TN
  | .non :: _ => none
  | _ => some (.b "dict")
theorem dicT_k {ks : List D} {a : TN} {kl : KLs} (h : dicT ks = some a) (g : keysG ks = some kl) : a = .b "dict" ∧ ∃ k, kl = .k k := by
  unfold dicT at h
  split at h
  · cases h
  · rename_i hn
    cases h
    refine ⟨rfl, ?_⟩
    unfold keysG at g
    split at g
    · exact absurd rfl (hn _)
    · obtain ⟨k, _, e⟩ := Option.map_eq_some_iff.mp g
      exact ⟨k, e.symm⟩
def tnD (M : MS) : D → Option TN
  | .non => some (.b "NoneType")
  | .bl _ => some (.b "bool")
  | .int _ => some (.b "int")
  | .str _ => some (.b "str")
  | .tup _ => some (.b "tuple")
  | .lst _ => some (.b "list")
  | .flst _ => some (.b "list")
  | .dic ks _ => dicT ks
  | .obj C _ _ => some (.c C)
  | .cell k => match M[k]? with
    | some (.lst _) => some (.b "list")
    | some (.dic _ _) => some (.b "dict")
    | some (.obj C _ _) => some (.c C)
    | some (.tab ..) => none
    | none => none
  | _ => none
def tnC : D → Option TN
  | .ty n => some (.b n)
  | .glo C => some (.c C)
  | _ => none
def TNv (mg : Str → Option Value) : TN → Value → Prop
  | .b n, v => v = .type n
  | .c C, v => ∃ c, mg (Str.ofString C) = some (.ref c) ∧ v = .ref c
/-- what isinstance asks of an own class -/
structure IsC (K : PySem.W.Frag) (C : Addr) : Prop where
  cl : Cls K C
  ha : PySem.W.findIn K (.ref C) "__class__" = some (some (.builtin "object.__class__"))
  hn : PySem.W.specialIn K (.builtin "object.__class__") "__get__" = some (some (.builtin "getset_descriptor.__get__"))
  htk : PySem.W.takesIn K (.builtin "object.__class__") = some true
  hm : PySem.W.mroIn K C (.type "object") = some true
def okTN (cs : List String) : TN → Bool
  | .c C => decide (C ∈ cs)
  | .b _ => true
def isiF (cs : List String) (tbl : TN → TN → Option Bool) (ds : List D) (M : MS) : Res D := match ds with
  | [d, t] => (match tnD M d, tnC t with
    | some a, some b => if okTN cs a = true then (match tbl a b with
      | some k => .ok (.bl k) M
      | none => .stuck) else .stuck
    | _, _ => .stuck)
  | _ => .stuck
/-- two built-in types -/
def tblB : TN → TN → Option Bool
  | .b a, .b n => kitB a n
  | _, _ => none
structure TblOk (K : PySem.W.Frag) (mg : Str → Option Value) (tbl : TN → TN → Option Bool) : Prop where
  ok : ∀ a b k, tbl a b = some k → ∃ u, TNv mg b u ∧ ∀ t, TNv mg a t → PySem.W.kitOne K t u = some k
section
variable {X : Cx}
theorem rd_tyL {H : Hp} {K : PySem.W.Frag} {a : Addr} {vs : List V} (h : Rd H a (.lst vs)) : TyX K H (.ref a) (.type "list") := by
  rcases h with h | ⟨o, h⟩
  · exact .base (.lst h)
  · exact .base (.frz h)
theorem ty_of {K : PySem.W.Frag} {mg : Str → Option Value} {ro : Pl} {H : Hp} {M : MS} {cs : List String} (hcs : ∀ C c, C ∈ cs → mg (Str.ofString C) = some (.ref c) → IsC K c) (R : RelS K mg ro M H) {d : D} {v : V} (r : Rep K mg ro H d v) {a : TN} (h : tnD M d = some a)
    (hc : okTN cs a = true) : ∃ t, TyX K H v t ∧ TNv mg a t := by
  have ins : ∀ {C : String} {x c dx : Addr} {gs : List (Str × V)}, C ∈ cs → mg (Str.ofString C) = some (.ref c) → H x = some (.ins c dx gs) → ∃ t, TyX K H (.ref x) t ∧ TNv mg (.c C) t := fun {C x c dx gs} hC hmg hH => by
    have i := hcs C c hC hmg
    exact ⟨.ref c, .base (.ins hH i.cl i.ha i.hn i.htk i.hm), c, hmg, rfl⟩
  cases d with
  | non => cases h; cases (show v = V.non from r); exact ⟨_, .base .non, rfl⟩
  | bl b => cases h; cases (show v = V.bl b from r); exact ⟨_, .base (.bl _), rfl⟩
  | int i => cases h; cases (show v = V.int i from r); exact ⟨_, .base (.int _), rfl⟩
  | str x => cases h; cases (show v = V.str (tx x) from r); exact ⟨_, .base (.str _), rfl⟩
  | tup ds =>
    cases h
    obtain ⟨p, vs, rfl, q, rs⟩ := r
    rcases q with ⟨q, _⟩ | ⟨o, its, n, e1, e2, e3⟩
    · rcases q with q | ⟨o, q⟩
      · exact ⟨_, .base (.tup q), rfl⟩
      · exact ⟨_, .fTuple q, rfl⟩
    · exact ⟨_, .kTuple e1 e2, rfl⟩
  | lst ds =>
    cases h
    obtain ⟨p, vs, rfl, q, _, rs⟩ := r
    exact ⟨_, .base (.lst q), rfl⟩
  | flst ds =>
    cases h
    obtain ⟨p, vs, rfl, q, rs⟩ := r
    rcases q with ⟨q, _⟩ | ⟨o, its, n, e1, e2, e3⟩
    · exact ⟨_, rd_tyL q, rfl⟩
    · exact ⟨_, .kList e1 e2, rfl⟩
  | dic ks ds =>
    obtain ⟨p, kl, vs, rfl, g, l, q, _, rs⟩ := r
    obtain ⟨rfl, k, rfl⟩ := dicT_k h g
    exact ⟨_, .base (.dK q), rfl⟩
  | obj C ns ds =>
    cases h
    obtain ⟨p, c, dx, vs, rfl, g, q, _, l, rs⟩ := r
    exact ins (of_decide_eq_true hc) g q
  | cell k =>
    have h : (match M[k]? with | some (.lst _) => some (TN.b "list") | some (.dic _ _) => some (.b "dict") | some (.obj C _ _) => some (.c C) | some (.tab ..) => none | none => none) = some a := h
    cases hm : M[k]? with
    | none => rw [hm] at h; cases h
    | some mo =>
      rw [hm] at h
      obtain ⟨p, ho, rfl, _, hH, m⟩ := R.cellAt r hm
      cases mo with
      | lst ds => cases h; obtain ⟨vs, rfl, _⟩ := m; exact ⟨_, .base (.lst hH), rfl⟩
      | dic ks ds => cases h; obtain ⟨kl, vs, rfl, _⟩ := m; exact ⟨_, .base (.dK hH), rfl⟩
      | obj C ns ds => cases h; obtain ⟨c, dx, vs, rfl, g, _⟩ := m; exact ins (of_decide_eq_true hc) g hH
      | tab i C m => cases h
  | _ => cases h
theorem cls_of {K : PySem.W.Frag} {mg : Str → Option Value} {ro : Pl} {H : Hp} {d : D} {v : V} (r : Rep K mg ro H d v) {b : TN} (h : tnC d = some b) {u : Value} (hu : TNv mg b u) : ClsV v u := by
  cases d with
  | ty n => cases h; cases (show v = V.ty n from r); cases (show u = .type n from hu); exact .ty n
  | glo C =>
    cases h
    obtain ⟨a, rfl, e⟩ := r
    obtain ⟨c, e', rfl⟩ := hu
    rw [e] at e'; cases e'
    exact .own a
  | _ => cases h
theorem callS_isi {cs : List String} {tbl : TN → TN → Option Bool} (hcs : ∀ C c, C ∈ cs → X.mg (Str.ofString C) = some (.ref c) → IsC X.K c) (ht : TblOk X.K X.mg tbl) : CallS X (.builtin "isinstance") (isiF cs tbl) := by
  refine ⟨_, call_isi, fun ro H M ds xs E Q R rs P => ?_⟩
  unfold isiF at P
  split at P
  · rename_i d t
    obtain ⟨x, y, rfl, rx, ry⟩ := reps2 rs
    split at P
    · rename_i a b h1 h2
      split at P
      · rename_i hc
        split at P
        · rename_i k hk
          obtain ⟨u, hu, hkit⟩ := ht.ok a b k hk
          obtain ⟨t', ty, tn⟩ := ty_of hcs R rx h1 hc
          exact ⟨x, y, t', u, k, rfl, cls_of ry h2 hu, ty, hkit t' tn, PostD.pure (d := .bl k) R rfl P⟩
        · exact P.elim
      · exact P.elim
    · exact P.elim
  · exact P.elim
end
def tyvD (M : MS) (T : String) : D → Bool
  | .str _ => decide (T = "str")
  | .int _ => decide (T = "int")
  | .lst _ => decide (T = "list")
  | .flst _ => decide (T = "list")
  | .dic ks _ => decide (T = "dict") && (dicT ks).isSome
  | .cell k => match M[k]? with
    | some (.lst _) => decide (T = "list")
    | some (.dic _ _) => decide (T = "dict")
    | _ => false
  | _ => false
def bmE (T : String) (f : D → List D → MS → Res D) (mo : ME) (ma : MA) : ME := fun sd M => (mo sd M).bind fun d M1 => if tyvD M1 T d = true then (ma sd M1).bind fun ds M2 => f d ds M2 else .stuck
section
variable {X : Cx} {W : WX} {o e : Expr} {es : List Expr} {mo : ME} {ma : MA} {name : Str} {apos cpos : Pos} {T id : String} {f : D → List D → MS → Res D}
theorem tyv_of {K : PySem.W.Frag} {mg : Str → Option Value} {ro : Pl} {H : Hp} {M : MS} (R : RelS K mg ro M H) {d : D} {v : V} (r : Rep K mg ro H d v) (h : tyvD M T d = true) : tyV K T v H := by
  cases d with
  | str x =>
    cases (show v = V.str (tx x) from r)
    have h : T = "str" := of_decide_eq_true h
    exact h
  | int i =>
    cases (show v = V.int i from r)
    have h : T = "int" := of_decide_eq_true h
    exact h
  | lst ds =>
    obtain ⟨p, vs, rfl, q, _, rs⟩ := r
    exact .inl ⟨of_decide_eq_true h, vs, SqL.of q⟩
  | flst ds =>
    obtain ⟨p, vs, rfl, q, rs⟩ := r
    exact .inl ⟨of_decide_eq_true h, vs, q.sq⟩
  | dic ks ds =>
    obtain ⟨p, kl, vs, rfl, g, l, q, _, rs⟩ := r
    have h : (decide (T = "dict") && (dicT ks).isSome) = true := h
    obtain ⟨h1, h2⟩ := Bool.and_eq_true_iff.mp h
    obtain ⟨a, ha⟩ := Option.isSome_iff_exists.mp h2
    obtain ⟨_, k, rfl⟩ := dicT_k ha g
    exact .inr (.inr (.inl ⟨of_decide_eq_true h1, .inl ⟨_, q⟩⟩))
  | cell k =>
    have h : (match M[k]? with | some (.lst _) => decide (T = "list") | some (.dic _ _) => decide (T = "dict") | _ => false) = true := h
    cases hm : M[k]? with
    | none => rw [hm] at h; cases h
    | some mo =>
      rw [hm] at h
      obtain ⟨p, ho, rfl, _, hH, m⟩ := R.cellAt r hm
      cases mo with
      | lst ds => obtain ⟨vs, rfl, _⟩ := m; exact .inl ⟨of_decide_eq_true h, vs, SqL.of hH⟩
      | dic ks ds => obtain ⟨kl, vs, rfl, _⟩ := m; exact .inr (.inr (.inl ⟨of_decide_eq_true h, .inl ⟨_, hH⟩⟩))
      | obj C ns ds => cases h
      | tab i C m => cases h
  | _ => cases h
theorem de_bm (hf : MtS X T id f) (pa : PlainAttrs T) (slot : Slot T name id) (hty : typeOf (.builtin id) = pure (.type "method_descriptor")) (ho : DE X W o mo) (ha : DA X W (e :: es) ma)
    (hbase : attributeBase o name X.env (eval o X.env) = eval o X.env := by rfl)
    (hfew : ((backTo cpos (starEach (e :: es) X.env)).all (fun x => !x.1) && (backToKw cpos (keywordEach [] X.env)).all (fun x => x.1.isSome)
      && decide ((e :: es).length + ([] : List Keyword).length + (if ([] : List Keyword).isEmpty then 0 else 1) < 30)) = true := by rfl)
    (hline : (apos.endLine == cpos.line) = true := by rfl) (hs : starEach (e :: es) X.env = (false, eval e X.env) :: starEach es X.env := by rfl) (hplain : (backTo cpos (starEach es X.env)).any (·.1) = false := by rfl) :
    DE X W (.Call (.Attribute o name apos) (e :: es) [] cpos) (bmE T f mo ma) := by
  obtain ⟨r, h1, h2⟩ := hf
  refine ⟨⟨fun pins s st H Q I q => (pe_bm pa slot hty h1 ho.pe ha.pa hbase hfew hline hs hplain).run pins s st H Q I ?_⟩⟩
  obtain ⟨ro, sd, M, R, S, P⟩ := q
  refine ⟨ro, sd, M, R, S, (Post.bind P).imp fun x H1 ⟨ro1, M1, d, R1, P1, r1, q1⟩ => ?_⟩
  split at q1
  · rename_i ht
    refine ⟨tyv_of R1 r1 ht, ro1, sd, M1, R1, S.mono P1, (Post.bind q1).imp fun xs H2 ⟨ro2, M2, ds, R2, P2, r2, q2⟩ => ?_⟩
    exact h2 ro2 H2 M2 d ds x xs _ Q R2 (Rep.mono P2 _ _ r1) r2 q2
  · exact q1.elim
end
def strsOf : List D → Option (List (List Nat))
  | [] => some []
  | .str x :: r => (strsOf r).map (x :: ·)
  | _ => none
theorem strsOf_eq : ∀ {ds : List D} {xs : List (List Nat)}, strsOf ds = some xs → ds = xs.map D.str
  | [], xs, h => by cases h; rfl
  | d :: ds, xs, h => by
    cases d with
    | str x =>
      have h : (strsOf ds).map (x :: ·) = some xs := h
      obtain ⟨ys, h1, rfl⟩ := Option.map_eq_some_iff.mp h
      rw [strsOf_eq h1]; rfl
    | _ => cases h
@[simp] theorem strsOf_map (xs : List (List Nat)) : strsOf (xs.map D.str) = some xs := by
  induction xs with
  | nil => rfl
  | cons x xs ih => simp [strsOf, ih]
def joinF (d : D) (ds : List D) (M : MS) : Res D := match d, ds with
  | .str a, [e] => (match (seqOf M e).bind strsOf with
    | some xs => if (xs.map List.length).sum + xs.length * a.length ≤ 1000000 then .ok (.str (TL.joinL a xs)) M else .stuck
    | none => .stuck)
  | _, _ => .stuck
def appendF (d : D) (ds : List D) (M : MS) : Res D := match d, ds with
  | .cell n, [e] => (match M[n]? with
    | some (.lst xs) => if xs.length < 1000000 then .ok .non (M.set n (.lst (xs ++ [e]))) else .stuck
    | _ => .stuck)
  | _, _ => .stuck
section
variable {X : Cx}
theorem mtS_join : MtS X "str" "str.join" joinF := by
  refine ⟨_, mt_join, fun ro H M d ds x xs E Q R r rs P => ?_⟩
  unfold joinF at P
  split at P
  · rename_i a e
    split at P
    · rename_i ys h
      split at P
      · rename_i hl
        cases (show x = V.str (tx a) from r)
        obtain ⟨v, rfl, rv⟩ := reps1 rs
        obtain ⟨es, h1, h2⟩ := Option.bind_eq_some_iff.mp h
        obtain ⟨p, vs, rfl, hq, q⟩ := seq_of R rv h1
        rw [strsOf_eq h2] at q
        have e := Reps.strs q
        subst e
        have e2 : Txt.join (tx a) (ys.map tx) = tx (TL.joinL a ys) := by
          have h3 := TL.tl_join (tx a) (ys.map tx)
          have h4 : TL.tl (tx a) = a := by unfold TL.tl; simp
          have h5 : (ys.map tx).map TL.tl = ys := by
            rw [List.map_map]
            conv => rhs; rw [← List.map_id ys]
            apply List.map_congr_left
            intro z _
            show TL.tl (tx z) = z
            unfold TL.tl; simp
          rw [h4, h5] at h3
          have h6 : ∀ z : Str, tx (TL.tl z) = z := fun z => by unfold TL.tl; simp [tx]
          rw [← h3, h6, TL.join_eq]
        refine ⟨tx a, p, ys.map tx, rfl, rfl, hq, ?_, ?_⟩
        · have e3 : (ys.map tx).map (fun z => z.length) = ys.map List.length := by
            rw [List.map_map]
            apply List.map_congr_left
            intro z _
            simp [Str.length]
          rw [e3, List.length_map]
          simp only [Str.length, List.size_toArray]
          omega
        · rw [e2]
          exact PostD.pure (d := .str (TL.joinL a ys)) R rfl P
      · exact P.elim
    · exact P.elim
  · exact P.elim
theorem mtS_append : MtS X "list" "list.append" appendF := by
  refine ⟨_, mt_append, fun ro H M d ds x xs E Q R r rs P => ?_⟩
  unfold appendF at P
  split at P
  · rename_i n e
    split at P
    · rename_i ys hm
      split at P
      · rename_i hl
        obtain ⟨v, rfl, rv⟩ := reps1 rs
        obtain ⟨a, ho, rfl, g, h, vs, rfl, q⟩ := R.cellAt r hm
        obtain ⟨R', P'⟩ := R.change (o := .lst (vs ++ [v])) (mo := .lst (ys ++ [e])) g ⟨_, rfl, q.append (Reps.one rv)⟩
        exact ⟨a, vs, v, rfl, rfl, h, by rw [← q.len]; exact line_lt hl, P ro _ _ R' P' rfl⟩
      · exact P.elim
    · exact P.elim
  · exact P.elim
end
section
variable {X : Cx} {W : WX} {e : Expr} {m : ME} {pos pos' : Pos} {x : Str} {op : Operator}
theorem iopS_addI : OpS X (inplaceOp .Add) addI := opS_int0 (k := fun i j => .int (i + j)) iop_add (fun _ _ _ _ => rfl) fun d e M h => by
  cases d <;> cases e <;> first | exact absurd rfl h | exact ⟨_, _, rfl, rfl, rfl⟩
theorem iopS_addS : OpS X (inplaceOp .Add) addS := by
  refine ⟨_, iop_add_str, fun ro H M d e x y E Q R rx ry P => ?_⟩
  cases d <;> cases e <;> try exact P.elim
  rename_i a b
  cases (show x = V.str (tx a) from rx)
  cases (show y = V.str (tx b) from ry)
  simp only [addS] at P
  split at P
  · rename_i hl
    refine ⟨_, _, rfl, rfl, by simp only [Str.length, List.size_toArray]; exact line_le hl, ?_⟩
    rw [Str.tx_append]
    exact PostD.pure (d := .str (a ++ b)) R rfl P
  · exact P.elim
def iaddD : D → D → MS → Res D := fun d e M => if isI2 d e M = true then addI d e M else addS d e M
theorem iopS_add : OpS X (inplaceOp .Add) iaddD := OpS.or iopS_addI iopS_addS isI2
theorem ds_aug {i : Nat} {f : D → D → MS → Res D} (ho : OpS X (inplaceOp op) f) (he : DE X W e m) (hN : X.N.Nodup) (hi : X.N[i]? = some x := by rfl) (hx : Loc X.env.scope x := by first | exact Or.inl rfl | exact Or.inr rfl)
    (hf : X.fn x = true ∨ X.env.scope.names.lookup x = some .local := by first | exact .inl rfl | exact .inr rfl | assumption) : DS X W (.AugAssign (.Name x pos') op e pos) (augS i f m) := by
  obtain ⟨r, h1, h2⟩ := ho
  refine ⟨⟨fun pins s st H D0 I q => (ps_aug hN hi hx he.pe h1 hf).run pins s st H D0 I ?_⟩⟩
  obtain ⟨ro, sd, M, R, S, P⟩ := q
  unfold augS nameE at P
  split at P
  · rename_i d e
    obtain ⟨v, e', rv⟩ := S.2 i d e
    have P : PostS X.K X.mg W ro H D0 (SRes.ofE (m sd M) sd fun y M2 => SRes.ofE (f d y M2) sd fun d M3 => .nx (sd.set i (some d)) M3) := P
    refine ⟨v, e', ro, sd, M, R, S, (PostS.ofE P S).imp fun y H1 ⟨ro1, M1, d', R1, P1, r1, q1⟩ => ?_⟩
    refine h2 ro1 H1 M1 d d' v y (fun c d H' => W c d st H') _ R1 (Rep.mono P1 _ _ rv) r1 ((PostS.ofE q1 (S.mono P1)).imp fun z H2 ⟨ro2, M2, g, R2, P2, r2, q2⟩ => ?_)
    exact q2 ro2 H2 _ R2 (Pres.refl _ _) (((S.mono P1).mono P2).set r2)
  · exact P.elim
end
section
variable {P : Program} {w : World} {K : PySem.W.Frag} {mg : Str → Option Value} {base : Heap}
abbrev FnP (K : PySem.W.Frag) (x qual : Str) (st : Stmt) (dvs : List V) (kws : List (Str × V)) (f : Addr) (fd : FuncData) : Prop := FunD K x qual (defArgs st) (defBody st) (defScope st) dvs kws f fd
theorem funD_ok {x qual : Str} {st : Stmt} {dvs : List V} {kws : List (Str × V)} {f : Addr} {fd : FuncData} {N ps : List Str} {k : Nat} {body : MST} (Fn : FnP K x qual st dvs kws f fd) (S : FnScope N ps (defScope st))
    (hbody : ∀ (cdv : Value) (A : Around) (outer : List Env) (s : Shared) (H : Hp) (E : XK), Room k (A.deeper (envOfC qual (defScope st) s.heap.objs.size f cdv)) →
      Ctx (cxOf (L2.CX P w) P w K mg base N qual (defScope st) f cdv A outer s H E) (fun cls d _ H' => E cls d H') →
      DSs (cxOf (L2.CX P w) P w K mg base N qual (defScope st) f cdv A outer s H E) (fun cls d _ H' => E cls d H') (defBody st) body) : DOk P w K mg base (k + 1) f fd ps (runD N.length body) := by
  refine Fn.ok S (fun vs H Q E h => h.1) fun cdv A outer s H vs Q E hr h => ?_
  obtain ⟨hl, ro, ds, M, R, rs, Po⟩ := h
  have hc : Ctx (cxOf (L2.CX P w) P w K mg base N qual (defScope st) f cdv A outer s H E) (fun cls d _ H' => E cls d H') := ⟨takes_of rfl rfl rfl rfl, passes_of rfl, rfl⟩
  refine ⟨_, (hbody cdv A outer s H E hr hc).ps, ro, startD N.length ds, M, R, repSt_start rs, ?_⟩
  unfold runD at Po
  cases e : body (startD N.length ds) M with
  | nx sd M' => rw [e] at Po; exact fun ro' H' st rs q r => Po ro' H' .non rs q rfl
  | ret d M' => rw [e] at Po; exact Po
  | exc C ns ds' sd M' => rw [e] at Po; exact fun ro' H' st cls dd rs q _ r => Po ro' H' cls dd rs q r
  | brk sd M' => rw [e] at Po; exact Po.elim
  | ct sd M' => rw [e] at Po; exact Po.elim
  | stuck => rw [e] at Po; exact Po
theorem DOk.imp {k : Nat} {f : Addr} {fd : FuncData} {ps : List Str} {F G : FM} (h : DOk P w K mg base k f fd ps F) (hG : ∀ (ro : Pl) (H : Hp) (E : XK) (Q : VK) (ds : List D) (M : MS), RelS K mg ro M H → PostD K mg E ro H Q (G ds M) → PostD K mg E ro H Q (F ds M)) : DOk P w K mg base k f fd ps G :=
  FnOk.imp h fun vs H Q E ⟨hl, ro, ds, M, R, rs, Po⟩ => ⟨hl, ro, ds, M, R, rs, hG ro H E Q ds M R Po⟩
/-- its new changeable places are written out at its end -/
noncomputable def clF (F : FM) : FM := fun ds M => closeR M (F ds M)
theorem DOk.close {k : Nat} {f : Addr} {fd : FuncData} {ps : List Str} {F : FM} (h : DOk P w K mg base k f fd ps F) : DOk P w K mg base k f fd ps (clF F) := h.imp fun ro H E Q ds M R Po => Post.close R Po
/-- what fills up -/
abbrev DflK (K : PySem.W.Frag) (mg : Str → Option Value) (fd : FuncData) (ps : List Str) (dfl : List D) : Prop := ∃ (dvs : List V) (dV : List Value), Binds K fd ps dV ∧ Vals dvs dV ∧ ∀ ro H, Reps K mg ro H dfl dvs
theorem dflK_none {fd : FuncData} {ps : List Str} (h : Binds K fd ps []) : DflK K mg fd ps [] := ⟨[], [], h, .nil, fun _ _ => rfl⟩
theorem dflK_of {fd : FuncData} {ps : List Str} {dvs : List V} {dfl : List D} (h : ∃ ds, Vals dvs ds ∧ Binds K fd ps ds) (hd : ∀ ro H, Reps K mg ro H dfl dvs) : DflK K mg fd ps dfl := by
  obtain ⟨ds, h1, h2⟩ := h
  exact ⟨dvs, ds, h2, h1, hd⟩
end
end DL
namespace DL
open PySem PySem.Spec L2
open PyProof.Rows hiding St
variable [HashW]
section
variable {K : PySem.W.Frag} {mg : Str → Option Value}
theorem room65 {k : Nat} {A : Around} (r : Room k A) : A.units + 65 < cLine := by have := r.un; omega
abbrev KwBK (K : PySem.W.Frag) (mg : Str → Option Value) (fd : FuncData) (ps : List Str) (n : Nat) (ks : List Str) (gD : List D → List D → List D) : Prop :=
  ∃ (g : List Value → List Value → List Value) (gV : List V → List V → List V), KBn K fd ps n ks g gV ∧ ∀ ro H ds vs es zs, Reps K mg ro H ds vs → Reps K mg ro H es zs → Reps K mg ro H (gD ds es) (gV vs zs)
/-- no defaults: the positional ones, then the keywords' in their order -/
theorem kwB_plain {x qual : Str} {st : Stmt} {f : Addr} {fd : FuncData} {ps : List Str} (F : FnP K x qual st [] [] f fd) (n : Nat) (ks : List Str)
    (h : ∀ (kV doc pm : Value) (an : Option Addr) (cdv ct : Value) (us ws : List Value), us.length = n → ws.length = ks.length → bindArgs (PySem.W.fnOf x qual (defArgs st) (defBody st) (defScope st) .none kV doc pm an cdv ct) ⟨us, ks.zip ws⟩ = pure (ps.zip (us ++ ws))) : KwBK K mg fd ps n ks (· ++ ·) := by
  obtain ⟨oc, od, dV, kV, doc, pm, an, cdv, ct, osl, rfl, lk, hcd, hD, hK⟩ := F.ex
  rcases hD with ⟨_, rfl⟩ | ⟨e, _⟩
  · exact ⟨(· ++ ·), (· ++ ·), ⟨fun s us ws _ l1 l2 => .of_eq (h kV doc pm an cdv ct us ws l1 l2), fun r1 r2 => r1.append r2⟩, fun ro H ds vs es zs r1 r2 => r1.append r2⟩
  · exact absurd rfl e
theorem fnP_mk {x qual : Str} {st : Stmt} {f : Addr} {oc : Value} {od an : Option Addr} {osl : Array (Option Value)} {kV doc pm cdv ct : Value} (l : K.lookup f = some ⟨oc, od, .func (PySem.W.fnOf x qual (defArgs st) (defBody st) (defScope st) .none kV doc pm an cdv ct), osl⟩)
    (c : PySem.W.codeIn K cdv qual = true) (k : PySem.W.keepIn K (.ref f) = true) : FnP K x qual st [] [] f (PySem.W.fnOf x qual (defArgs st) (defBody st) (defScope st) .none kV doc pm an cdv ct) := ⟨⟨oc, od, .none, kV, doc, pm, an, cdv, ct, osl, rfl, l, c, .inl ⟨rfl, rfl⟩, .inl rfl⟩, k⟩
theorem fnP_mkD {x qual : Str} {st : Stmt} {f T : Addr} {o : Obj} {its : List Value} {n : Nat} {dvs : List V} {oc : Value} {od an : Option Addr} {osl : Array (Option Value)} {kV doc pm cdv ct : Value} (l : K.lookup f = some ⟨oc, od, .func (PySem.W.fnOf x qual (defArgs st) (defBody st) (defScope st) (.ref T) kV doc pm an cdv ct), osl⟩)
    (c : PySem.W.codeIn K cdv qual = true) (k : PySem.W.keepIn K (.ref f) = true) (hT : K.lookup T = some o) (hd : o.data = .seq its.toArray n) (hv : Vals dvs its) (hn : dvs ≠ []) : FnP K x qual st dvs [] f (PySem.W.fnOf x qual (defArgs st) (defBody st) (defScope st) (.ref T) kV doc pm an cdv ct) := ⟨⟨oc, od, .ref T, kV, doc, pm, an, cdv, ct, osl, rfl, l, c, .inr ⟨hn, T, o, its, n, rfl, hT, hd, hv⟩, .inl rfl⟩, k⟩
theorem de_gstr' {X : Cx} {W : WX} {pos : Pos} {x : Str} {s : String} (hm : ∃ t, X.mg x = some (.str (Str.ofString s) t)) (hg : Gl X x) (hd : (x == ("__debug__" : Str)) = false := by decide) : DE X W (.Name x pos) (constE (.str (sL s))) := by
  obtain ⟨t, hm⟩ := hm
  exact de_gstr hg hm hd
theorem de_gint' {X : Cx} {W : WX} {pos : Pos} {x : Str} {i : Int} (hm : ∃ t, X.mg x = some (.int i t)) (hg : Gl X x) (hd : (x == ("__debug__" : Str)) = false := by decide) : DE X W (.Name x pos) (constE (.int i)) := by
  obtain ⟨t, hm⟩ := hm
  exact de_gint hg hm hd
theorem reps_ints {ro : Pl} {H : Hp} : ∀ ns : List Int, Reps K mg ro H (ns.map D.int) (ns.map V.int)
  | [] => rfl
  | n :: ns => ⟨_, _, rfl, rfl, reps_ints ns⟩
end
end DL
namespace DL
open PySem PySem.Spec L2
open PyProof.Rows hiding St
variable [HashW]
theorem na_nil {K : PySem.W.Frag} {c : Addr} : ∀ f, f ∈ ([] : List String) → NoAttr K c (Str.ofString f) := fun f h => by cases h
theorem na_cons {K : PySem.W.Frag} {c : Addr} {a : String} {as : List String} (h : NoAttr K c (Str.ofString a)) (r : ∀ f, f ∈ as → NoAttr K c (Str.ofString f)) : ∀ f, f ∈ a :: as → NoAttr K c (Str.ofString f) := fun f hf => by
  rcases List.mem_cons.mp hf with e | hf
  · rw [e]; exact h
  · exact r f hf
theorem fs_nil {K : PySem.W.Frag} {mg : Str → Option Value} {a : String} : ∀ C, C ∈ ([] : List String) → ∃ c fs, CInfo K mg C c fs ∧ a ∈ fs := fun f h => by cases h
theorem fs_cons {K : PySem.W.Frag} {mg : Str → Option Value} {a B : String} {b : Addr} {fs : List String} {Cs : List String} (h : CInfo K mg B b fs) (m : a ∈ fs) (r : ∀ C, C ∈ Cs → ∃ c fs, CInfo K mg C c fs ∧ a ∈ fs) : ∀ C, C ∈ B :: Cs → ∃ c fs, CInfo K mg C c fs ∧ a ∈ fs := fun f hf => by
  rcases List.mem_cons.mp hf with e | hf
  · rw [e]; exact ⟨b, fs, h, m⟩
  · exact r f hf
end DL
namespace DL
open PySem PySem.Spec L2
open PyProof.Rows hiding St
variable [HashW]
section
variable {sd : SD} {M : MS} {a b : ME} {ta tb tc : MB} {sa sb : MST} {ms mk : MA} {f : D → D → MS → Res D} {d e : D} {ds es : List D}
def setK (sd : SD) (i : Nat) : D → MS → SRes := fun d M1 => .nx (sd.set i (some d)) M1
def exprK (sd : SD) : D → MS → SRes := fun _ M1 => .nx sd M1
def retK : D → MS → SRes := fun d M1 => .ret d M1
def ifK (sa sb : MST) (sd : SD) : Bool → MS → SRes := fun k M1 => if k = true then sa sd M1 else sb sd M1
def putK1 (mo mi : ME) (sd : SD) : D → MS → SRes := fun v M1 => SRes.ofE (mo sd M1) sd fun o M2 => SRes.ofE (mi sd M2) sd fun i M3 => match setItemD M3 o i v with
  | some M4 => .nx sd M4
  | none => .stuck
def putK2 (mi : ME) (sd : SD) (v : D) : D → MS → SRes := fun o M2 => SRes.ofE (mi sd M2) sd fun i M3 => match setItemD M3 o i v with
  | some M4 => .nx sd M4
  | none => .stuck
def putK3 (sd : SD) (v o : D) : D → MS → SRes := fun i M3 => match setItemD M3 o i v with
  | some M4 => .nx sd M4
  | none => .stuck
def augK1 (sd : SD) (i : Nat) (f : D → D → MS → Res D) (a : ME) : D → MS → SRes := fun x M1 => SRes.ofE (a sd M1) sd fun y M2 => SRes.ofE (f x y M2) sd fun d M3 => .nx (sd.set i (some d)) M3
def augK2 (sd : SD) (i : Nat) (f : D → D → MS → Res D) (x : D) : D → MS → SRes := fun y M2 => SRes.ofE (f x y M2) sd fun d M3 => .nx (sd.set i (some d)) M3
noncomputable def forK (g : MG) (sb : MST) (sd : SD) : ItD → MS → SRes := fun i M1 => forGo i.chk g sb i.ds sd M1
def binK (f : D → D → MS → Res D) (b : ME) (sd : SD) : D → MS → Res D := fun d M1 => (b sd M1).bind fun e M2 => f d e M2
def binK2 (f : D → D → MS → Res D) (d : D) : D → MS → Res D := fun e M2 => f d e M2
def andK (b : ME) (sd : SD) : D → MS → Res D := fun d M1 => match d with
  | .bl true => b sd M1
  | .bl false => .ok (.bl false) M1
  | _ => .stuck
def orK (b : ME) (sd : SD) : D → MS → Res D := fun d M1 => match d with
  | .bl true => .ok (.bl true) M1
  | .bl false => b sd M1
  | _ => .stuck
def notK : D → MS → Res D := fun d M1 => match d with
  | .bl c => .ok (.bl (!c)) M1
  | _ => .stuck
def ifEK (a b : ME) (sd : SD) : Bool → MS → Res D := fun k M1 => if k = true then a sd M1 else b sd M1
def valK : D → MS → Res Bool := fun d M1 => match d with
  | .bl c => .ok c M1
  | _ => .stuck
def truK : D → MS → Res Bool := fun d M1 => match truD M1 d with
  | some c => .ok c M1
  | none => .stuck
def andBK (tb : MB) (sd : SD) : Bool → MS → Res Bool := fun c M1 => if c = true then tb sd M1 else .ok false M1
def orBK (tb : MB) (sd : SD) : Bool → MS → Res Bool := fun c M1 => if c = true then .ok true M1 else tb sd M1
def notBK : Bool → MS → Res Bool := fun c M1 => .ok (!c) M1
def consK (ms : MA) (sd : SD) : D → MS → Res (List D) := fun d M1 => (ms sd M1).bind fun ds M2 => .ok (d :: ds) M2
def consK2 (d : D) : List D → MS → Res (List D) := fun ds M2 => .ok (d :: ds) M2
def tupK : List D → MS → Res D := fun ds M1 => if ds.length ≤ 1000000 then .ok (.tup ds) M1 else .stuck
def lstK : List D → MS → Res D := fun ds M1 => if ds.length ≤ 1000000 then .ok (.lst ds) M1 else .stuck
def celK : List D → MS → Res D := fun ds M1 => if ds.length ≤ 1000000 then .ok (.cell M1.length) (M1 ++ [.lst ds]) else .stuck
def callK (n : Nat) (F : FM) (g : List D → List D) : List D → MS → Res D := fun ds M1 => if (g ds).length = n then F (g ds) M1 else .stuck
def callKK (n np nk : Nat) (F : FM) (g : List D → List D → List D) (mk : MA) (sd : SD) : List D → MS → Res D := fun ds M1 => (mk sd M1).bind fun es M2 => if ds.length = np ∧ es.length = nk ∧ (g ds es).length = n then F (g ds es) M2 else .stuck
def callKK2 (n np nk : Nat) (F : FM) (g : List D → List D → List D) (ds : List D) : List D → MS → Res D := fun es M2 => if ds.length = np ∧ es.length = nk ∧ (g ds es).length = n then F (g ds es) M2 else .stuck
def bmK (T : String) (f : D → List D → MS → Res D) (ms : MA) (sd : SD) : D → MS → Res D := fun d M1 => if tyvD M1 T d = true then (ms sd M1).bind fun ds M2 => f d ds M2 else .stuck
def bmK2 (f : D → List D → MS → Res D) (d : D) : List D → MS → Res D := fun ds M2 => f d ds M2
def methK (C m : String) (n : Nat) (F : FM) (g : List D → List D) (ms : MA) (sd : SD) : D → MS → Res D := fun d M1 => if insOf M1 C m d = true then (ms sd M1).bind fun ds M2 => if (g (d :: ds)).length = n then F (g (d :: ds)) M2 else .stuck else .stuck
def methK2 (n : Nat) (F : FM) (g : List D → List D) (d : D) : List D → MS → Res D := fun ds M2 => if (g (d :: ds)).length = n then F (g (d :: ds)) M2 else .stuck
def itK : D → MS → Res ItD := fun d M1 => match itD M1 d with
  | some it => .ok it M1
  | none => .stuck
noncomputable def lcK (g : MG) (ta : MB) (a : ME) (vs : List Nat) (sd : SD) : ItD → MS → Res D := fun it M1 => (lcGo it.chk g ta a (wipeD sd vs) it.ds [] M1).ne.bind fun ds M2 => .ok (.lst ds) M2
noncomputable def lcCK (g : MG) (ta : MB) (a : ME) (vs : List Nat) (sd : SD) : ItD → MS → Res D := fun it M1 => (lcGo it.chk g ta a (wipeD sd vs) it.ds [] M1).ne.bind fun ds M2 => .ok (.cell M2.length) (M2 ++ [.lst ds])
def lstK' : List D → MS → Res D := fun ds M2 => .ok (.lst ds) M2
def celK' : List D → MS → Res D := fun ds M2 => .ok (.cell M2.length) (M2 ++ [.lst ds])
def r1K : List D → MS → Res ItD := fun ds M1 => match ds with
  | [.int j] => if -1000000000 ≤ j ∧ j ≤ 1000000000 then .ok (intsI (rangeN 0 j)) M1 else .stuck
  | _ => .stuck
def r2K : List D → MS → Res ItD := fun ds M1 => match ds with
  | [.int i, .int j] => if -1000000000 ≤ i ∧ i ≤ 1000000000 ∧ -1000000000 ≤ j ∧ j ≤ 1000000000 then .ok (intsI (rangeN i j)) M1 else .stuck
  | _ => .stuck
def r3K : List D → MS → Res ItD := fun ds M1 => match ds with
  | [.int i, .int j, .int c] => if -1000000000 ≤ i ∧ i ≤ 1000000000 ∧ -1000000000 ≤ j ∧ j ≤ 1000000000 ∧ 0 < c ∧ c ≤ 1000000000 then .ok (intsI (rangeC i j c)) M1 else .stuck
  | _ => .stuck
def sfK1 (cs : List String) (f : String) (mo : ME) (sd : SD) : D → MS → SRes := fun v M1 => SRes.ofE (mo sd M1) sd fun o M2 => match setFldD cs f M2 o v with
  | some M3 => .nx sd M3
  | none => .stuck
def sfK2 (cs : List String) (f : String) (sd : SD) (v : D) : D → MS → SRes := fun o M2 => match setFldD cs f M2 o v with
  | some M3 => .nx sd M3
  | none => .stuck
@[simp] theorem seqS_ap : seqS sa sb sd M = (sa sd M).seq sb := rfl
@[simp] theorem setS_ap {i : Nat} : setS i a sd M = SRes.ofE (a sd M) sd (setK sd i) := rfl
@[simp] theorem setK_ap {i : Nat} : setK sd i d M = .nx (sd.set i (some d)) M := rfl
@[simp] theorem exprS_ap : exprS a sd M = SRes.ofE (a sd M) sd (exprK sd) := rfl
@[simp] theorem exprK_ap : exprK sd d M = .nx sd M := rfl
@[simp] theorem retS_ap : retS a sd M = SRes.ofE (a sd M) sd retK := rfl
@[simp] theorem retK_ap : retK d M = .ret d M := rfl
@[simp] theorem passS_ap : passS sd M = .nx sd M := rfl
@[simp] theorem stuckS_ap : stuckS sd M = .stuck := rfl
@[simp] theorem ifS_ap : ifS tc sa sb sd M = SRes.ofE (tc sd M) sd (ifK sa sb sd) := rfl
@[simp] theorem ifK_t : ifK sa sb sd true M = sa sd M := rfl
@[simp] theorem ifK_f : ifK sa sb sd false M = sb sd M := rfl
@[simp] theorem putS_ap {mo mi m : ME} : putS mo mi m sd M = SRes.ofE (m sd M) sd (putK1 mo mi sd) := rfl
@[simp] theorem putK1_ap {mo mi : ME} : putK1 mo mi sd d M = SRes.ofE (mo sd M) sd (putK2 mi sd d) := rfl
@[simp] theorem putK2_ap {mi : ME} : putK2 mi sd d e M = SRes.ofE (mi sd M) sd (putK3 sd d e) := rfl
@[simp] theorem augS_ap {i : Nat} : augS i f a sd M = SRes.ofE (nameE i sd M) sd (augK1 sd i f a) := rfl
@[simp] theorem augK1_ap {i : Nat} : augK1 sd i f a d M = SRes.ofE (a sd M) sd (augK2 sd i f d) := rfl
@[simp] theorem augK2_ap {i : Nat} : augK2 sd i f d e M = SRes.ofE (f d e M) sd (setK sd i) := rfl
@[simp] theorem forS_ap {it : MI} {g : MG} : forS it g sb sd M = SRes.ofE (it sd M) sd (forK g sb sd) := rfl
@[simp] theorem forK_ap {g : MG} {i : ItD} : forK g sb sd i M = forGo i.chk g sb i.ds sd M := rfl
@[simp] theorem SRes.res_nx : (SRes.nx sd M).res = .ok .non M := rfl
@[simp] theorem SRes.res_ret : (SRes.ret d M).res = .ok d M := rfl
@[simp] theorem SRes.res_exc {C : String} {ns : List String} : (SRes.exc C ns ds sd M).res = .exc C ns ds M := rfl
@[simp] theorem nameE_0 {o : D} {r : SD} : nameE 0 (some o :: r) M = .ok o M := rfl
@[simp] theorem nameE_s {i : Nat} {o : Option D} {r : SD} : nameE (i + 1) (o :: r) M = nameE i r M := by unfold nameE; simp
@[simp] theorem constE_ap : constE d sd M = .ok d M := rfl
@[simp] theorem binE_ap : binE f a b sd M = (a sd M).bind (binK f b sd) := rfl
@[simp] theorem binK_ap : binK f b sd d M = (b sd M).bind (binK2 f d) := rfl
@[simp] theorem binK2_ap : binK2 f d e M = f d e M := rfl
@[simp] theorem unE_ap {h : D → MS → Res D} : unE h a sd M = (a sd M).bind h := rfl
@[simp] theorem andE_ap : andE a b sd M = (a sd M).bind (andK b sd) := rfl
@[simp] theorem andK_t : andK b sd (.bl true) M = b sd M := rfl
@[simp] theorem andK_f : andK b sd (.bl false) M = .ok (.bl false) M := rfl
@[simp] theorem orE_ap : orE a b sd M = (a sd M).bind (orK b sd) := rfl
@[simp] theorem orK_t : orK b sd (.bl true) M = .ok (.bl true) M := rfl
@[simp] theorem orK_f : orK b sd (.bl false) M = b sd M := rfl
@[simp] theorem notE_ap : notE a sd M = (a sd M).bind notK := rfl
@[simp] theorem notK_ap {c : Bool} : notK (.bl c) M = .ok (.bl (!c)) M := rfl
@[simp] theorem ifE_ap : ifE tc a b sd M = (tc sd M).bind (ifEK a b sd) := rfl
@[simp] theorem ifEK_t : ifEK a b sd true M = a sd M := rfl
@[simp] theorem ifEK_f : ifEK a b sd false M = b sd M := rfl
@[simp] theorem valB_ap : valB a sd M = (a sd M).bind valK := rfl
@[simp] theorem valK_ap {c : Bool} : valK (.bl c) M = .ok c M := rfl
@[simp] theorem truB_ap : truB a sd M = (a sd M).bind truK := rfl
@[simp] theorem truK_bl {c : Bool} : truK (.bl c) M = .ok c M := rfl
@[simp] theorem truK_non : truK .non M = .ok false M := rfl
@[simp] theorem truK_int {i : Int} : truK (.int i) M = .ok (i != 0) M := rfl
@[simp] theorem truK_lst : truK (.lst ds) M = .ok (!ds.isEmpty) M := rfl
@[simp] theorem truK_flst : truK (.flst ds) M = .ok (!ds.isEmpty) M := rfl
@[simp] theorem truK_tup : truK (.tup ds) M = .ok (!ds.isEmpty) M := rfl
@[simp] theorem andB_ap : andB ta tb sd M = (ta sd M).bind (andBK tb sd) := rfl
@[simp] theorem andBK_t : andBK tb sd true M = tb sd M := rfl
@[simp] theorem andBK_f : andBK tb sd false M = .ok false M := rfl
@[simp] theorem orB_ap : orB ta tb sd M = (ta sd M).bind (orBK tb sd) := rfl
@[simp] theorem orBK_t : orBK tb sd true M = .ok true M := rfl
@[simp] theorem orBK_f : orBK tb sd false M = tb sd M := rfl
@[simp] theorem notB_ap : notB ta sd M = (ta sd M).bind notBK := rfl
@[simp] theorem notBK_ap {c : Bool} : notBK c M = .ok (!c) M := rfl
@[simp] theorem yesB_ap : yesB sd M = .ok true M := rfl
@[simp] theorem nilA_ap : nilA sd M = .ok [] M := rfl
@[simp] theorem consA_ap : consA a ms sd M = (a sd M).bind (consK ms sd) := rfl
@[simp] theorem consK_ap : consK ms sd d M = (ms sd M).bind (consK2 d) := rfl
@[simp] theorem consK2_ap : consK2 d ds M = .ok (d :: ds) M := rfl
@[simp] theorem tupE_ap : tupE ms sd M = (ms sd M).bind tupK := rfl
theorem tupK_ap (h : ds.length ≤ 1000000) : tupK ds M = .ok (.tup ds) M := if_pos h
@[simp] theorem lstE_ap : lstE ms sd M = (ms sd M).bind lstK := rfl
theorem lstK_ap (h : ds.length ≤ 1000000) : lstK ds M = .ok (.lst ds) M := if_pos h
@[simp] theorem celE_ap : celE ms sd M = (ms sd M).bind celK := rfl
theorem celK_ap (h : ds.length ≤ 1000000) : celK ds M = .ok (.cell M.length) (M ++ [.lst ds]) := if_pos h
@[simp] theorem appE_ap {h : List D → MS → Res D} : appE h ms sd M = (ms sd M).bind h := rfl
@[simp] theorem callE_ap {n : Nat} {F : FM} {g : List D → List D} : callE n F g ms sd M = (ms sd M).bind (callK n F g) := rfl
theorem callK_ap {n : Nat} {F : FM} {g : List D → List D} (h : (g ds).length = n) : callK n F g ds M = F (g ds) M := if_pos h
@[simp] theorem callKE_ap {n np nk : Nat} {F : FM} {g : List D → List D → List D} : callKE n np nk F g ms mk sd M = (ms sd M).bind (callKK n np nk F g mk sd) := rfl
@[simp] theorem callKK_ap {n np nk : Nat} {F : FM} {g : List D → List D → List D} : callKK n np nk F g mk sd ds M = (mk sd M).bind (callKK2 n np nk F g ds) := rfl
theorem callKK2_ap {n np nk : Nat} {F : FM} {g : List D → List D → List D} (h : ds.length = np ∧ es.length = nk ∧ (g ds es).length = n) : callKK2 n np nk F g ds es M = F (g ds es) M := if_pos h
@[simp] theorem bmE_ap {T : String} {h : D → List D → MS → Res D} : bmE T h a ms sd M = (a sd M).bind (bmK T h ms sd) := rfl
theorem bmK_ap {T : String} {h : D → List D → MS → Res D} (ht : tyvD M T d = true) : bmK T h ms sd d M = (ms sd M).bind (bmK2 h d) := if_pos ht
@[simp] theorem bmK2_ap {h : D → List D → MS → Res D} : bmK2 h d ds M = h d ds M := rfl
@[simp] theorem methE_ap {C m : String} {n : Nat} {F : FM} {g : List D → List D} : methE C m n F g a ms sd M = (a sd M).bind (methK C m n F g ms sd) := rfl
theorem methK_ap {C m : String} {n : Nat} {F : FM} {g : List D → List D} (h : insOf M C m d = true) : methK C m n F g ms sd d M = (ms sd M).bind (methK2 n F g d) := if_pos h
theorem methK2_ap {n : Nat} {F : FM} {g : List D → List D} (h : (g (d :: ds)).length = n) : methK2 n F g d ds M = F (g (d :: ds)) M := if_pos h
@[simp] theorem anyI_ap : anyI a sd M = (a sd M).bind itK := rfl
@[simp] theorem itK_str {x : List Nat} : itK (.str x) M = .ok ⟨x.map fun c => .str [c], fun _ => True⟩ M := rfl
@[simp] theorem itK_tup : itK (.tup ds) M = .ok ⟨ds, fun _ => True⟩ M := rfl
@[simp] theorem itK_lst : itK (.lst ds) M = .ok ⟨ds, fun _ => True⟩ M := rfl
@[simp] theorem itK_flst : itK (.flst ds) M = .ok ⟨ds, fun _ => True⟩ M := rfl
@[simp] theorem lcE_ap {mi : MI} {g : MG} {vs : List Nat} : lcE mi g ta a vs sd M = (mi sd M).bind (lcK g ta a vs sd) := rfl
@[simp] theorem lcK_ap {g : MG} {vs : List Nat} {it : ItD} : lcK g ta a vs sd it M = (lcGo it.chk g ta a (wipeD sd vs) it.ds [] M).ne.bind lstK' := rfl
@[simp] theorem lstK'_ap : lstK' ds M = .ok (.lst ds) M := rfl
@[simp] theorem lcC_ap {mi : MI} {g : MG} {vs : List Nat} : lcC mi g ta a vs sd M = (mi sd M).bind (lcCK g ta a vs sd) := rfl
@[simp] theorem lcCK_ap {g : MG} {vs : List Nat} {it : ItD} : lcCK g ta a vs sd it M = (lcGo it.chk g ta a (wipeD sd vs) it.ds [] M).ne.bind celK' := rfl
@[simp] theorem celK'_ap : celK' ds M = .ok (.cell M.length) (M ++ [.lst ds]) := rfl
@[simp] theorem range1I_ap : range1I ms sd M = (ms sd M).bind r1K := rfl
theorem r1K_ap {j : Int} (h : -1000000000 ≤ j ∧ j ≤ 1000000000) : r1K [.int j] M = .ok (intsI (rangeN 0 j)) M := if_pos h
@[simp] theorem range2I_ap : range2I ms sd M = (ms sd M).bind r2K := rfl
@[simp] theorem range3I_ap : range3I ms sd M = (ms sd M).bind r3K := rfl
/-- values -/
@[simp] theorem addD_int {i j : Int} : addD (.int i) (.int j) M = .ok (.int (i + j)) M := rfl
theorem addD_str {x y : List Nat} (h : x.length + y.length ≤ 1000000) : addD (.str x) (.str y) M = .ok (.str (x ++ y)) M := if_pos h
@[simp] theorem subI_int {i j : Int} : subI (.int i) (.int j) M = .ok (.int (i - j)) M := rfl
theorem mulD_int {i j : Int} (h : (-(2 ^ 64) < i ∧ i < 2 ^ 64) ∨ (-(2 ^ 64) < j ∧ j < 2 ^ 64)) : mulD (.int i) (.int j) M = .ok (.int (i * j)) M := if_pos h
theorem fdivI_int {i j : Int} (h : 0 < j ∧ j < 1073741824) : fdivI (.int i) (.int j) M = .ok (.int (i / j)) M := if_pos h
theorem modI_int {i j : Int} (h : 0 < j) : modI (.int i) (.int j) M = .ok (.int (i % j)) M := if_pos h
theorem powI_int {i j : Int} (h : 0 ≤ j ∧ j ≤ 1000000 ∧ i.natAbs < 2 ^ 64) : powI (.int i) (.int j) M = .ok (.int (i ^ j.toNat)) M := if_pos h
@[simp] theorem negI_int {i : Int} : negI (.int i) M = .ok (.int (-i)) M := rfl
@[simp] theorem ltD_int {i j : Int} : ltD (.int i) (.int j) M = .ok (.bl (decide (i < j))) M := rfl
@[simp] theorem leD_int {i j : Int} : leD (.int i) (.int j) M = .ok (.bl (decide (i ≤ j))) M := rfl
@[simp] theorem gtD_int {i j : Int} : gtD (.int i) (.int j) M = .ok (.bl (decide (j < i))) M := rfl
@[simp] theorem geD_int {i j : Int} : geD (.int i) (.int j) M = .ok (.bl (decide (j ≤ i))) M := rfl
@[simp] theorem ltD_str {x y : List Nat} : ltD (.str x) (.str y) M = .ok (.bl (decide (x < y))) M := rfl
@[simp] theorem leD_str {x y : List Nat} : leD (.str x) (.str y) M = .ok (.bl (!decide (y < x))) M := rfl
@[simp] theorem eqD_int {n : Bool} {i j : Int} : eqD n (.int i) (.int j) M = .ok (.bl ((i == j) != n)) M := rfl
@[simp] theorem eqD_str {n : Bool} {x y : List Nat} : eqD n (.str x) (.str y) M = .ok (.bl ((x == y) != n)) M := rfl
@[simp] theorem eqD_bl {n : Bool} {x y : Bool} : eqD n (.bl x) (.bl y) M = .ok (.bl ((x == y) != n)) M := rfl
@[simp] theorem inD_str {n : Bool} {x y : List Nat} : inD n (.str x) (.str y) M = .ok (.bl (subIn x y != n)) M := rfl
theorem ixD_str {x : List Nat} {k : Int} {c : Nat} (h : x.length ≤ 1000000) (e : L2.atI x k = some c) : ixD (.str x) (.int k) M = .ok (.str [c]) M := by unfold ixD; simp [h, e]
theorem ixD_lst {k : Int} (e : L2.atI ds k = some d) : ixD (.lst ds) (.int k) M = .ok d M := by unfold ixD; simp [seqOf, e]
theorem ixD_flst {k : Int} (e : L2.atI ds k = some d) : ixD (.flst ds) (.int k) M = .ok d M := by unfold ixD; simp [seqOf, e]
theorem ixD_cell {n : Nat} {k : Int} (hm : M[n]? = some (.lst ds)) (e : L2.atI ds k = some d) : ixD (.cell n) (.int k) M = .ok d M := by unfold ixD; simp [seqOf, hm, e]
theorem ixN_nat {n j : Nat} (h : j < n) : ixN n (j : Int) = some j := by
  unfold ixN
  rw [if_pos (by omega), if_pos (by omega)]
  simp
theorem atI_of {α : Type} {l : List α} {j : Nat} {x : α} (h : l[j]? = some x) : L2.atI l (j : Int) = some x := by
  unfold L2.atI
  rw [ixN_nat (List.getElem?_eq_some_iff.mp h).1]
  exact h
@[simp] theorem lenF_flst : lenF [.flst ds] M = .ok (.int ds.length) M := rfl
@[simp] theorem lenF_lst : lenF [.lst ds] M = .ok (.int ds.length) M := rfl
@[simp] theorem lenF_tup : lenF [.tup ds] M = .ok (.int ds.length) M := rfl
theorem lenF_str {x : List Nat} (h : x.length ≤ 1000000) : lenF [.str x] M = .ok (.int x.length) M := if_pos h
@[simp] theorem max2F_int {i j : Int} : max2F [.int i, .int j] M = .ok (.int (if j > i then j else i)) M := rfl
@[simp] theorem min2F_int {i j : Int} : min2F [.int i, .int j] M = .ok (.int (if j < i then j else i)) M := rfl
@[simp] theorem absF_int {i : Int} : absF [.int i] M = .ok (.int (if i < 0 then -i else i)) M := rfl
@[simp] theorem intF_int {i : Int} : intF [.int i] M = .ok (.int i) M := rfl
@[simp] theorem intF_bl {i : Bool} : intF [.bl i] M = .ok (.int (if i then 1 else 0)) M := rfl
@[simp] theorem boolF_int {i : Int} : boolF [.int i] M = .ok (.bl (i != 0)) M := rfl
@[simp] theorem boolF_bl {i : Bool} : boolF [.bl i] M = .ok (.bl i) M := rfl
theorem joinF_lst {x : List Nat} {xs : List (List Nat)} (h : (xs.map List.length).sum + xs.length * x.length ≤ 1000000) : joinF (.str x) [.lst (xs.map D.str)] M = .ok (.str (TL.joinL x xs)) M := by unfold joinF; simp [seqOf, h]
@[simp] theorem setFldS_ap {cs : List String} {g : String} {mo m : ME} : setFldS cs g mo m sd M = SRes.ofE (m sd M) sd (sfK1 cs g mo sd) := rfl
@[simp] theorem sfK1_ap {cs : List String} {g : String} {mo : ME} : sfK1 cs g mo sd d M = SRes.ofE (mo sd M) sd (sfK2 cs g sd d) := rfl
theorem sfK2_cell {cs : List String} {g C : String} {ns : List String} {n : Nat} (hm : M[n]? = some (.obj C ns ds)) (hc : C ∈ cs ∧ ns.length < 900 ∧ ns.length = ds.length) : sfK2 cs g sd d (.cell n) M = .nx sd (M.set n (.obj C (putN ns ds g d).1 (putN ns ds g d).2)) := by
  unfold sfK2 setFldD; simp only [hm, if_pos hc]
theorem fldD_obj {cs : List String} {g C : String} {ns : List String} (hC : C ∈ cs) (h : lookF ns ds g = some d) : fldD cs g (.obj C ns ds) M = .ok d M := by unfold fldD; simp [hC, h]
theorem fldD_cell {cs : List String} {g C : String} {ns : List String} {n : Nat} (hm : M[n]? = some (.obj C ns ds)) (hC : C ∈ cs) (h : lookF ns ds g = some d) : fldD cs g (.cell n) M = .ok d M := by unfold fldD; simp [hm, hC, h]
theorem inO_obj {C : String} {F : FM} {neg b : Bool} {ns : List String} {M' : MS} (h : F [.obj C ns ds, d] M = .ok (.bl b) M') : inO C F neg d (.obj C ns ds) M = .ok (.bl (b != neg)) M' := by unfold inO isIns; simp [h]
theorem joinL_nil : ∀ xs : List (List Nat), TL.joinL [] xs = xs.flatten
  | [] => rfl
  | [x] => by simp [TL.joinL]
  | x :: y :: r => by
    have := joinL_nil (y :: r)
    simp only [TL.joinL, List.nil_append, List.flatten_cons] at *
    rw [this]
end
section
variable {sd : SD} {M : MS} {sa : MST}
theorem runD_ap {n : Nat} {ds : List D} : runD n sa ds M = (sa (startD n ds) M).res := rfl
end
open Classical in
/-- a for whose turns all go on -/
theorem forGo_go {chk : MS → Prop} {g : MG} {body : MST} (I : Nat → SD → MS → Prop) : ∀ (ds : List D) (k : Nat) (sd : SD) (M : MS), I k sd M →
    (∀ i d sd M, ds[i]? = some d → I (k + i) sd M → chk M ∧ ∃ sd1, g d sd = some sd1 ∧ ∃ sd2 M2, (body sd1 M = .nx sd2 M2 ∨ body sd1 M = .ct sd2 M2) ∧ I (k + i + 1) sd2 M2) → (∀ sd M, I (k + ds.length) sd M → chk M) →
    ∃ sd' M', forGo chk g body ds sd M = .nx sd' M' ∧ I (k + ds.length) sd' M'
  | [], k, sd, M, h, _, hc => ⟨sd, M, by unfold forGo; rw [if_pos (hc sd M h)], h⟩
  | d :: ds, k, sd, M, h, ht, hc => by
    obtain ⟨c, sd1, e1, sd2, M2, e2, h2⟩ := ht 0 d sd M rfl h
    have h2 : I (k + 1) sd2 M2 := h2
    have el : k + (d :: ds).length = k + 1 + ds.length := by simp; omega
    obtain ⟨sd', M', e3, h3⟩ := forGo_go I ds (k + 1) sd2 M2 h2 (fun i d' sd M hi hI => by
      have := ht (i + 1) d' sd M (by simpa using hi) (by rw [show k + (i + 1) = k + 1 + i from by omega]; exact hI)
      rw [show k + (i + 1) = k + 1 + i from by omega] at this
      exact this) (fun sd M hI => hc sd M (by rw [el]; exact hI))
    refine ⟨sd', M', ?_, by rw [el]; exact h3⟩
    unfold forGo
    rw [if_pos c, e1]
    rcases e2 with e2 | e2
    · simp only [e2]; exact e3
    · simp only [e2]; exact e3
theorem subIn_one (c : Nat) (y : List Nat) : subIn [c] y = decide (c ∈ y) := by
  have := StrLaws.found_one (tx y) c
  simpa [subIn] using this
theorem mkT_of {C : String} {F : FM} {ds : List D} {M : MS} {ns : List String} {es : List D} (h : F (.cell M.length :: ds) (M ++ [.obj C [] []]) = .ok .non (M ++ [.obj C ns es])) (hn : ncs M.length es = true) : mkT C F ds M = .ok (.obj C ns es) M := by
  unfold mkT mkD
  rw [h]
  simp only [Res.bind_ok]
  unfold closeR
  simp [clo, hn]
theorem get_rangeN {lo hi : Int} {i : Nat} {d : D} (h : (intsI (rangeN lo hi)).ds[i]? = some d) : d = .int (lo + i) ∧ lo + i < hi := by
  simp only [intsI, rangeN, List.getElem?_map] at h
  by_cases hi' : i < (hi - lo).toNat
  · rw [List.getElem?_range hi'] at h
    simp at h
    exact ⟨h.symm, by omega⟩
  · rw [List.getElem?_eq_none (by simp; omega)] at h
    simp at h
theorem len_rangeN {lo hi : Int} : (intsI (rangeN lo hi)).ds.length = (hi - lo).toNat := by simp [intsI, rangeN]
end DL
namespace DL
open PySem PySem.Spec L2
open PyProof.Rows hiding St
end DL
namespace DL
open PySem PySem.Spec L2
open PyProof.Rows hiding St
variable [HashW]
section
variable {X : Cx}
/-- the type of a value is looked up -/
theorem ty_looks {pins : List (Addr × Obj)} {st : St} {H : Hp} {s : Shared} {ro : Pl} {M : MS} (I : Inv X pins st H s) (R : RelS X.K X.mg ro M H) {d : D} {v : V} {u : Value} (rv : RelV v u) (r : Rep X.K X.mg ro H d v) {a : TN} (h : tnD M d = some a) :
    ∃ t, TNv X.mg a t ∧ PySem.W.Looks (model X.prog X.w) s.heap (typeOf u) t := by
  have ld : ∀ {x : Addr} {o : Obj} {c : Value}, s.heap.get? x = some o → o.cls = c → PySem.W.Looks (model X.prog X.w) s.heap (typeOf (.ref x)) c := fun {x o c} e hc A Q E s' k q => wpAny_typeOf_ref (k _ _ e) (by rw [hc]; exact q)
  have ins : ∀ {C : String} {x c dx : Addr} {gs : List (Str × V)}, X.mg (Str.ofString C) = some (.ref c) → H x = some (.ins c dx gs) → ∃ t, TNv X.mg (.c C) t ∧ PySem.W.Looks (model X.prog X.w) s.heap (typeOf (.ref x)) t := fun {C x c dx gs} g hH => by
    obtain ⟨mA, J, _⟩ := ins_get I.hok hH
    obtain ⟨od, J, _⟩ := J.look
    exact ⟨_, ⟨c, g, rfl⟩, J.type⟩
  have lsts : ∀ {x : Addr} {vs : List V}, SqL X.K H x vs → ∃ t, TNv X.mg (.b "list") t ∧ PySem.W.Looks (model X.prog X.w) s.heap (typeOf (.ref x)) t := fun {x vs} q => by
    obtain ⟨its, _, ⟨o, n, e, hc, _, _⟩, _⟩ := I.list q
    exact ⟨_, rfl, ld e hc⟩
  have dics : ∀ {x : Addr} {kvs : List (Key × V)}, H x = some (.dK kvs) → ∃ t, TNv X.mg (.b "dict") t ∧ PySem.W.Looks (model X.prog X.w) s.heap (typeOf (.ref x)) t := fun {x kvs} q => by
    obtain ⟨_, _, _, _, o, es, ep, h1, h2, _⟩ := (show ObjOk X.prog X.w H s.heap x (.dK kvs) from I.hok x _ q)
    exact ⟨_, rfl, ld h1 h2.1⟩
  cases d with
  | non => cases h; cases (show v = V.non from r); cases (show u = Value.none from rv); exact ⟨_, rfl, .of_pure rfl⟩
  | bl b => cases h; cases (show v = V.bl b from r); cases (show u = Value.bool b from rv); exact ⟨_, rfl, .of_pure rfl⟩
  | int i => cases h; cases (show v = V.int i from r); obtain ⟨t, e⟩ := (show ∃ t, u = Value.int i t from rv); cases e; exact ⟨_, rfl, .of_pure rfl⟩
  | str x => cases h; cases (show v = V.str (tx x) from r); obtain ⟨t, e⟩ := (show ∃ t, u = Value.str (tx x) t from rv); cases e; exact ⟨_, rfl, .of_pure rfl⟩
  | tup ds =>
    cases h
    obtain ⟨p, vs, rfl, q, rs⟩ := r
    cases (show u = Value.ref p from rv)
    obtain ⟨its, _, ⟨o, e, hc, _⟩, _⟩ := I.tuple q.sq
    exact ⟨_, rfl, ld e hc⟩
  | lst ds =>
    cases h
    obtain ⟨p, vs, rfl, q, _, rs⟩ := r
    cases (show u = Value.ref p from rv)
    exact lsts (SqL.of q)
  | flst ds =>
    cases h
    obtain ⟨p, vs, rfl, q, rs⟩ := r
    cases (show u = Value.ref p from rv)
    exact lsts q.sq
  | dic ks ds =>
    obtain ⟨p, kl, vs, rfl, g, l, q, _, rs⟩ := r
    obtain ⟨rfl, k, rfl⟩ := dicT_k h g
    cases (show u = Value.ref p from rv)
    exact dics q
  | obj C ns ds =>
    cases h
    obtain ⟨p, c, dx, vs, rfl, g, q, _, l, rs⟩ := r
    cases (show u = Value.ref p from rv)
    exact ins g q
  | cell k =>
    have h : (match M[k]? with | some (.lst _) => some (TN.b "list") | some (.dic _ _) => some (.b "dict") | some (.obj C _ _) => some (.c C) | some (.tab ..) => none | none => none) = some a := h
    cases hm : M[k]? with
    | none => rw [hm] at h; cases h
    | some mo =>
      rw [hm] at h
      obtain ⟨p, ho, rfl, _, hH, m⟩ := R.cellAt r hm
      cases (show u = Value.ref p from rv)
      cases mo with
      | lst ds => cases h; obtain ⟨vs, rfl, _⟩ := m; exact lsts (SqL.of hH)
      | dic ks ds => cases h; obtain ⟨kl, vs, rfl, _⟩ := m; exact dics hH
      | obj C ns ds => cases h; obtain ⟨c, dx, vs, rfl, g, _⟩ := m; exact ins g hH
      | tab i C m => cases h
  | _ => cases h
variable {k : Nat} {f c : Addr} {fd : FuncData} {ps : List Str} {F : FM}
/-- an own method's run, no exception -/
theorem own_run {A : Around} {pins : List (Addr × Obj)} {st : St} {H : Hp} {s : Shared} {Q : VK} {us : List Value} {vs : List V} {ro : Pl} {ds : List D} {M : MS} (hF : DOk X.prog X.w X.K X.mg X.base k f fd ps F) (hA : A.frames = X.A.frames) (hr : Room k A) (hb : Binds X.K fd ps [])
    (I : Inv X pins st H s) (r : Vals vs us) (R : RelS X.K X.mg ro M H) (rs : Reps X.K X.mg ro H ds vs) (hl : ds.length = ps.length) (P : PostD X.K X.mg (fun _ _ _ => False) ro H Q (F ds M).ne) : wpAny (model X.prog X.w) A (call (.ref f) us) (EP X pins st Q) X.xe s :=
  run_DA (W := W0) (args := ⟨us, []⟩) (us := us) hF hA hr takes0 (by
    have := hb s us I.kIn (by rw [List.append_nil, ← r.length, ← rs.len]; exact hl)
    simpa using this) I r R rs hl (Post.noE P)
def ownR (x : Res D) (p : D → Bool) : Res D := x.ne.bind fun r M1 => if p r = true then .ok r M1 else .stuck
theorem ownR_post {K : PySem.W.Frag} {mg : Str → Option Value} {E : XK} {ro : Pl} {H : Hp} {Q : VK} {x : Res D} {p : D → Bool} (P : PostD K mg E ro H Q (ownR x p)) :
    PostD K mg (fun _ _ _ => False) ro H (fun z H' => ∃ ro' M' r, RelS K mg ro' M' H' ∧ Pres ro H ro' H' ∧ Rep K mg ro' H' r z ∧ p r = true ∧ Q z H') x.ne := by
  cases x with
  | stuck => exact P.elim
  | exc C ns es M' => exact P.elim
  | ok r M' =>
    unfold ownR at P
    rw [Res.ne_ok, Res.bind_ok] at P
    intro ro' H' z R' P' rz
    split at P
    · rename_i hp
      exact ⟨ro', M', r, R', P', rz, hp, P ro' H' z R' P' rz⟩
    · exact P.elim
theorem ownR_noE {K : PySem.W.Frag} {mg : Str → Option Value} {E E' : XK} {ro : Pl} {H : Hp} {Q : VK} {x : Res D} {p : D → Bool} (P : PostD K mg E ro H Q (ownR x p)) : PostD K mg E' ro H Q (ownR x p) := by
  cases x with
  | stuck => exact P.elim
  | exc C ns es M' => exact P.elim
  | ok r M' =>
    unfold ownR at P ⊢
    rw [Res.ne_ok, Res.bind_ok] at P ⊢
    by_cases hp : p r = true
    · rw [if_pos hp] at P ⊢; exact P
    · rw [if_neg hp] at P; exact P.elim
/-- a op b: the class's own def -/
def binO (C : String) (F : FM) (d e : D) (M : MS) : Res D := if isIns M C d = true ∧ isIns M C e = true then ownR (F [d, e] M) (fun _ => true) else .stuck
theorem opS_binO {C : String} {op : Operator} {nm : Str} (hnm : PySem.dunder op.info.2 = nm) (hc : X.mg (Str.ofString C) = some (.ref c)) (sf : PySem.W.selfFirst X.K c = true) (hs : PySem.W.findIn X.K (.ref c) nm = some (some (.ref f))) (hf : PySem.W.isFn X.K (.ref f) = true)
    (hb : Binds X.K fd ps []) (hF : DOk X.prog X.w X.K X.mg X.base k f fd ps F) (hr : Room k X.A) (hps : ps.length = 2 := by rfl) : OpS X (binaryOp op) (binO C F) := by
  refine ⟨fun x y H Q => ∃ ro M d e, RelS X.K X.mg ro M H ∧ Rep X.K X.mg ro H d x ∧ Rep X.K X.mg ro H e y ∧ PostD X.K X.mg (fun _ _ _ => False) ro H Q (binO C F d e M), ?_, fun ro H M d e x y E Q R rx ry P => ⟨ro, M, d, e, R, rx, ry, ?_⟩⟩
  · rintro pins s σ H x y v u Q I rx ry ⟨ro, M, d, e, R, qx, qy, P⟩
    unfold binO at P
    split at P
    · rename_i hi
      obtain ⟨a, c', dx, gs, rfl, hmg, hH⟩ := ins_is R qx hi.1
      rw [hc] at hmg; cases hmg
      obtain ⟨b, c', dy, gs', rfl, hmg', hH'⟩ := ins_is R qy hi.2
      rw [hc] at hmg'; cases hmg'
      obtain rfl : v = Value.ref a := rx
      obtain rfl : u = Value.ref b := ry
      obtain ⟨mA, J, _⟩ := ins_get I.hok hH
      obtain ⟨od, J, _⟩ := J.look
      obtain ⟨mB, J', _⟩ := ins_get I.hok hH'
      obtain ⟨od', J', _⟩ := J'.look
      obtain ⟨m, hFr⟩ := I.fr
      refine PySem.W.binop_K hFr I.ok.mod.kin J J'.type sf (by rw [hnm]; exact hs) hf ?_
      refine wpAny_mono (own_run (us := [.ref a, .ref b]) (vs := [.ref a, .ref b]) (ds := [d, e]) hF rfl hr hb I (.cons rfl (.cons rfl .nil)) R ⟨_, _, rfl, qx, Reps.one qy⟩ (by rw [hps]; rfl) (ownR_post P)) (fun w s' ⟨z, H', I', rz, _, _, _, _, _, _, _, q⟩ => ?_) fun _ _ x => x
      exact SlX.cmpback rz ⟨z, H', I', rz, q⟩
    · exact P.elim
  · unfold binO at P ⊢
    split at P
    · rename_i hi; rw [if_pos hi]; exact ownR_noE P
    · exact P.elim
/-- what stands right of an own == : of its class, or of a type that is not below it -/
structure EqRight (K : PySem.W.Frag) (mg : Str → Option Value) (C : String) (c : Addr) (okE : TN → Bool) : Prop where
  ok : ∀ a, okE a = true → ∀ t, TNv mg a t → PySem.W.notFirst K c t = true
def isTN (M : MS) (okE : TN → Bool) (e : D) : Bool := match tnD M e with
  | some a => okE a
  | none => false
/-- a == b: the class's own def -/
def eqO (C : String) (okE : TN → Bool) (F : FM) (d e : D) (M : MS) : Res D := if isIns M C d = true ∧ isTN M okE e = true then ownR (F [d, e] M) (fun _ => true) else .stuck
theorem opS_eqO {C : String} {okE : TN → Bool} (hc : X.mg (Str.ofString C) = some (.ref c)) (he : EqRight X.K X.mg C c okE) (hs : PySem.W.findIn X.K (.ref c) "__eq__" = some (some (.ref f))) (hf : PySem.W.isFn X.K (.ref f) = true)
    (hb : Binds X.K fd ps []) (hF : DOk X.prog X.w X.K X.mg X.base k f fd ps F) (hr : Room k X.A) (hps : ps.length = 2 := by rfl) : OpS X (compareOp .Eq) (eqO C okE F) := by
  refine ⟨fun x y H Q => ∃ ro M d e, RelS X.K X.mg ro M H ∧ Rep X.K X.mg ro H d x ∧ Rep X.K X.mg ro H e y ∧ PostD X.K X.mg (fun _ _ _ => False) ro H Q (eqO C okE F d e M), ?_, fun ro H M d e x y E Q R rx ry P => ⟨ro, M, d, e, R, rx, ry, ?_⟩⟩
  · rintro pins s σ H x y v u Q I rx ry ⟨ro, M, d, e, R, qx, qy, P⟩
    unfold eqO at P
    split at P
    · rename_i hi
      obtain ⟨a, c', dx, gs, rfl, hmg, hH⟩ := ins_is R qx hi.1
      rw [hc] at hmg; cases hmg
      obtain rfl : v = Value.ref a := rx
      obtain ⟨mA, J, _⟩ := ins_get I.hok hH
      obtain ⟨od, J, _⟩ := J.look
      obtain ⟨m, hFr⟩ := I.fr
      have hi2 := hi.2
      unfold isTN at hi2
      split at hi2
      · rename_i tn ht
        obtain ⟨t, tv, lk⟩ := ty_looks I R ry qy ht
        refine PySem.W.cmp_K (op := .Eq) (tb := t) hr.units0 hFr I.ok.mod.kin J lk (he.ok _ hi2 t tv) hs hf ?_
        refine wpAny_mono (own_run (us := [.ref a, u]) (vs := [.ref a, y]) (ds := [d, e]) hF rfl hr hb I (.cons rfl (.cons ry .nil)) R ⟨_, _, rfl, qx, Reps.one qy⟩ (by rw [hps]; rfl) (ownR_post P)) (fun w s' ⟨z, H', I', rz, _, _, _, _, _, _, _, q⟩ => ?_) fun _ _ x => x
        exact SlX.cmpback rz ⟨z, H', I', rz, q⟩
      · cases hi2
    · exact P.elim
  · unfold eqO at P ⊢
    split at P
    · rename_i hi; rw [if_pos hi]; exact ownR_noE P
    · exact P.elim
end
end DL
namespace DL
open PySem PySem.Spec L2
open PyProof.Rows hiding St
variable [HashW]
section
variable {X : Cx} {k : Nat} {f c : Addr} {fd : FuncData} {ps : List Str} {F : FM}
def isStrD : D → Bool
  | .str _ => true
  | _ => false
def call1O (C : String) (F : FM) (p : D → Bool) (ds : List D) (M : MS) : Res D := match ds with
  | [d] => if isIns M C d = true then ownR (F [d] M) p else .stuck
  | _ => .stuck
theorem callS_1O {C : String} {fv : Value} {nm : Str} {p : D → Bool} (hc : X.mg (Str.ofString C) = some (.ref c)) (hs : PySem.W.findIn X.K (.ref c) nm = some (some (.ref f))) (hf : PySem.W.isFn X.K (.ref f) = true)
    (rule : ∀ (pins : List (Addr × Obj)) (s : Shared) (σ : St) (H : Hp) (a : Addr) (od : Option Obj) (ox : Obj) (Q : VK), Inv X pins σ H s → PySem.W.InstAt s.heap a ox c od →
      (∀ A' : Around, A'.frames = X.A.frames → Room k A' → wpAny (model X.prog X.w) A' (call (.ref f) [.ref a]) (EP X pins σ fun z H' => ∃ ro' M' r, RelS X.K X.mg ro' M' H' ∧ Rep X.K X.mg ro' H' r z ∧ p r = true ∧ Q z H') X.xe s) → wpAny (model X.prog X.w) X.A (call fv [.ref a]) (EP X pins σ Q) X.xe s)
    (hb : Binds X.K fd ps []) (hF : DOk X.prog X.w X.K X.mg X.base k f fd ps F) (hps : ps.length = 1 := by rfl) : CallS X fv (call1O C F p) := by
  refine ⟨fun xs H Q => ∃ ro M ds, RelS X.K X.mg ro M H ∧ Reps X.K X.mg ro H ds xs ∧ PostD X.K X.mg (fun _ _ _ => False) ro H Q (call1O C F p ds M), ?_, fun ro H M ds xs E Q R rs P => ⟨ro, M, ds, R, rs, ?_⟩⟩
  · rintro pins s σ H xs us Q I rv ⟨ro, M, ds, R, rs, P⟩
    unfold call1O at P
    split at P
    · rename_i d
      obtain ⟨x, rfl, qx⟩ := reps1 rs
      obtain ⟨u, rfl, ru⟩ := vals1 rv
      split at P
      · rename_i hi
        obtain ⟨a, c', dx, gs, rfl, hmg, hH⟩ := ins_is R qx hi
        rw [hc] at hmg; cases hmg
        obtain rfl : u = Value.ref a := ru
        obtain ⟨mA, J, _⟩ := ins_get I.hok hH
        obtain ⟨od, J, _⟩ := J.look
        refine rule pins s σ H a _ _ Q I J fun A' hA' hr' => ?_
        exact wpAny_mono (own_run (A := A') (us := [.ref a]) (vs := [.ref a]) (ds := [d]) hF hA' hr' hb I (.cons rfl .nil) R (Reps.one qx) (by rw [hps]; rfl) (ownR_post P)) (fun w s' ⟨z, H', I', rz, ro', M', r, R', _, rr, hp, q⟩ => ⟨z, H', I', rz, ro', M', r, R', rr, hp, q⟩) fun _ _ x => x
      · exact P.elim
    · exact P.elim
  · unfold call1O at P ⊢
    split at P
    · split at P
      · rename_i hi; simp only [hi, if_true]; exact ownR_noE P
      · exact P.elim
    · exact P.elim
theorem callS_strO {C : String} (hc : X.mg (Str.ofString C) = some (.ref c)) (hs : PySem.W.findIn X.K (.ref c) "__str__" = some (some (.ref f))) (hf : PySem.W.isFn X.K (.ref f) = true)
    (hb : Binds X.K fd ps []) (hF : DOk X.prog X.w X.K X.mg X.base k f fd ps F) (hr : Room (k + 2) X.A) (hps : ps.length = 1 := by rfl) : CallS X (.type "str") (call1O C F isStrD) :=
  callS_1O hc hs hf (fun pins s σ H a od ox Q I J h => by
    have hr2 : Room k X.A.in1.in1 := (show Room (k + 1) X.A.in1 from hr.in1).in1
    refine PySem.W.kso_call hr2.units0 I.kIn J hs hf (wpAny_mono (h X.A.in1.in1 rfl hr2) (fun w s' ⟨z, H', I', rz, ro', M', r, R', rr, hp, q⟩ => ?_) fun _ _ x => x)
    cases r with
    | str y =>
      cases (show z = V.str (tx y) from rr)
      obtain ⟨t, e⟩ := (show ∃ t, w = Value.str (tx y) t from rz)
      cases e
      exact ⟨_, H', I', rz, q⟩
    | _ => cases hp) hb hF hps
/-- truth of an instance by its __bool__ -/
def truO (C : String) (F : FM) (d : D) (M : MS) : Res Bool := if isIns M C d = true then (F [d] M).ne.bind fun r M1 => match r with
  | .bl b => .ok b M1
  | _ => .stuck else .stuck
def truOB (C : String) (F : FM) (a : ME) : MB := fun sd M => (a sd M).bind fun d M1 => truO C F d M1
end
end DL
namespace DL
open PySem PySem.Spec L2
open PyProof.Rows hiding St
variable [HashW]
section
variable {X : Cx} {k : Nat} {f c : Addr} {fd : FuncData} {ps : List Str} {F : FM}
def notTE (t : MB) : ME := fun sd M => (t sd M).bind fun b M1 => .ok (.bl (!b)) M1
def cutL {α : Type} (xs : List α) (lo hi : Option Int) : List α := (xs.drop (HT.sIx xs.length 0 lo)).take (HT.sIx xs.length xs.length hi - HT.sIx xs.length 0 lo)
abbrev MO' := SD → MS → Res (Option Int)
def noO : MO' := fun _ M => .ok none M
def soO (m : ME) : MO' := fun sd M => (m sd M).bind fun d M1 => match d with
  | .int i => .ok (some i) M1
  | _ => .stuck
structure DO (X : Cx) (W : WX) (e : Option Expr) (m : MO') : Prop where
  po : PO X e (fun st H Q => ∃ ro sd M, RelS X.K X.mg ro M H ∧ RepSt X.K X.mg ro H sd st ∧ Post (fun _ _ (o : Option Int) c => c = o) X.K X.mg (fun c d H' => W c d st H') ro H Q (m sd M))
theorem do_none {W : WX} : DO X W none noO := by
  refine ⟨⟨fun pins s st H Q I q => po_none.run pins s st H Q I ?_⟩⟩
  obtain ⟨ro, sd, M, R, S, P⟩ := q
  exact P ro H none R (Pres.refl _ _) rfl
theorem do_some {W : WX} {e : Expr} {m : ME} (h : DE X W e m) : DO X W (some e) (soO m) := by
  refine ⟨⟨fun pins s st H Q I q => (po_some h.pe).run pins s st H Q I ?_⟩⟩
  obtain ⟨ro, sd, M, R, S, P⟩ := q
  refine ⟨ro, sd, M, R, S, (Post.bind P).imp fun x H1 ⟨ro1, M1, d, R1, P1, r1, q1⟩ => ?_⟩
  cases d with
  | int i => cases (show x = V.int i from r1); exact ⟨i, rfl, q1 ro1 H1 _ R1 (Pres.refl _ _) rfl⟩
  | _ => exact q1.elim
def sliceD (d : D) (lo hi : Option Int) (M : MS) : Res D := match d with
  | .str x => if x.length ≤ 1000000 then .ok (.str (cutL x lo hi)) M else .stuck
  | .tup ds => .ok (.tup (cutL ds lo hi)) M
  | d => match seqOf M d with
    | some ds => .ok (.lst (cutL ds lo hi)) M
    | none => .stuck
def slE (mo : ME) (lo hi : MO') : ME := fun sd M => (mo sd M).bind fun d M1 => (lo sd M1).bind fun l M2 => (hi sd M2).bind fun h M3 => sliceD d l h M3
theorem Reps.cut {K : PySem.W.Frag} {mg : Str → Option Value} {ro : Pl} {H : Hp} {ds : List D} {vs : List V} (h : Reps K mg ro H ds vs) (lo hi : Option Int) : Reps K mg ro H (cutL ds lo hi) (cutV vs lo hi) := by
  unfold cutL cutV
  rw [h.len]
  exact (h.drop _).take _
theorem cutS_tx (x : List Nat) (lo hi : Option Int) : cutS (tx x) lo hi = tx (cutL x lo hi) := by
  unfold cutS cutL
  simp [Str.length]
theorem seq_list {K : PySem.W.Frag} {mg : Str → Option Value} {ro : Pl} {H : Hp} {M : MS} (R : RelS K mg ro M H) {d : D} {x : V} {ds : List D} (r : Rep K mg ro H d x) (e : seqOf M d = some ds) (hn : isTup d = false) : ∃ a vs, x = .ref a ∧ SqL K H a vs ∧ Reps K mg ro H ds vs := by
  cases d with
  | lst es => cases (show some es = some ds from e); obtain ⟨a, vs, rfl, h, _, q⟩ := r; exact ⟨a, vs, rfl, SqL.of h, q⟩
  | flst es => cases (show some es = some ds from e); obtain ⟨a, vs, rfl, h, q⟩ := r; exact ⟨a, vs, rfl, h.sq, q⟩
  | tup es => cases hn
  | cell n =>
    obtain ⟨a, vs, rfl, h, q⟩ := lst_of R r e
    exact ⟨a, vs, rfl, SqL.of h, q⟩
  | _ => cases e
theorem de_sl {W : WX} {e : Expr} {lo hi : Option Expr} {mo : ME} {ml mh : MO'} {pos p2 : Pos} (he : DE X W e mo) (hl : DO X W lo ml) (hh : DO X W hi mh) : DE X W (.Subscript e (.Slice lo hi none p2) pos) (slE mo ml mh) := by
  refine ⟨⟨fun pins s st H Q I q => (pe_slice (SlR.or sl_list (SlR.or sl_tupA sl_str)) he.pe hl.po hh.po).run pins s st H Q I ?_⟩⟩
  obtain ⟨ro, sd, M, R, S, P⟩ := q
  refine ⟨ro, sd, M, R, S, (Post.bind P).imp fun x H1 ⟨ro1, M1, d, R1, P1, r1, q1⟩ => ?_⟩
  refine ⟨ro1, sd, M1, R1, S.mono P1, (Post.bind (R := fun _ _ (o : Option Int) c => c = o) q1).imp fun l H2 ⟨ro2, M2, l', R2, P2, r2, q2⟩ => ?_⟩
  subst r2
  refine ⟨ro2, sd, M2, R2, (S.mono P1).mono P2, (Post.bind (R := fun _ _ (o : Option Int) c => c = o) q2).imp fun h H3 ⟨ro3, M3, h', R3, P3, r3, q3⟩ => ?_⟩
  subst r3
  have rx := Rep.mono P3 _ _ (Rep.mono P2 _ _ r1)
  have fin : ∀ ds, seqOf M3 d = some ds → isTup d = false → PostD X.K X.mg (fun c d H' => W c d st H') ro3 H3 Q (.ok (.lst (cutL ds l h)) M3) → rSlL X.K x l h H3 Q := fun ds hs ht P' => by
    obtain ⟨a, vs, rfl, q, rs⟩ := seq_list R3 rx hs ht
    exact ⟨a, vs, rfl, q, PostD.newL R3 (rs.cut l h) P'⟩
  cases d with
  | str z =>
    have q3 : PostD X.K X.mg (fun c d H' => W c d st H') ro3 H3 Q (if z.length ≤ 1000000 then .ok (.str (cutL z l h)) M3 else .stuck) := q3
    cases (show x = V.str (tx z) from rx)
    split at q3
    · rename_i hz
      exact .inr (.inr ⟨tx z, rfl, by simp only [Str.length, List.size_toArray]; exact line_le hz, by rw [cutS_tx]; exact PostD.pure (d := .str (cutL z l h)) R3 rfl q3⟩)
    · exact q3.elim
  | tup ds =>
    have q3 : PostD X.K X.mg (fun c d H' => W c d st H') ro3 H3 Q (.ok (.tup (cutL ds l h)) M3) := q3
    obtain ⟨a, vs, rfl, q, rs⟩ := id rx
    refine .inr (.inl ⟨a, vs, rfl, q.sq, fun hw => ?_, fun _ => PostD.newT R3 (rs.cut l h) q3⟩)
    have e : cutL ds l h = ds := by
      unfold cutL
      rw [rs.len, hw.1, hw.2, List.drop_zero, Nat.sub_zero, ← rs.len, List.take_length]
    rw [e] at q3
    exact PostD.pure R3 rx q3
  | lst ds => exact .inl (fin ds rfl rfl q3)
  | flst ds => exact .inl (fin ds rfl rfl q3)
  | cell n =>
    have q3 : PostD X.K X.mg (fun c d H' => W c d st H') ro3 H3 Q (match seqOf M3 (.cell n) with | some ds => .ok (.lst (cutL ds l h)) M3 | none => .stuck) := q3
    cases hs : seqOf M3 (.cell n) with
    | none => rw [hs] at q3; exact q3.elim
    | some ds => rw [hs] at q3; exact .inl (fin ds hs rfl q3)
  | _ => exact q3.elim
def listF (ds : List D) (M : MS) : Res D := match ds with
  | [d] => (match seqOf M d with
    | some es => .ok (.lst es) M
    | none => .stuck)
  | _ => .stuck
def strSF (ds : List D) (M : MS) : Res D := match ds with
  | [.str x] => .ok (.str x) M
  | _ => .stuck
theorem callS_list : CallS X (.type "list") listF := by
  refine ⟨_, call_list_of, fun ro H M ds xs E Q R rs P => ?_⟩
  unfold listF at P
  split at P
  · split at P
    · rename_i es he
      obtain ⟨v, rfl, rv⟩ := reps1 rs
      obtain ⟨a, vs, rfl, q, qs⟩ := seq_of R rv he
      exact ⟨a, vs, rfl, q, PostD.newL R qs P⟩
    · exact P.elim
  · exact P.elim
theorem callS_strS : CallS X (.type "str") strSF := by
  refine ⟨_, SkE.call_str_str, fun ro H M ds xs E Q R rs P => ?_⟩
  unfold strSF at P
  split at P
  · obtain ⟨v, rfl, rv⟩ := reps1 rs
    cases (show v = V.str _ from rv)
    exact ⟨_, rfl, PostD.pure (d := .str _) R rfl P⟩
  · exact P.elim
theorem CallS.or {fv : Value} {f g : List D → MS → Res D} (hf : CallS X fv f) (hg : CallS X fv g) (h : List D → MS → Bool) : CallS X fv (fun ds M => if h ds M = true then f ds M else g ds M) := by
  obtain ⟨r, h1, h2⟩ := hf
  obtain ⟨r', h1', h2'⟩ := hg
  refine ⟨_, CallR.or h1 h1', fun ro H M ds xs E Q R rs P => ?_⟩
  dsimp only at P
  by_cases hc : h ds M = true
  · rw [if_pos hc] at P; exact .inl (h2 ro H M ds xs E Q R rs P)
  · rw [if_neg hc] at P; exact .inr (h2' ro H M ds xs E Q R rs P)
structure DGs (X : Cx) (ts : List Expr) (is : List Nat) : Prop where
  pgs : PGs X ts (fun vs st H Q => ∃ ro M sd ds, RelS X.K X.mg ro M H ∧ RepSt X.K X.mg ro H sd st ∧ Reps X.K X.mg ro H ds vs ∧ ∃ sd', setAll is ds sd = some sd' ∧ ∀ st', RepSt X.K X.mg ro H sd' st' → (∀ ws : List Nat, (∀ i, i ∈ is → i ∈ ws) → wipe st' ws = wipe st ws) → Q st' H)
theorem dgs_nil : DGs X [] [] := by
  refine ⟨⟨fun pins s st H vs us Q I r q => pgs_nil.run pins s st H vs us Q I r ?_⟩⟩
  obtain ⟨ro, M, sd, ds, R, S, rs, sd', e, q⟩ := q
  cases ds with
  | nil => cases (show vs = [] from rs); cases e; exact ⟨rfl, q st S fun _ _ => rfl⟩
  | cons d ds => cases e
theorem dgs_cons {i : Nat} {is : List Nat} {x : Str} {pos : Pos} {es : List Expr} (hr : DGs X es is) (hN : X.N.Nodup) (hi : X.N[i]? = some x := by rfl) (hx : Loc X.env.scope x := by first | exact Or.inl rfl | exact Or.inr rfl)
    (hf : X.fn x = true ∨ X.env.scope.names.lookup x = some .local := by first | exact .inl rfl | exact .inr rfl | assumption) (hs : (assignEach (.Name x pos :: es) X.env).map (·.2) = assign (.Name x pos) X.env :: (assignEach es X.env).map (·.2) := by rfl) : DGs X (.Name x pos :: es) (i :: is) := by
  refine ⟨⟨fun pins s st H vs us Q I r q => (pgs_cons (pg_name hN hi hx hf) hr.pgs hs).run pins s st H vs us Q I r ?_⟩⟩
  obtain ⟨ro, M, sd, ds, R, S, rs, sd', e, q⟩ := q
  cases ds with
  | nil => cases e
  | cons d ds =>
    obtain ⟨v, w, rfl, rd, rt⟩ := rs
    refine ⟨v, w, rfl, ro, M, sd.set i (some d), ds, R, S.set rd, rt, sd', e, fun st' S' hw => q st' S' fun ws h => ?_⟩
    rw [hw ws (fun j hj => h j (List.mem_cons_of_mem _ hj))]
    exact wipe_set st (h i List.mem_cons_self)
theorem dg_tup {es : List Expr} {is : List Nat} {kk : Nat} {pos : Pos} (hc : X.calm = true) (h : DGs X es is) (hn : (assignEach es X.env).length = is.length := by rfl) (hst : (assignEach es X.env).findIdx? (·.1) = none := by rfl) : DG X (.Tuple es kk pos) (tupG is) is := by
  refine ⟨⟨fun pins s st H v u Q I r q => (pg_tup (n := is.length) hc h.pgs hn hst).run pins s st H v u Q I r ?_⟩⟩
  obtain ⟨ro, sd, M, d, R, S, rd, sd', e, q⟩ := q
  cases d with
  | tup ds =>
    obtain ⟨a, vs, rfl, hq, rs⟩ := rd
    have hl : ∀ (is : List Nat) (ds : List D) (sd : SD) {sd' : SD}, setAll is ds sd = some sd' → ds.length = is.length := by
      intro is
      induction is with
      | nil => intro ds sd sd' h; cases ds with | nil => rfl | cons _ _ => cases h
      | cons i is ih => intro ds sd sd' h; cases ds with | nil => cases h | cons d ds => simpa using ih ds _ h
    exact ⟨a, vs, rfl, hq.sq, by rw [← rs.len]; exact hl is ds sd e, ro, M, sd, ds, R, S, rs, sd', e, q⟩
  | _ => cases e
def unpS (g : MG) (m : ME) : MST := fun sd M => SRes.ofE (m sd M) sd fun d M1 => match g d sd with
  | some sd' => .nx sd' M1
  | none => .stuck
theorem ds_unp {W : WX} {tg e : Expr} {g : MG} {ix : List Nat} {m : ME} {pos : Pos} (he : DE X W e m) (hg : DG X tg g ix) (hs : swapsWithSole [tg] e pos.line X.env = pure false := by rfl) (hw : swappedStores [tg] e X.env = pure none := by rfl)
    (h1 : (assignEach [tg] X.env).map (·.2) = [assign tg X.env] := by rfl) : DS X W (.Assign [tg] e pos) (unpS g m) := by
  refine ⟨⟨fun pins s st H D0 I q => (ps_asg he.pe hg.pg hs hw h1).run pins s st H D0 I ?_⟩⟩
  obtain ⟨ro, sd, M, R, S, P⟩ := q
  refine ⟨ro, sd, M, R, S, (PostS.ofE P S).imp fun x H1 ⟨ro1, M1, d, R1, P1, r1, q1⟩ => ?_⟩
  split at q1
  · rename_i sd' e
    exact ⟨ro1, sd, M1, d, R1, S.mono P1, r1, sd', e, fun st' S' _ => q1 ro1 H1 _ R1 (Pres.refl _ _) S'⟩
  · exact q1.elim
def enumD : Nat → List D → List D
  | _, [] => []
  | i, d :: r => .tup [.int (i : Int), d] :: enumD (i + 1) r
theorem enumD_get : ∀ (ds : List D) (i j : Nat) (d : D), (enumD i ds)[j]? = some d → ∃ x, ds[j]? = some x ∧ d = .tup [.int ((i + j : Nat) : Int), x]
  | [], i, j, d, h => by simp [enumD] at h
  | x :: r, i, 0, d, h => by simp [enumD] at h; exact ⟨x, rfl, h.symm⟩
  | x :: r, i, j + 1, d, h => by
    simp [enumD] at h
    obtain ⟨y, hy, e⟩ := enumD_get r (i + 1) j d h
    exact ⟨y, by simpa using hy, by rw [e]; congr 3; omega⟩
theorem enumD_len : ∀ (ds : List D) (i : Nat), (enumD i ds).length = ds.length
  | [], _ => rfl
  | x :: r, i => by simp [enumD, enumD_len r]
def lchk (M : MS) (d : D) : MS → Prop := fun M' => seqOf M' d = seqOf M d
end
end DL
namespace DL
open PySem PySem.Spec L2
open PyProof.Rows hiding St
variable [HashW]
section
variable {X : Cx} {W : WX}
/-- an own class whose __init__ is ValueError's -/
structure BaseX (K : PySem.W.Frag) (B : Addr) : Prop where
  rd : PySem.W.readsIn K B (.type "type") = true
  ga : PySem.W.specialIn K (.ref B) "__getattribute__" = some (some (.builtin "type.__getattribute__"))
  vV : PySem.W.findCls K (.ref B) (.type "type") "__init__" = some (.val (.builtin "ValueError.__init__"))
end
/-- what of the text an own exception class is -/
structure ExC (K : PySem.W.Frag) (mg : Str → Option Value) (C : String) (c fI : Addr) (fs : List String) : Prop where
  mgC : mg (Str.ofString C) = some (.ref c)
  ox : OexC K c
  ini : PySem.W.findIn K (.ref c) "__init__" = some (some (.ref fI))
  ity : PySem.W.typeIn K (.ref fI) = some (.type "function")
  no : ∀ f, f ∈ fs → PySem.W.findIn K (.ref c) (Str.ofString f) = some none
end DL
namespace DL
open PySem PySem.Spec L2
open PyProof.Rows hiding St
variable [HashW]
section
variable {K : PySem.W.Frag} {mg : Str → Option Value}
/-- what may stand right of C's == -/
def okE (C : String) (bs : List String) : TN → Bool
  | .c C' => decide (C' = C)
  | .b n => decide (n ∈ bs)
theorem eqRight_of {C : String} {c : Addr} {bs : List String} (hm : mg (Str.ofString C) = some (.ref c)) (hb : ∀ n, n ∈ bs → PySem.W.subIn K (.type n) (.ref c) = some false) : EqRight K mg C c (okE C bs) := ⟨fun a h t ht => by
  cases a with
  | c C' =>
    have e : C' = C := of_decide_eq_true h
    subst e
    obtain ⟨c', hc, rfl⟩ := ht
    rw [hm] at hc; cases hc
    simp [PySem.W.notFirst]
  | b n =>
    have e : n ∈ bs := of_decide_eq_true h
    cases (show t = .type n from ht)
    simp [PySem.W.notFirst, hb n e]⟩
theorem nb_nil {c : Addr} : ∀ n, n ∈ ([] : List String) → PySem.W.subIn K (.type n) (.ref c) = some false := fun n h => by cases h
/-- isinstance by a table -/
def tnEq : TN → TN → Bool
  | .b a, .b b => decide (a = b)
  | .c a, .c b => decide (a = b)
  | _, _ => false
theorem tnEq_eq {a b : TN} (h : tnEq a b = true) : a = b := by
  cases a <;> cases b <;> first | cases h | (rw [of_decide_eq_true h])
def tblL : List (TN × TN × Bool) → TN → TN → Option Bool
  | [], .b a, .b n => kitB a n
  | [], _, _ => none
  | (x, y, k) :: r, a, b => if (tnEq x a && tnEq y b) = true then some k else tblL r a b
theorem tblL_nil : TblOk K mg (tblL []) := ⟨fun a b k h => by
  cases a <;> cases b <;> try cases h
  exact ⟨_, rfl, fun t ht => by cases ht; exact kit_ty h⟩⟩
theorem tblL_cons {x y : TN} {k : Bool} {l : List (TN × TN × Bool)} {u t : Value} (hu : TNv mg y u) (ht : ∀ t', TNv mg x t' → t' = t) (h : PySem.W.kitOne K t u = some k) (r : TblOk K mg (tblL l)) : TblOk K mg (tblL ((x, y, k) :: l)) := ⟨fun a b k' e => by
  unfold tblL at e
  split at e
  · rename_i hc
    cases e
    obtain ⟨h1, h2⟩ := Bool.and_eq_true_iff.mp hc
    have e1 := tnEq_eq h1
    have e2 := tnEq_eq h2
    subst e1 e2
    exact ⟨u, hu, fun t' q => by rw [ht t' q]; exact h⟩
  · exact r.ok a b k' e⟩
theorem tn_c {C : String} {c : Addr} (hm : mg (Str.ofString C) = some (.ref c)) : TNv mg (.c C) (.ref c) ∧ ∀ t, TNv mg (.c C) t → t = .ref c := ⟨⟨c, hm, rfl⟩, fun t ⟨c', h, e⟩ => by rw [hm] at h; cases h; exact e⟩
theorem isC_nil : ∀ C c, C ∈ ([] : List String) → mg (Str.ofString C) = some (.ref c) → IsC K c := fun C c h => by cases h
theorem isC_cons {B : String} {b : Addr} {Bs : List String} (hm : mg (Str.ofString B) = some (.ref b)) (i : IsC K b) (r : ∀ C c, C ∈ Bs → mg (Str.ofString C) = some (.ref c) → IsC K c) : ∀ C c, C ∈ B :: Bs → mg (Str.ofString C) = some (.ref c) → IsC K c := fun C c h hc => by
  rcases List.mem_cons.mp h with e | h
  · subst e
    rw [hm] at hc; cases hc
    exact i
  · exact r C c h hc
theorem oexC_mk {C : Addr} {nm q : Str} {N : Addr} {bs bm : List Value} {sn : List Str} {sub : List Value} {ab : Bool} {col : Option Bool} {dd : Option Addr} {k0 k1 k2 k3 k5 : Option Value} (l : K.lookup C = some (excClassObj nm q C N bs bm true sn sub ab col dd k0 k1 k2 k3 k5 "ValueError.__new__")) (r : PySem.HandSPX.refsVE bm = true)
    (sa : PySem.W.findIn K (.ref C) "__setattr__" = some (some (.builtin "object.__setattr__"))) (ex : PySem.W.subIn K (.ref C) (.type "BaseException") = some true) (ty : PySem.W.typeIn K (.ref C) = some (.type "type")) (kc : PySem.W.keepIn K (.ref C) = true) : OexC K C :=
  ⟨⟨nm, q, N, bs, bm, sn, sub, ab, col, dd, k0, k1, k2, k3, k5, l, r⟩, sa, ex, ty, kc⟩
end
theorem dok_stuck {P : Program} {w : World} {K : PySem.W.Frag} {mg : Str → Option Value} {base : Heap} {k : Nat} {f : Addr} {fd : FuncData} {ps : List Str} : DOk P w K mg base k f fd ps (fun _ _ => .stuck) :=
  ⟨fun vs H Q E h => h.1, fun A outer s H args us vs Q E hr he hb hv h => by
    obtain ⟨_, _, _, _, _, _, z⟩ := h
    exact z.elim⟩
end DL
namespace DL
open PySem PySem.Spec L2
open PyProof.Rows hiding St
variable [HashW]
def fmtE (m : ME) : ME := fun sd M => (m sd M).bind fun d M1 => match d with
  | .str x => if x.length ≤ 1000000 then .ok (.str x) M1 else .stuck
  | .int i => if i.natAbs.log2 < 1900 then .ok (.str ((toString i : Str).cps.toList)) M1 else .stuck
  | _ => .stuck
def jGo : List ME → List Nat → ME
  | [], acc => fun _ M => .ok (.str acc) M
  | m :: ms, acc => fun sd M => (m sd M).bind fun d M1 => match d with
    | .str y => if acc.length + y.length ≤ 1000000 then jGo ms (acc ++ y) sd M1 else .stuck
    | _ => .stuck
def fstrE (ms : List ME) : ME := jGo ms []
inductive DJ (X : Cx) (W : WX) : List Expr → List ME → Prop where
  | nil : DJ X W [] []
  | cons {e : Expr} {m : ME} {es : List Expr} {ms : List ME} (h : DE X W e m) (r : DJ X W es ms) : DJ X W (e :: es) (m :: ms)
section
variable {X : Cx} {W : WX}
theorem de_fmt {e : Expr} {m : ME} {pos : Pos} (he : DE X W e m) : DE X W (.FormattedValue e (-1) none pos) (fmtE m) := by
  refine ⟨⟨fun pins s st H Q I q => (pe_fmt he.pe).run pins s st H Q I ?_⟩⟩
  obtain ⟨ro, sd, M, R, S, P⟩ := q
  refine ⟨ro, sd, M, R, S, (Post.bind P).imp fun x H1 ⟨ro1, M1, d, R1, P1, r1, q1⟩ => ?_⟩
  cases d with
  | str y =>
    have q1 : PostD X.K X.mg (fun c d H' => W c d st H') ro1 H1 Q (if y.length ≤ 1000000 then .ok (.str y) M1 else .stuck) := q1
    cases (show x = V.str (tx y) from r1)
    split at q1
    · rename_i hl
      exact .inl ⟨tx y, rfl, by simp only [Str.length, List.size_toArray]; exact line_le hl, PostD.pure (d := .str y) R1 rfl q1⟩
    · exact q1.elim
  | int i =>
    have q1 : PostD X.K X.mg (fun c d H' => W c d st H') ro1 H1 Q (if i.natAbs.log2 < 1900 then .ok (.str ((toString i : Str).cps.toList)) M1 else .stuck) := q1
    cases (show x = V.int i from r1)
    split at q1
    · rename_i hl
      exact .inr ⟨i, rfl, by omega, PostD.pure (d := .str ((toString i : Str).cps.toList)) R1 (by show V.str _ = V.str (tx _); simp [tx]) q1⟩
    · exact q1.elim
  | _ => exact q1.elim
theorem dj_pj : ∀ {es : List Expr} {ms : List ME}, DJ X W es ms → PJ X es (ms.map fun m => liftE X.K X.mg W m)
  | _, _, .nil => .nil
  | _, _, .cons h r => .cons h.pe (dj_pj r)
theorem tJs_of : ∀ {ms : List ME} {acc : List Nat} {st : St} {H : Hp} {Q : VK}, liftE X.K X.mg W (jGo ms acc) st H Q → tJs (ms.map fun m => liftE X.K X.mg W m) (tx acc) st H (fun out H1 => Q (.str out) H1)
  | [], acc, st, H, Q, ⟨ro, sd, M, R, S, P⟩ => PostD.pure (d := .str acc) R rfl P
  | m :: ms, acc, st, H, Q, ⟨ro, sd, M, R, S, P⟩ => by
    refine ⟨ro, sd, M, R, S, (Post.bind P).imp fun x H1 ⟨ro1, M1, d, R1, P1, r1, q1⟩ => ?_⟩
    cases d with
    | str y =>
      have q1 : PostD X.K X.mg (fun c d H' => W c d st H') ro1 H1 Q (if acc.length + y.length ≤ 1000000 then jGo ms (acc ++ y) sd M1 else .stuck) := q1
      cases (show x = V.str (tx y) from r1)
      split at q1
      · rename_i hl
        refine ⟨tx y, rfl, ?_, ?_⟩
        · rw [Str.tx_append]
          simp only [Str.length, List.size_toArray, List.length_append]
          exact line_le hl
        · rw [Str.tx_append]
          exact tJs_of ⟨ro1, sd, M1, R1, S.mono P1, q1⟩
      · exact q1.elim
    | _ => exact q1.elim
theorem de_fstr {v1 v2 : Expr} {rest : List Expr} {ms : List ME} {pos : Pos} (h : DJ X W (v1 :: v2 :: rest) ms) : DE X W (.JoinedStr (v1 :: v2 :: rest) pos) (fstrE ms) :=
  ⟨⟨fun pins s st H Q I q => (pe_joined (dj_pj h)).run pins s st H Q I (tJs_of q)⟩⟩
end
end DL
namespace DL
open PySem PySem.Spec L2
open PyProof.Rows hiding St
end DL
namespace DL
open PySem PySem.Spec L2
open PyProof.Rows hiding St
variable [HashW]
section
variable {K : PySem.W.Frag}
theorem kitCls_own {t : Value} {C : Addr} {b : Bool} (h1 : PySem.W.isClsIn K C = true) (h2 : PySem.W.typeIn K (.ref C) = some (.type "type")) (h3 : PySem.W.subIn K t (.ref C) = some b) : PySem.W.kitCls K t (.ref C) = some b := by
  unfold PySem.W.kitCls
  unfold PySem.W.isClsIn at h1
  simp [h1, h2, h3]
theorem kit_own {t : Value} {C : Addr} {b : Bool} (h0 : (t == Value.ref C) = false ∨ b = true) (h1 : PySem.W.isClsIn K C = true) (h2 : PySem.W.typeIn K (.ref C) = some (.type "type")) (h3 : PySem.W.subIn K t (.ref C) = some b) : PySem.W.kitOne K t (.ref C) = some b := by
  unfold PySem.W.kitOne
  rcases h0 with h0 | rfl
  · rw [h0]; exact kitCls_own h1 h2 h3
  · split
    · rfl
    · exact kitCls_own h1 h2 h3
end
end DL
namespace DL
open PySem PySem.Spec L2
open PyProof.Rows hiding St
variable [HashW]
section
variable {sd w : SD} {M : MS} {d : D} {ds : List D} {i : Nat} {b : MST} {tt : MB} {te : ME}
@[simp] theorem nameG_ap : nameG i d sd = some (sd.set i (some d)) := rfl
@[simp] theorem intsI_chk {xs : List Int} : (intsI xs).chk = fun _ => True := rfl
/-- what one turn gives goes on -/
def SRes.loop (r : SRes) (k : SD → MS → SRes) : SRes := match r with
  | .nx sd M => k sd M
  | .ct sd M => k sd M
  | .brk sd M => .nx sd M
  | .ret v M => .ret v M
  | .exc C ns ds sd M => .exc C ns ds sd M
  | .stuck => .stuck
@[simp] theorem SRes.loop_nx {k : SD → MS → SRes} : (SRes.nx sd M).loop k = k sd M := rfl
@[simp] theorem SRes.loop_ct {k : SD → MS → SRes} : (SRes.ct sd M).loop k = k sd M := rfl
@[simp] theorem SRes.loop_brk {k : SD → MS → SRes} : (SRes.brk sd M).loop k = .nx sd M := rfl
@[simp] theorem SRes.loop_ret {k : SD → MS → SRes} : (SRes.ret d M).loop k = .ret d M := rfl
@[simp] theorem SRes.loop_exc {k : SD → MS → SRes} {C : String} {ns : List String} : (SRes.exc C ns ds sd M).loop k = .exc C ns ds sd M := rfl
@[simp] theorem forGo_nil {g : MG} : forGo (fun _ => True) g b [] sd M = .nx sd M := by unfold forGo; simp
@[simp] theorem forGo_cons : forGo (fun _ => True) (nameG i) b (d :: ds) sd M = (b (sd.set i (some d)) M).loop (forGo (fun _ => True) (nameG i) b ds) := by
  conv => lhs; unfold forGo
  simp
  unfold SRes.loop
  cases b (sd.set i (some d)) M <;> rfl
/-- a comprehension over a typed list that changes nothing -/
theorem lc_typed {α : Type} {g : α → D} {p : α → Bool} {f : α → D} {xs : List α} (hl : xs.length ≤ 1000000) (h : ∀ x, x ∈ xs → tt (w.set i (some (g x))) M = .ok (p x) M ∧ (p x = true → te (w.set i (some (g x))) M = .ok (f x) M)) :
    lcGo (fun _ => True) (nameG i) tt te w (xs.map g) [] M = .ok ((xs.filter p).map f) M := by
  have key : ∀ (xs : List α) (acc : List D), acc.length + xs.length ≤ 1000000 → (∀ x, x ∈ xs → tt (w.set i (some (g x))) M = .ok (p x) M ∧ (p x = true → te (w.set i (some (g x))) M = .ok (f x) M)) →
      lcGo (fun _ => True) (nameG i) tt te w (xs.map g) acc M = .ok (acc ++ (xs.filter p).map f) M := by
    intro xs
    induction xs with
    | nil => intro acc _ _; simp [lcGo]
    | cons x xs ih =>
      intro acc hl h
      obtain ⟨h1, h2⟩ := h x List.mem_cons_self
      have h3 : ∀ y, y ∈ xs → _ := fun y hy => h y (List.mem_cons_of_mem _ hy)
      rw [List.map_cons]
      unfold lcGo
      rw [if_pos trivial, nameG_ap]
      dsimp only
      rw [h1, Res.ne_ok, Res.bind_ok]
      cases hp : p x with
      | false => simp only [Bool.false_eq_true, if_false]; rw [ih acc (by simp at hl; omega) h3]; simp [hp]
      | true =>
        rw [if_pos rfl, h2 hp, Res.ne_ok, Res.bind_ok, if_pos (by simp at hl; omega), ih (acc ++ [f x]) (by simp at hl ⊢; omega) h3]
        simp [hp]
  have := key xs [] (by simpa using hl) h
  simpa using this
theorem lc_map {α : Type} {g : α → D} {f : α → D} {xs : List α} (hl : xs.length ≤ 1000000) (h : ∀ x, x ∈ xs → te (w.set i (some (g x))) M = .ok (f x) M) :
    lcGo (fun _ => True) (nameG i) yesB te w (xs.map g) [] M = .ok (xs.map f) M := by
  have := lc_typed (tt := yesB) (te := te) (p := fun _ => true) (f := f) (M := M) (w := w) (i := i) (g := g) hl fun x hx => ⟨rfl, fun _ => h x hx⟩
  rwa [List.filter_eq_self.mpr (fun _ _ => rfl)] at this
end
mutual
def toP : D → PyData
  | .bl b => .bool b
  | .int i => .int i
  | .str x => .str (tx x)
  | .tup ds => .tuple (toPs ds)
  | .lst ds => .list (toPs ds)
  | .flst ds => .list (toPs ds)
  | _ => .none
def toPs : List D → List PyData
  | [] => []
  | d :: ds => toP d :: toPs ds
end
abbrev okC (x : List Nat) : Prop := ∀ c, c ∈ x → c < 1114112
mutual
/-- no objects, n levels at most -/
def plN : Nat → D → Prop
  | n, .non => True
  | n, .bl _ => True
  | n, .int _ => True
  | n, .str x => okC x
  | 0, .tup _ => False
  | 0, .lst _ => False
  | 0, .flst _ => False
  | n + 1, .tup ds => plNs n ds
  | n + 1, .lst ds => plNs n ds
  | n + 1, .flst ds => plNs n ds
  | _, _ => False
def plNs : Nat → List D → Prop
  | _, [] => True
  | n, d :: ds => plN n d ∧ plNs n ds
end
theorem toP_str {x : List Nat} (h : okC x) : PyData.canLay0 (.str (tx x)) = true := by
  simpa [PyData.canLay0, PyData.strOk] using h
mutual
theorem pl_py {M : MS} : ∀ (n m : Nat) (d : D), plN n d → n ≤ m → pyN (m + 1) M d = some (toP d) ∧ PyData.canLay0 (toP d) = true ∧ PyData.depth (toP d) ≤ n
  | n, m, .non, _, _ => ⟨rfl, rfl, by simp [toP, PyData.depth]⟩
  | n, m, .bl _, _, _ => ⟨rfl, rfl, by simp [toP, PyData.depth]⟩
  | n, m, .int _, _, _ => ⟨rfl, rfl, by simp [toP, PyData.depth]⟩
  | n, m, .str x, h, _ => ⟨rfl, toP_str (by cases n <;> exact h), by simp [toP, PyData.depth]⟩
  | 0, _, .tup _, h, _ => h.elim
  | 0, _, .lst _, h, _ => h.elim
  | 0, _, .flst _, h, _ => h.elim
  | n + 1, 0, .tup _, _, h => absurd h (by omega)
  | n + 1, 0, .lst _, _, h => absurd h (by omega)
  | n + 1, 0, .flst _, _, h => absurd h (by omega)
  | n + 1, m + 1, .tup ds, h, hm => by
    obtain ⟨h1, h2, h3⟩ := pls_py (M := M) n m ds h (by omega)
    refine ⟨?_, h2, ?_⟩
    · show (mapO (pyN (m + 1) M) ds).map PyData.tuple = _
      rw [h1]; rfl
    · simp only [toP, PyData.depth]; omega
  | n + 1, m + 1, .lst ds, h, hm => by
    obtain ⟨h1, h2, h3⟩ := pls_py (M := M) n m ds h (by omega)
    refine ⟨?_, h2, ?_⟩
    · show (mapO (pyN (m + 1) M) ds).map PyData.list = _
      rw [h1]; rfl
    · simp only [toP, PyData.depth]; omega
  | n + 1, m + 1, .flst ds, h, hm => by
    obtain ⟨h1, h2, h3⟩ := pls_py (M := M) n m ds h (by omega)
    refine ⟨?_, h2, ?_⟩
    · show (mapO (pyN (m + 1) M) ds).map PyData.list = _
      rw [h1]; rfl
    · simp only [toP, PyData.depth]; omega
  | n, m, .obj .., h, _ => by cases n <;> exact h.elim
  | n, m, .dic .., h, _ => by cases n <;> exact h.elim
  | n, m, .glo .., h, _ => by cases n <;> exact h.elim
  | n, m, .ty .., h, _ => by cases n <;> exact h.elim
  | n, m, .exn .., h, _ => by cases n <;> exact h.elim
  | n, m, .cell .., h, _ => by cases n <;> exact h.elim
theorem pls_py {M : MS} : ∀ (n m : Nat) (ds : List D), plNs n ds → n ≤ m → mapO (pyN (m + 1) M) ds = some (toPs ds) ∧ PyData.canLayAll0 (toPs ds) = true ∧ PyData.depthAll (toPs ds) ≤ n
  | n, m, [], _, _ => ⟨rfl, rfl, by simp [toPs, PyData.depthAll]⟩
  | n, m, d :: ds, h, hm => by
    obtain ⟨h1, h2, h3⟩ := pl_py (M := M) n m d h.1 hm
    obtain ⟨g1, g2, g3⟩ := pls_py (M := M) n m ds h.2 hm
    refine ⟨?_, ?_, ?_⟩
    · simp only [mapO, h1, g1, toPs]
    · simp [toPs, PyData.canLayAll0, h2, g2]
    · simp only [toPs, PyData.depthAll]; omega
end
/-- the laws' == -/
def eqvD (d e : D) : Bool := PyData.eqv (toP d) (toP e)
def eqvDs (d e : List D) : Bool := PyData.eqvAll (toPs d) (toPs e)
theorem eqSc_v {d e : D} {b : Bool} (h : eqSc d e = some b) : eqvD d e = b := by
  cases d <;> cases e <;> first | cases h | skip
  all_goals first | rfl | skip
  simp only [eqvD, toP, PyData.eqv]
  rename_i x y
  by_cases hxy : x = y
  · subst hxy; simp
  · have : ¬ tx x = tx y := fun z => hxy (tx_inj.mp z)
    rw [beq_eq_false_iff_ne.mpr this, beq_eq_false_iff_ne.mpr hxy]
theorem eqD_plN {neg : Bool} {d e : D} {M : MS} (n : Nat) (hn : n ≤ 29) (hd : plN n d) (he : plN n e) : eqD neg d e M = .ok (.bl (eqvD d e != neg)) M := by
  unfold eqD
  split
  · rename_i h
    obtain ⟨b, hb⟩ := Option.isSome_iff_exists.mp h
    unfold eqS
    rw [hb, eqSc_v hb]
  · obtain ⟨h1, h2, h3⟩ := pl_py (M := M) n 29 d hd (by omega)
    obtain ⟨g1, g2, g3⟩ := pl_py (M := M) n 29 e he (by omega)
    unfold eqP pyD
    rw [h1, g1]
    have s1 : SeqAt.shaped (toP d) = true := by unfold SeqAt.shaped; simp [h2]; omega
    have s2 : SeqAt.shaped (toP e) = true := by unfold SeqAt.shaped; simp [g2]; omega
    simp only [s1, s2, and_self, if_true]
    rfl
theorem eqD_pl {neg : Bool} {d e : D} {M : MS} (hd : plN 7 d) (he : plN 7 e) : eqD neg d e M = .ok (.bl (eqvD d e != neg)) M := eqD_plN 7 (by omega) hd he
mutual
theorem eqv_refl : ∀ p : PyData, PyData.canLay0 p = true → PyData.eqv p p = true
  | .none, _ => rfl
  | .bool b, _ => by simp [PyData.eqv]
  | .int b, _ => by simp [PyData.eqv]
  | .str b, _ => by simp [PyData.eqv]
  | .list ps, h => by rw [PyData.eqv]; exact eqvAll_refl ps h
  | .tuple ps, h => by rw [PyData.eqv]; exact eqvAll_refl ps h
  | .dict _, h => by cases h
theorem eqvAll_refl : ∀ ps : List PyData, PyData.canLayAll0 ps = true → PyData.eqvAll ps ps = true
  | [], _ => rfl
  | p :: ps, h => by
    obtain ⟨h1, h2⟩ := Bool.and_eq_true_iff.mp (show (PyData.canLay0 p && PyData.canLayAll0 ps) = true from h)
    rw [PyData.eqvAll, eqv_refl p h1, eqvAll_refl ps h2]; rfl
end
theorem eqD_refl {neg : Bool} {d : D} {M : MS} (hd : plN 7 d) : eqD neg d d M = .ok (.bl (true != neg)) M := by
  rw [eqD_pl hd hd]
  have := eqv_refl (toP d) (pl_py (M := M) 7 29 d hd (by omega)).2.1
  unfold eqvD
  rw [this]
theorem eqvD_lst {ds es : List D} : eqvD (.lst ds) (.lst es) = eqvDs ds es := by simp [eqvD, eqvDs, toP, PyData.eqv]
theorem eqvD_str {x y : List Nat} : eqvD (.str x) (.str y) = (x == y) := eqSc_v rfl
theorem eqvDs_cons {d e : D} {ds es : List D} : eqvDs (d :: ds) (e :: es) = (eqvD d e && eqvDs ds es) := by simp [eqvDs, eqvD, toPs, PyData.eqvAll]
theorem eqvDs_nil : eqvDs [] [] = true := rfl
theorem eqvDs_nc {d : D} {ds : List D} : eqvDs [] (d :: ds) = false := rfl
theorem eqvDs_cn {d : D} {ds : List D} : eqvDs (d :: ds) [] = false := rfl
theorem plNs_map {α : Type} {n : Nat} {g : α → D} : ∀ {xs : List α}, (∀ x, x ∈ xs → plN n (g x)) → plNs n (xs.map g)
  | [], _ => trivial
  | x :: xs, h => ⟨h x List.mem_cons_self, plNs_map fun y hy => h y (List.mem_cons_of_mem _ hy)⟩
/-- texts of the world, ints, lists of them at top -/
@[simp] theorem plN_str {n : Nat} {x : List Nat} : plN n (.str x) = okC x := by cases n <;> rfl
@[simp] theorem plN_int {n : Nat} {x : Int} : plN n (.int x) = True := by cases n <;> rfl
@[simp] theorem plN_bl {n : Nat} {x : Bool} : plN n (.bl x) = True := by cases n <;> rfl
@[simp] theorem plN_non {n : Nat} : plN n .non = True := by cases n <;> rfl
@[simp] theorem plN_lst {n : Nat} {ds : List D} : plN (n + 1) (.lst ds) = plNs n ds := rfl
@[simp] theorem plN_flst {n : Nat} {ds : List D} : plN (n + 1) (.flst ds) = plNs n ds := rfl
@[simp] theorem plN_tup {n : Nat} {ds : List D} : plN (n + 1) (.tup ds) = plNs n ds := rfl
@[simp] theorem plNs_nil {n : Nat} : plNs n [] = True := rfl
@[simp] theorem plNs_cons {n : Nat} {d : D} {ds : List D} : plNs n (d :: ds) = (plN n d ∧ plNs n ds) := rfl
section
variable {sd : SD} {M : MS} {ms : MA} {h : D → List D → MS → Res D}
@[simp] theorem bmK_strS {x : List Nat} : bmK "str" h ms sd (.str x) M = (ms sd M).bind (bmK2 h (.str x)) := if_pos rfl
@[simp] theorem bmK_lstS {ds : List D} : bmK "list" h ms sd (.lst ds) M = (ms sd M).bind (bmK2 h (.lst ds)) := if_pos rfl
@[simp] theorem sL_nil : sL "" = [] := rfl
end
end DL
namespace DL
open PySem PySem.Spec L2
open PyProof.Rows hiding St
variable [HashW]
def blOf : D → Option Bool
  | .bl b => some b
  | _ => none
def intOf : D → Option Int
  | .int b => some b
  | _ => none
def stOf : D → Option (List Nat)
  | .str b => some b
  | _ => none
abbrev blsOf (ds : List D) : Option (List Bool) := mapO blOf ds
abbrev intsOf (ds : List D) : Option (List Int) := mapO intOf ds
abbrev stsOf (ds : List D) : Option (List (List Nat)) := mapO stOf ds
theorem mapO_eq {A : Type} {f : D → Option A} {g : A → D} (h : ∀ d a, f d = some a → d = g a) : ∀ {ds : List D} {as : List A}, mapO f ds = some as → ds = as.map g
  | [], as, e => by cases e; rfl
  | d :: ds, as, e => by
    unfold mapO at e
    cases h1 : f d with
    | none => rw [h1] at e; cases e
    | some a =>
      cases h2 : mapO f ds with
      | none => rw [h1, h2] at e; cases e
      | some bs =>
        rw [h1, h2] at e; cases e
        rw [h d a h1, mapO_eq h h2]; rfl
theorem mapO_map {A : Type} {f : D → Option A} {g : A → D} (h : ∀ a, f (g a) = some a) : ∀ as : List A, mapO f (as.map g) = some as
  | [] => rfl
  | a :: as => by simp only [List.map_cons, mapO, h a, mapO_map h as]
theorem blsOf_eq {ds : List D} {bs : List Bool} (e : blsOf ds = some bs) : ds = bs.map D.bl := mapO_eq (fun d a h => by cases d <;> cases h; rfl) e
theorem stsOf_eq {ds : List D} {bs : List (List Nat)} (e : stsOf ds = some bs) : ds = bs.map D.str := mapO_eq (fun d a h => by cases d <;> cases h; rfl) e
@[simp] theorem blsOf_map (bs : List Bool) : blsOf (bs.map D.bl) = some bs := mapO_map (f := blOf) (g := D.bl) (fun _ => rfl) bs
@[simp] theorem intsOf_map (bs : List Int) : intsOf (bs.map D.int) = some bs := mapO_map (f := intOf) (g := D.int) (fun _ => rfl) bs
@[simp] theorem stsOf_map (bs : List (List Nat)) : stsOf (bs.map D.str) = some bs := mapO_map (f := stOf) (g := D.str) (fun _ => rfl) bs
section
variable {K : PySem.W.Frag} {mg : Str → Option Value} {ro : Pl} {H : Hp}
theorem reps_map {A : Type} {g : A → D} {v : A → V} (h : ∀ a x, Rep K mg ro H (g a) x → x = v a) : ∀ (as : List A) (vs : List V), Reps K mg ro H (as.map g) vs → vs = as.map v
  | [], vs, r => r
  | a :: as, vs, ⟨x, w, e, q, t⟩ => by rw [e, h a x q, reps_map h as w t]; rfl
theorem reps_bls {bs : List Bool} {vs : List V} (r : Reps K mg ro H (bs.map D.bl) vs) : vs = bs.map V.bl := reps_map (g := D.bl) (v := V.bl) (fun _ _ h => h) bs vs r
theorem map_reps {A : Type} {g : A → D} {v : A → V} (h : ∀ a, Rep K mg ro H (g a) (v a)) : ∀ as : List A, Reps K mg ro H (as.map g) (as.map v)
  | [] => rfl
  | a :: as => ⟨_, _, rfl, h a, map_reps h as⟩
end
/-- the items of one list -/
def lst1 (ds : List D) (M : MS) : Option (List D) := match ds with
  | [d] => if isTup d = true then none else seqOf M d
  | _ => none
theorem lst1_at {K : PySem.W.Frag} {mg : Str → Option Value} {ro : Pl} {H : Hp} {M : MS} (R : RelS K mg ro M H) {ds : List D} {xs : List V} {es : List D} (rs : Reps K mg ro H ds xs) (h : lst1 ds M = some es) : ∃ a vs, xs = [.ref a] ∧ SqL K H a vs ∧ Reps K mg ro H es vs := by
  unfold lst1 at h
  split at h
  · rename_i d
    split at h
    · cases h
    · rename_i ht
      obtain ⟨x, rfl, rx⟩ := reps1 rs
      obtain ⟨a, vs, rfl, hq, q⟩ := seq_list R rx h (by simpa using ht)
      exact ⟨a, vs, rfl, hq, q⟩
  · cases h
def allF (ds : List D) (M : MS) : Res D := match (lst1 ds M).bind blsOf with
  | some bs => .ok (.bl (bs.all id)) M
  | none => .stuck
def anyF (ds : List D) (M : MS) : Res D := match (lst1 ds M).bind blsOf with
  | some bs => .ok (.bl (bs.any id)) M
  | none => .stuck
def leS (a b : List Nat) : Bool := !decide (b < a)
def sortT (ns : List (List Nat)) : List (List Nat) := ns.mergeSort leS
def sortedSF (ds : List D) (M : MS) : Res D := match (lst1 ds M).bind stsOf with
  | some bs => if bs.length < 64 then .ok (.lst ((sortT bs).map D.str)) M else .stuck
  | none => .stuck
section
variable {X : Cx}
theorem callS_all (hc : X.calm = true) : CallS X (.builtin "all") allF := by
  refine ⟨_, cr_all hc, fun ro H M ds xs E Q R rs P => ?_⟩
  unfold allF at P
  split at P
  · rename_i bs h
    obtain ⟨es, h1, h2⟩ := Option.bind_eq_some_iff.mp h
    obtain ⟨a, vs, rfl, hq, q⟩ := lst1_at R rs h1
    rw [blsOf_eq h2] at q
    rw [reps_bls q] at hq
    exact ⟨a, bs, rfl, hq, PostD.pure (d := .bl _) R rfl P⟩
  · exact P.elim
theorem callS_any (hc : X.calm = true) : CallS X (.builtin "any") anyF := by
  refine ⟨_, cr_any hc, fun ro H M ds xs E Q R rs P => ?_⟩
  unfold anyF at P
  split at P
  · rename_i bs h
    obtain ⟨es, h1, h2⟩ := Option.bind_eq_some_iff.mp h
    obtain ⟨a, vs, rfl, hq, q⟩ := lst1_at R rs h1
    rw [blsOf_eq h2] at q
    rw [reps_bls q] at hq
    exact ⟨a, bs, rfl, hq, PostD.pure (d := .bl _) R rfl P⟩
  · exact P.elim
end
def chK (f g : D → D → MS → Res D) (c : ME) (sd : SD) (x y : D) : D → MS → Res D := fun z M3 => match z with
  | .bl true => (c sd M3).bind fun w M4 => g y w M4
  | .bl false => .ok (.bl false) M3
  | _ => .stuck
def chE (f g : D → D → MS → Res D) (a b c : ME) : ME := fun sd M => (a sd M).bind fun x M1 => (b sd M1).bind fun y M2 => (f x y M2).bind (chK f g c sd x y)
@[simp] theorem chE_ap {f g : D → D → MS → Res D} {a b c : ME} {sd : SD} {M : MS} : chE f g a b c sd M = (a sd M).bind fun x M1 => (b sd M1).bind fun y M2 => (f x y M2).bind (chK f g c sd x y) := rfl
@[simp] theorem chK_t {f g : D → D → MS → Res D} {c : ME} {sd : SD} {M : MS} {x y : D} : chK f g c sd x y (.bl true) M = (c sd M).bind fun w M4 => g y w M4 := rfl
@[simp] theorem chK_f {f g : D → D → MS → Res D} {c : ME} {sd : SD} {M : MS} {x y : D} : chK f g c sd x y (.bl false) M = .ok (.bl false) M := rfl
end DL
namespace DL
open PySem PySem.Spec L2
open PyProof.Rows hiding St
variable [HashW]
/-- lambda x: (len(x), x) -/
structure LenLam (params : Arguments) (body : Expr) (scope : Scope) (x : Str) : Prop where
  bd : ∃ p1 p2 p3 p4 p5 k, body = .Tuple [.Call (.Name "len" p1) [.Name x p2] [] p3, .Name x p4] k p5
  kind : scope.kind = .function
  co : scope.isCoroutine = false
  gen : scope.isGenerator = false
  nocell : ∀ y ∈ scope.names, y.2 ≠ .cell
  loc : scope.names.lookup x = some .local
  len : scope.names.lookup ("len" : Str) = some .globalImplicit
  xd : (x == ("__debug__" : Str)) = false
  bind : ∀ (qual : Str) (cl : List (Str × Addr)) (pm c ctv v : Value), bindArgs (PySem.W.kla_fn "<lambda>" qual params body scope cl pm c ctv) ⟨[v], []⟩ = pure [(x, v)]
theorem lam_key {P : Program} {w : World} {A : Around} {s : Shared} {params : Arguments} {body : Expr} {scope : Scope} {x qual : Str} {cl : List (Str × Addr)} {pm ctv : Value} {f c' : Addr} {mg mb : Str → Option Value} {y : Str} {t : Tok} (L : LenLam params body scope x)
    (hroom : A.depth < recursionLimit) (ho : s.heap.get? f = some (PySem.W.kla_obj "<lambda>" qual params body scope cl pm c' ctv)) (hcd : s.heap.CodeRec (.ref c') qual) (hlim : s.heap.NoLimit)
    (hg : s.heap.Ns mainGlobals mg) (hm : mg "len" = none) (hb : s.heap.Ns builtinsNs mb) (hbb : ∀ x : Str, x ≠ "__name__" → mb x = bootBuiltins x) (hy : y.length < 1000000) :
    wpAny (model P w) A (call (.ref f) [.str y t]) (PySem.W.KeyPure (.tuple [.int y.length, .str y]) s) (fun _ _ => False) s := by
  obtain ⟨p1, p2, p3, p4, p5, k, rfl⟩ := L.bd
  refine wpAny_call ?_
  refine codeAny_mono (R := fun r s' => ∃ v, r = .ok (.ret v) ∧ PySem.W.KeyPure (.tuple [.int y.length, .str y]) s v s') ?_ fun r s' ⟨v, e, h⟩ => by subst e; exact h
  refine PySem.W.kla_callFunE hroom ho rfl L.co L.gen rfl hcd ?_
  rw [L.bind]
  refine wpAny_pure (wpAny_newFunctionEnv L.nocell (fun z hz => by simp at hz; rw [hz]; exact L.loc) (fun h₁ hns hsb => ⟨hlim.fresh _ hsb, ?_⟩) L.kind)
  have hk₁ : ∀ b o, s.heap.get? b = some o → h₁.get? b = some o := fun b o e => hsb.extBut b o (Nat.ne_of_lt (Heap.lt_size e)) (Heap.get?_push_of_some _ e)
  refine PySem.W.kla_codeExpr ?_
  have nameX : ∀ {A' : Around} {E' : Value → Shared → Prop} {Q' : Value → Shared → Prop} {s' : Shared} {p : Pos}, (∀ b o, h₁.get? b = some o → s'.heap.get? b = some o) → Q' (.str y t) s' → wpAny (model P w) A' (eval (.Name x p) (newEnv scope s.heap.objs.size mainGlobals cl (qual ++ ".<locals>.") (some f) (.ref c') none builtinsNs)) Q' E' s' := fun kp h => by
    refine wpAny_Name (wpAny_loadName_local L.kind L.loc (hns.keeps kp) (show (List.reverse [(x, Value.str y t)]).lookup x = some (.str y t) by simp) h) L.xd
  refine wpAny_Tuple_spliced ?_
  have kg : ∀ {b m}, s.heap.Ns b m → h₁.Ns b m := fun h => h.keeps hk₁
  refine Calls.spliced_cons (wpAny_Call_Name_kw (Calls.Name_function_global L.kind L.len (Calls.loadGlobal_builtin (kg hg) hm (kg hb) ((hbb "len" (by decide)).trans boot_len) ?_) (by decide)))
  refine PyProof.Rows.callWith_builtin1 (Calls.spliced_cons (nameX (fun _ _ h => h) (Calls.spliced_nil ?_))) rfl rfl
  refine len_str (by omega) ?_
  refine Calls.spliced_cons (nameX (fun _ _ h => h) (Calls.spliced_nil ⟨by show 2 ≤ sizeLine; decide, ?_⟩))
  refine ⟨_, rfl, _, _, rfl, fun b o e => Heap.get?_push_of_some _ (hk₁ b o e), ?_⟩
  exact .tuple (as := []) (Heap.get?_push_size _ rfl) rfl rfl (.cons (as := []) (bs := []) (.int _ _) (.cons (as := []) (bs := []) (.str _ _) .nil))
def lenKey (x : List Nat) : PyData := .tuple [.int x.length, .str (tx x)]
/-- sorted by length, then as texts -/
def sortLT (xs : List (List Nat)) : List (List Nat) := xs.mergeSort (PySem.W.dataLe false lenKey)
def isTab (i : Nat) (C m : String) (M : MS) : Bool := match M[i]? with
  | some (.tab j C' m') => decide (j = i ∧ C' = C ∧ m' = m)
  | _ => false
def sortLenE (i : Nat) (C m : String) (me : ME) : ME := fun sd M => (me sd M).bind fun d M1 => match (lst1 [d] M1).bind stsOf with
  | some xs => if isTab i C m M1 = true ∧ xs.length ≤ 100000 ∧ (∀ x, x ∈ xs → x.length < 1000000) then .ok (.lst ((sortLT xs).map D.str)) M1 else .stuck
  | none => .stuck
section
variable {X : Cx} {pins : List (Addr × Obj)} {σ : St} {H : Hp} {s : Shared} {P c : Addr} {ps : Array Value} {params : Arguments} {body : Expr} {scope : Scope} {pos : Pos} {E : Value → Shared → Prop} {Q : Value → Shared → Prop}
/-- a lambda's making, told exactly: its code was in the table, or is put there -/
theorem lam_make3 (I : Inv X pins σ H s) (TB : LamX.TabB X.base X.mg c P) (hcode : X.env.code = .ref c) (hP : H P = some (.tbl ps)) (ht : TriplesOk ps.toList)
    (ha : ∀ (pos : Pos) (cv : Value), codeAmong pos ps.toList = some cv → ∃ c, cv = .ref c ∧ H c = some (LamX.CodeO c (X.env.qual ++ "<lambda>")))
    (hdef : defaultsOf params X.env = ([], [])) (hfree : ∀ y ∈ scope.names, y.2 = .free → ∃ c, X.env.cells.lookup y.1 = some c)
    (hit : ∀ (f c' : Addr) (pm ctv : Value) (s' : Shared), Inv X pins σ H s' → H c' = some (LamX.CodeO c' (X.env.qual ++ "<lambda>")) →
      s'.heap.get? f = some (PySem.W.kla_obj "<lambda>" (X.env.qual ++ "<lambda>") params body scope (cloFrom X.env.cells scope.names []) pm c' ctv) → Q (.ref f) s')
    (mis : ∀ (f c' : Addr) (pm ctv : Value) (s' : Shared), H c' = none → Inv X pins σ (upd (upd H P (.tbl (ps ++ #[rawInt pos.line, rawInt pos.col, .ref c']))) c' (LamX.CodeO c' (X.env.qual ++ "<lambda>"))) s' →
      s'.heap.get? f = some (PySem.W.kla_obj "<lambda>" (X.env.qual ++ "<lambda>") params body scope (cloFrom X.env.cells scope.names []) pm c' ctv) → Q (.ref f) s') :
    wpAny (model X.prog X.w) X.A (eval (.Lambda params body scope pos) X.env) Q E s := by
  have tab : s.heap.get? P = some { cls := .none, data := .fields ps } := I.hok P _ hP
  have gl : s.heap.Ns mainGlobals X.mg := I.mod.glob.keeps I.bk
  have cd : PySem.W.CodeHd s.heap c P := TB.code.keeps I.bk
  have bt : s.heap.BuiltinsAt X.mg P := TB.bm.keeps I.bk
  refine PySem.W.kla_eval hdef ?_
  cases found : codeAmong pos ps.toList with
  | some cv =>
    obtain ⟨c', rfl, hc'⟩ := ha pos cv found
    refine PySem.W.kla_makeFunctionHit (mg := X.mg) (c := c) (P := P) (ps := ps) (closure_ok hfree) I.ok.glob gl hcode cd tab ht found bt fun ctv h' tk grow _ => ?_
    exact hit _ c' _ ctv _ (I.kept (t' := tk) fun b o e => Heap.get?_push_of_some _ (grow b o e)) hc' (Heap.get?_push_size _ rfl)
  | none =>
    refine PySem.W.kla_makeFunction (mg := X.mg) (c := c) (P := P) (ps := ps) (closure_ok hfree) I.ok.glob gl hcode cd tab ht found TB.gP bt fun c' ctv h' tk ext old _ rec tab' => ?_
    obtain ⟨_, oc, vs, t, e, ho, hd, hv⟩ := rec
    cases e
    refine mis _ c' _ ctv _ (I.hok.fresh old) ?_ (Heap.get?_push_size _ rfl)
    exact LamX.inv_table (t' := tk) I hP (fun b o hb e => Heap.get?_push_of_some _ (ext b o hb e)) (Heap.get?_push_of_some _ tab') old ⟨oc, vs, t, Heap.get?_push_of_some _ ho, hd, hv⟩
end
section
variable {K : PySem.W.Frag} {mg : Str → Option Value} {ro : Pl} {H : Hp} {M : MS}
theorem isTab_at {i : Nat} {C m : String} (h : isTab i C m M = true) : M[i]? = some (MO.tab i C m) := by
  unfold isTab at h
  split at h
  · rename_i e
    obtain ⟨rfl, rfl, rfl⟩ := of_decide_eq_true h
    exact e
  · cases h
/-- after a lambda's code has been put into the table -/
theorem RelS.lam {i : Nat} {C m : String} {P c' : Addr} {ps : Array Value} {pos : Pos} (R : RelS K mg ro M H) (e : M[i]? = some (MO.tab i C m)) (g : ro.ro[i]? = some P) (hP : H P = some (.tbl ps)) (hc : H c' = none) :
    RelS K mg ro M (upd (upd H P (.tbl (ps ++ #[rawInt pos.line, rawInt pos.col, .ref c']))) c' (LamX.CodeO c' (lamQ C m))) ∧ Pres ro H ro (upd (upd H P (.tbl (ps ++ #[rawInt pos.line, rawInt pos.col, .ref c']))) c' (LamX.CodeO c' (lamQ C m))) := by
  have ne : P ≠ c' := ne_of_none hP hc
  obtain ⟨R1, P1⟩ := R.alloc (o := LamX.CodeO c' (lamQ C m)) hc
  have hout := R.fresh hc
  obtain ⟨ho, e0, ps0, P0, e1, t, gi, k⟩ := R.at_ i _ P e g
  rw [hP] at e0
  cases e0
  cases e1
  have eL : (ps ++ #[rawInt pos.line, rawInt pos.col, .ref c']).toList = ps.toList ++ [rawInt pos.line, rawInt pos.col, .ref c'] := by simp
  have mr : MRel K mg ro (upd H c' (LamX.CodeO c' (lamQ C m))) (.tab i C m) (.tbl (ps ++ #[rawInt pos.line, rawInt pos.col, .ref c'])) := by
    refine ⟨_, P0, rfl, ⟨by rw [eL]; exact PySem.TriplesOk_snoc _ _ _ _ t.1, fun p' cv hcv => ?_⟩, gi, k⟩
    rw [eL] at hcv
    rcases LamX.among_app _ t.1 hcv with z | z
    · obtain ⟨c0, a1, a2, a3⟩ := t.2 p' cv z
      exact ⟨c0, a1, upd_grow hc _ _ a2, a3⟩
    · exact ⟨c', z, upd_same, hout⟩
  obtain ⟨R2, P2⟩ := R1.change g mr
  have eM : M.set i (.tab i C m) = M := by
    obtain ⟨hl, q⟩ := List.getElem?_eq_some_iff.mp e
    rw [← q]; simp
  have eH : upd (upd H c' (LamX.CodeO c' (lamQ C m))) P (.tbl (ps ++ #[rawInt pos.line, rawInt pos.col, .ref c'])) = upd (upd H P (.tbl (ps ++ #[rawInt pos.line, rawInt pos.col, .ref c']))) c' (LamX.CodeO c' (lamQ C m)) := by
    funext b
    by_cases h1 : b = P
    · subst h1; rw [upd_same, upd_ne ne, upd_same]
    · by_cases h2 : b = c'
      · subst h2; rw [upd_ne h1, upd_same, upd_same]
      · rw [upd_ne h1, upd_ne h2, upd_ne h2, upd_ne h1]
  rw [eM, eH] at R2
  rw [eH] at P2
  exact ⟨R2, P1.trans P2⟩
end
theorem each_strs {H : Hp} : ∀ {xs : List (List Nat)} {us : List Value}, Vals ((xs.map tx).map V.str) us → PySem.W.EachIs (fun (v : Value) (x : List Nat) => ∃ t, v = .str (tx x) t) us xs
  | [], us, r => by cases r; exact .nil
  | x :: xs, us, r => by
    cases r with
    | cons r rr => exact .cons r (each_strs (H := H) rr)
theorem vals_each : ∀ {xs : List (List Nat)} {us : List Value}, PySem.W.EachIs (fun (v : Value) (x : List Nat) => ∃ t, v = .str (tx x) t) us xs → Vals ((xs.map tx).map V.str) us
  | _, _, .nil => .nil
  | _, _, .cons h r => .cons h (vals_each r)
/-- sorted by the lambda, in a state where it stands -/
theorem sorted_lam {X : Cx} {pins : List (Addr × Obj)} {st : St} {H : Hp} {s : Shared} {Q : VK} {a f c' : Addr} {k : Nat} {params : Arguments} {body : Expr} {scope : Scope} {x qual : Str} {cl : List (Str × Addr)} {pm ctv : Value} {xs : List (List Nat)} (I : Inv X pins st H s) (L : LenLam params body scope x)
    (hr : Room k X.A) (hml : X.mg "len" = none) (hs : SqL X.K H a ((xs.map tx).map V.str)) (hl : xs.length ≤ 100000) (hx : ∀ x, x ∈ xs → x.length < 1000000) (hf : s.heap.get? f = some (PySem.W.kla_obj "<lambda>" qual params body scope cl pm c' ctv)) (hc : H c' = some (LamX.CodeO c' qual))
    (h : ∀ p, H p = none → Q (.ref p) (upd H p (.lst ((sortLT xs).map (fun z => V.str (tx z)))))) : wpAny (model X.prog X.w) X.A (call (.builtin "sorted") [.ref a] [(Str.ofString "key", .ref f)]) (EP X pins st Q) X.xe s := by
  obtain ⟨its, rv, hI, _⟩ := I.list hs
  have e := each_strs (H := H) rv
  refine PySem.W.sorted_key_data (b := false) lenKey hI.isList e (PySem.W.AllAlike.of fun _ _ => by simp [lenKey, PySem.W.alike, PySem.W.alikeAll]) (PySem.W.Sortable.tuples fun _ => ⟨_, _, rfl⟩) (by rw [sizeLine_eq]; omega) (fun p _ => ?_) (PyProof.Rows.ksk_s1 _ _) (fun _ => PyProof.Rows.ksk_l1 _ _) (fun _ => PyProof.Rows.ksk_t1 _ _)
    (fun v p ⟨t, ev⟩ hp hh tk kp => ?_) fun out c h' tk kp fresh hD hlen eo => ?_
  · have hd : (lenKey p).depth = 1 := by simp [lenKey, PyData.depth, PyData.depthAll]
    have := hr.un
    omega
  · subst ev
    obtain ⟨mb, b1, b2⟩ := I.mod.blt
    have I2 : Inv X pins st H { s with heap := hh, toks := tk } := I.kept kp
    obtain ⟨oc, vs, tq, e1, e2, e3⟩ := (I2.hok c' _ hc).1
    have lk := lam_key (P := X.prog) (w := X.w) (A := X.A.in1.in1) (s := { s with heap := hh, toks := tk }) (y := tx p) (t := t) L (by have := hr.dp; show X.A.depth < _; omega) (kp _ _ hf) ⟨c', oc, vs, tq, rfl, e1, e2, e3⟩ (I2.mod.nolimit.keeps I2.bk) (I2.mod.glob.keeps I2.bk) hml (b1.keeps I2.bk) b2 (by simpa [Str.length] using hx p hp)
    simpa [lenKey, Str.length] using lk
  · have hp' := I.hok.fresh (Nat.le_succ s.heap.objs.size)
    have r' := vals_each eo
    refine ⟨.ref _, upd H (s.heap.objs.size + 1) (.lst ((sortLT xs).map fun z => V.str (tx z))), I.laid (t' := tk) kp (Nat.le_succ _) ⟨?_, out, c, ?_, hD⟩, rfl, h _ hp'⟩
    · rw [List.length_map]
      unfold sortLT
      rw [List.length_mergeSort, sizeLine_eq]; omega
    · rw [List.map_map] at r'
      exact r'
theorem de_sortLen {X : Cx} {W : WX} {i k : Nat} {C m : String} {params : Arguments} {body : Expr} {scope : Scope} {x : Str} {lpos kpos p pos : Pos} {e : Expr} {me : ME} {c P : Addr} (L : LenLam params body scope x) (hnf : ∀ y ∈ scope.names, y.2 ≠ .free)
    (TB : LamX.TabB X.base X.mg c P) (hcode : X.env.code = .ref c) (hq : X.env.qual ++ "<lambda>" = lamQ C m) (hT : IsTab X.K X.mg C m P) (hg : Gl X "sorted") (hm : X.mg "sorted" = none) (hml : X.mg "len" = none) (hr : Room k X.A) (he : DE X W e me)
    (hdef : defaultsOf params X.env = ([], []) := by rfl) (hs2 : starEach [e] X.env = (false, eval e X.env) :: starEach [] X.env := by rfl) (hb : backTo pos (starEach [e] X.env) = (false, eval e X.env) :: backTo pos (starEach [] X.env) := by rfl) (hpl : (backTo pos (starEach [e] X.env)).any (·.1) = false := by rfl) :
    DE X W (.Call (.Name "sorted" p) [e] [⟨some (Str.ofString "key"), .Lambda params body scope lpos, kpos⟩] pos) (sortLenE i C m me) := by
  refine ⟨⟨fun pins s st H Q I q => ?_⟩⟩
  obtain ⟨ro, sd, M, R, S, Pq⟩ := q
  refine wpAny_Call_Name_kw (ld_blt I hg hm boot_sorted ?_)
  refine PyProof.Rows.callWith_kw (thn ((da_cons he da_nil hs2).pa.run pos pins s st H (fun vs H1 => ∃ (ro1 : Pl) (M1 : MS) (xs : List (List Nat)) (a : Addr), vs = [.ref a] ∧ RelS X.K X.mg ro1 M1 H1 ∧ Pres ro H ro1 H1 ∧ SqL X.K H1 a ((xs.map tx).map V.str) ∧ isTab i C m M1 = true ∧ xs.length ≤ 100000 ∧ (∀ x, x ∈ xs → x.length < 1000000) ∧
      PostD X.K X.mg (fun c d H' => W c d st H') ro1 H1 Q (.ok (.lst ((sortLT xs).map D.str)) M1)) I ?first) fun us s1 ⟨vs, H1, I1, r1, q1⟩ => ?_) hb hpl rfl rfl
  case first =>
    refine ⟨ro, sd, M, R, S, ?_⟩
    have Pq : Post _ X.K X.mg (fun c d H' => W c d st H') ro H Q ((me sd M).bind _) := Pq
    unfold consA
    cases em : me sd M with
    | stuck => rw [em] at Pq; exact Pq.elim
    | exc C ns ds M1 => rw [em] at Pq; exact Pq
    | ok d M1 =>
      rw [em, Res.bind_ok] at Pq
      rintro ro1 H1 xs R1 P1 rs
      split at Pq
      · rename_i ys hy
        split at Pq
        · rename_i hc
          obtain ⟨es, h1, h2⟩ := Option.bind_eq_some_iff.mp hy
          obtain ⟨a, vs, rfl, hq', q'⟩ := lst1_at R1 rs h1
          rw [stsOf_eq h2] at q'
          rw [Reps.strs q'] at hq'
          exact ⟨ro1, M1, ys, a, rfl, R1, P1, hq', hc.1, hc.2.1, hc.2.2, Post.moves Pq P1⟩
        · exact Pq.elim
      · exact Pq.elim
  obtain ⟨ro1, M1, xs, a, rfl, R1, P1, hS, hi, hl, hx, PP⟩ := q1
  obtain ⟨u, rfl, ru⟩ := vals1 r1
  obtain rfl : u = Value.ref a := ru
  have e1 := isTab_at hi
  obtain ⟨b, hb'⟩ : ∃ b, ro1.ro[i]? = some b := ⟨_, List.getElem?_eq_getElem (by rw [R1.len]; exact (List.getElem?_eq_some_iff.mp e1).1)⟩
  obtain ⟨ho, eH, ps, P', rfl, t, gi, kT⟩ := R1.at_ i _ b e1 hb'
  have ePP : P' = P := kT.one hT
  subst ePP
  rw [hb'] at gi
  cases gi
  show wpAny _ _ (evalAll ((do let v ← eval (.Lambda params body scope lpos) X.env; standAt pos; pure v) :: [])) _ _ s1
  have fin : ∀ (f c' : Addr) (pm ctv : Value) (s' : Shared) (H2 : Hp), Inv X pins st H2 s' → RelS X.K X.mg ro1 M1 H2 → Pres ro1 H1 ro1 H2 → SqL X.K H2 a ((xs.map tx).map V.str) → H2 c' = some (LamX.CodeO c' (X.env.qual ++ "<lambda>")) →
      s'.heap.get? f = some (PySem.W.kla_obj "<lambda>" (X.env.qual ++ "<lambda>") params body scope (cloFrom X.env.cells scope.names []) pm c' ctv) →
      wpAny (model X.prog X.w) X.A (call (.builtin "sorted") [.ref a] [(Str.ofString "key", .ref f)]) (EP X pins st Q) X.xe s' := fun f c' pm ctv s' H2 I2 R2 P2 hS2 hc2 hf2 =>
    sorted_lam I2 L hr hml hS2 hl hx hf2 hc2 (PostD.newL R2 (map_reps (g := D.str) (v := fun z => V.str (tx z)) (fun _ => rfl) _) (Post.moves PP P2))
  have keepS : ∀ H2 : Hp, (∀ b o, H1 b = some o → (∀ q, o ≠ .tbl q) → H2 b = some o) → SqL X.K H2 a ((xs.map tx).map V.str) := fun H2 k => by
    rcases hS with h | h
    · rcases h with h | ⟨o, h⟩
      · exact .inl (.inl (k _ _ h (fun q z => by cases z)))
      · exact .inl (.inr ⟨o, k _ _ h (fun q z => by cases z)⟩)
    · exact .inr h
  refine wpAny_evalAll_cons (wpAny_bind ?_)
  refine lam_make3 I1 TB hcode eH t.1 (fun p' cv hcv => let ⟨c0, a1, a2, _⟩ := t.2 p' cv hcv; ⟨c0, a1, by rw [hq]; exact a2⟩) hdef (fun y hy e => absurd e (hnf y hy)) (fun f c' pm ctv s' I2 hc2 hf2 => ?_) (fun f c' pm ctv s' hn I2 hf2 => ?_)
  · exact wpAny_bind (wpAny_standAt (wpAny_pure (wpAny_evalAll_nil (fin f c' pm ctv s' H1 I2 R1 (Pres.refl _ _) hS hc2 hf2))))
  · have RL := R1.lam (pos := lpos) (c' := c') e1 hb' eH hn
    rw [← hq] at RL
    exact wpAny_bind (wpAny_standAt (wpAny_pure (wpAny_evalAll_nil (fin f c' pm ctv s' _ I2 RL.1 RL.2 (keepS _ fun b o h1 h2 => by
      rw [upd_ne (ne_of_none h1 hn), upd_ne (fun z => by rw [z, eH] at h1; cases h1; exact h2 _ rfl)]
      exact h1) upd_same hf2))))
end DL
namespace DL
open PySem PySem.Spec L2
open PyProof.Rows hiding St
variable [HashW]
/-- C.m() of a classmethod -/
def cmE0 (C : String) (F : FM) : ME := fun _ M => F [.glo C] M
theorem de_cmeth0 {X : Cx} {W : WX} {k : Nat} {f c p : Addr} {fd : FuncData} {ps : List Str} {F : FM} {C m : String} {mc : Value} {np apos pos : Pos} {pl : Sem Bool} (hgl : Gl X (Str.ofString C)) (hmg : X.mg (Str.ofString C) = some (.ref c)) (r : ClX.CRead X.K c mc) (cm : ClX.CMet X.K c mc (Str.ofString m) p f)
    (hF : DOk X.prog X.w X.K X.mg X.base k f fd ps F) (hr : Room k X.A) (tk : Takes X W) (hps : ps.length = 1) (hb : Binds X.K fd ps [])
    (hd : (Str.ofString C == ("__debug__" : Str)) = false := by decide)
    (ht : eval (.Call (.Attribute (.Name (Str.ofString C) np) (Str.ofString m) apos) [] [] pos) X.env = (do
      let ov ← eval (.Name (Str.ofString C) np) X.env
      standAt apos.atName
      let (f, first) ← holding [ov] (getMethod ov (Str.ofString m) pl)
      callWith pos f first (backTo pos (starEach [] X.env)) (backToKw pos (keywordEach [] X.env))) := by rfl) :
    DE X W (.Call (.Attribute (.Name (Str.ofString C) np) (Str.ofString m) apos) [] [] pos) (cmE0 C F) := by
  refine ⟨⟨fun pins s st H Q I q => ?_⟩⟩
  obtain ⟨ro, sd, M, R, S, P⟩ := q
  refine PySem.W.methodCall_KW (pl := pl) (ld_glob I hgl hmg ?_ hd) ht
  refine ClX.getmethcm_ok I r cm fun s2 I2 => ?_
  refine PySem.W.callWith_M0 (K := X.K) (first := []) ⟨ClX.pin_at I2, I2.kIn⟩ cm.fi ?_
  have rr : Vals [V.ref c] [Value.ref c] := .cons rfl .nil
  have rs : Reps X.K X.mg ro H [D.glo C] [V.ref c] := ⟨_, _, rfl, ⟨c, rfl, hmg⟩, rfl⟩
  refine thn (Q := EP X ((s.heap.objs.size, PySem.W.methodObj (.ref f) (.ref c)) :: pins) st Q) ?_ fun _ _ y => ClX.unpinE y
  refine wpAny_call (PySem.W.method_call (ClX.pin_at I2) (codeAny_mono (hF.run X.A X.stack s2 H ⟨[.ref c], []⟩ [.ref c] [.ref c] Q (WE W st) hr I2.env0 ?_ rr ⟨by rw [hps]; rfl, ro, [.glo C], M, R, rs, P⟩) fun r s' hq => ?_))
  · have b := hb s2 [.ref c] I2.kIn (by rw [hps]; rfl)
    rwa [List.append_nil] at b
  · cases r with
    | error e => exact passAt tk st _ H s2 e s' I2 hq
    | ok fl =>
      cases fl with
      | ret u => exact I2.after hq
      | next => exact False.elim hq
      | brk => exact False.elim hq
      | cont => exact False.elim hq
/-- the def at f, its code object at c -/
structure FnC (K : PySem.W.Frag) (x qual : Str) (st : Stmt) (f : Addr) (fd : FuncData) (c : Addr) : Prop where
  ex : ∃ (oc : Value) (od : Option Addr) (dV kV doc pm : Value) (an : Option Addr) (ct : Value) (osl : Array (Option Value)), fd = PySem.W.fnOf x qual (defArgs st) (defBody st) (defScope st) dV kV doc pm an (.ref c) ct ∧ K.lookup f = some ⟨oc, od, .func fd, osl⟩
  cd : PySem.W.codeIn K (.ref c) qual = true
  kp : PySem.W.keepIn K (.ref f) = true
theorem funC_ok {P : Program} {w : World} {K : PySem.W.Frag} {mg : Str → Option Value} {base : Heap} {x qual : Str} {st : Stmt} {f c : Addr} {fd : FuncData} {N ps : List Str} {k : Nat} {body : MST} (Fn : FnC K x qual st f fd c) (S : FnScope N ps (defScope st))
    (hbody : ∀ (A : Around) (outer : List Env) (s : Shared) (H : Hp) (E : XK), Room k (A.deeper (envOfC qual (defScope st) s.heap.objs.size f (.ref c))) →
      Ctx (cxOf (L2.CX P w) P w K mg base N qual (defScope st) f (.ref c) A outer s H E) (fun cls d _ H' => E cls d H') →
      DSs (cxOf (L2.CX P w) P w K mg base N qual (defScope st) f (.ref c) A outer s H E) (fun cls d _ H' => E cls d H') (defBody st) body) : DOk P w K mg base (k + 1) f fd ps (runD N.length body) := by
  obtain ⟨oc, od, dV, kV, doc, pm, an, ct, osl, rfl, lk⟩ := Fn.ex
  refine fn_of lk Fn.cd S (fun vs H Q E h => h.1) fun A outer s H vs Q E hr h => ?_
  obtain ⟨hl, ro, ds, M, R, rs, Po⟩ := h
  have hc : Ctx (cxOf (L2.CX P w) P w K mg base N qual (defScope st) f (.ref c) A outer s H E) (fun cls d _ H' => E cls d H') := ⟨takes_of rfl rfl rfl rfl, passes_of rfl, rfl⟩
  refine ⟨_, (hbody A outer s H E hr hc).ps, ro, startD N.length ds, M, R, repSt_start rs, ?_⟩
  unfold runD at Po
  cases e : body (startD N.length ds) M with
  | nx sd M' => rw [e] at Po; exact fun ro' H' st rs q r => Po ro' H' .non rs q rfl
  | ret d M' => rw [e] at Po; exact Po
  | exc C ns ds' sd M' => rw [e] at Po; exact fun ro' H' st cls dd rs q _ r => Po ro' H' cls dd rs q r
  | brk sd M' => rw [e] at Po; exact Po.elim
  | ct sd M' => rw [e] at Po; exact Po.elim
  | stuck => rw [e] at Po; exact Po
def spLaw1 (K : PySem.W.Frag) (T : Addr) : Sp := fun vs H Q _ => ∃ (a : Addr) (ns : List Int), vs = [.ref a] ∧ SqL K H a (ns.map V.int) ∧ ns.length ≤ 63 ∧ H T = some (.tbl #[]) ∧ ∀ H', Q (.bl true) H'
theorem dok_law1 {K : PySem.W.Frag} {mg : Str → Option Value} {P : Program} {w : World} {base : Heap} {k : Nat} {f T : Addr} {fd : FuncData} {x : Str} {F : FM} {C m : String} (hT : IsTab K mg C m T) (h : DOk P w K mg base k f fd [x] F)
    (hlaw : ∀ ns : List Int, ns.length ≤ 63 → ∃ M', F [.flst (ns.map D.int)] [.tab 0 C m] = .ok (.bl true) M') : FnOk P w K mg base (L2.CX P w) k f fd [x] (spLaw1 K T) :=
  FnOk.imp h fun vs H Q E ⟨a, ns, hv, hS, hl, hH, q⟩ => by
    subst hv
    obtain ⟨M', e⟩ := hlaw ns hl
    refine ⟨rfl, ⟨[T], []⟩, [.flst (ns.map D.int)], [.tab 0 C m], ⟨rfl, by simp, fun a h => (by cases h), fun a _ h => (by cases h), fun i mo a h1 h2 => ?_⟩, ?_, ?_⟩
    · cases i with
      | succ i => simp at h1
      | zero =>
        simp at h1 h2
        subst h1 h2
        exact ⟨_, hH, #[], T, rfl, ⟨trivial, fun pos cv hc => by simp [codeAmong] at hc⟩, rfl, hT⟩
    · refine Reps.one ⟨a, ns.map V.int, rfl, ?_, DL.reps_ints ns⟩
      rcases hS with hS | ⟨o, its, n, h1, h2, h3, h4, h5, h6⟩
      · refine .inl ⟨hS, fun z => ?_⟩
        have z : a = T := by simpa [Pl.all] using z
        subst z
        rcases hS with hS | ⟨u, hS⟩ <;> rw [hH] at hS <;> cases hS
      · exact .inr ⟨o, its, n, h1, h2, h3, h4, h5, h6⟩
    · rw [e]
      intro ro' H' v _ _ r
      cases (show v = V.bl true from r)
      exact q H'
theorem walkD1 {l : PySem.W.OpenLaw} {q : Program} {loose : List Str} {XP : (Str → Option Value) → Heap → Prop} {YP : World → Heap → Prop} {d : DefRec} {K : Params → PySem.W.Frag} (x : Str) (k : Nat) (hn : l.most = some 63) (hdf : d.params.defaults = []) (hk : Room k callerA)
    (hY : ∀ (w : World) (h : Heap), YP w h → (K w.params).In h)
    (F : ∀ (w : World) (mg : Str → Option Value) (fa : Addr) (h : Heap), YP w h → (K w.params).In h → h.Ns mainGlobals mg → mg d.name = some (.ref fa) →
      ∃ (fd : FuncData) (c T : Addr), (∀ (s : Shared) (u : Value), BindsTo s fd ⟨[u], []⟩ [(x, u)]) ∧ h.get? T = some { cls := .none, data := .fields #[] } ∧ (K w.params).lookup T = none ∧ PySem.W.codeHdIn (K w.params) c T = true ∧
        ∀ base : Heap, (K w.params).In base → base.Ns mainGlobals mg → LamX.TabB base mg c T → FnOk l.prog w (K w.params) mg base (L2.CX l.prog w) k fa fd [x] (spLaw1 (K w.params) T)) :
    PySem.W.WalkO q loose XP YP l.row.toRowW d [] (fun f vs => PySem.call f vs) :=
  LamX.walk_ofTs (n := 63) (k := k) (x := x) (K := K) (CX := fun w => L2.CX l.prog w) hn (by decide) hdf hk hY (fun w mg fa h Y KX G hm => by
    obtain ⟨fd, c, T, h1, h2, h3, h4, h5⟩ := F w mg fa h Y KX G hm
    refine ⟨fd, [(c, T)], spLaw1 (K w.params) T, fun p hp => ?_, fun p hp => ?_, fun p hp => ?_, h1, fun H a ns hl _ hH hS => ⟨a, ns, rfl, hS, hl, hH (c, T) List.mem_cons_self, fun _ => rfl⟩, fun base b1 b2 b3 => h5 base b1 b2 (b3 (c, T) List.mem_cons_self)⟩
    · have : p = (c, T) := by simpa using hp
      subst this; exact h2
    · have : p = (c, T) := by simpa using hp
      subst this; exact h3
    · have : p = (c, T) := by simpa using hp
      subst this; exact PySem.W.codeHd_of_K KX h4) fun _ _ _ _ _ ⟨_, _, _, _, _, _, _, _, _, _, _, _, z⟩ => z
end DL
namespace DL
open PySem PySem.Spec L2
open PyProof.Rows hiding St
variable [HashW]
def revT (z : Str) : Str := ⟨z.cps.toList.reverse.toArray⟩
def tRevA (K : PySem.W.Frag) (te : TE) : TE := fun σ H Q => te σ H fun x H1 => (∃ a xs, x = .ref a ∧ SqL K H1 a xs ∧ ∀ p, H1 p = none → Q (.ref p) (upd H1 p (.lst xs.reverse))) ∨ (∃ z, x = .str z ∧ z.length ≤ sizeLine ∧ Q (.str (revT z)) H1)
theorem picked_rev (z : Str) (t : Tok) : (slicePicked z none none (some (-1, t))).filterMap (z.cps[·]?) = z.cps.toList.reverse := by
  show (sliceRange ((z.length : Int) - 1) (-1) (-1)).filterMap (z.cps[·]?) = _
  rw [PySem.W.krv_sliceRange, PySem.W.krv_range, List.filterMap_reverse]
  show ((List.range z.cps.size).filterMap (z.cps[·]?)).reverse = _
  rw [PySem.W.krv_all]
theorem pe_revA {X : Cx} {e : Expr} {te : TE} {k : Nat} {p1 p2 p3 pos : Pos} (he : PE X e te) : PE X (.Subscript e (.Slice none none (some (.UnaryOp .USub (.Constant (.int 1) k p1) p2)) p3) pos) (tRevA X.K te) := by
  refine ⟨fun pins s σ H Q I h => ?_⟩
  refine Subscript_ (thn (he.run pins s σ H _ I h) fun v s1 ⟨x, H1, I1, r1, q1⟩ => ?_)
  have hst : PO X (some (.UnaryOp .USub (.Constant (.int 1) k p1) p2)) (tPart (tUn (rU fun i => .int (-i)) (tC (.int 1)))) := po_some (pe_un un_neg pe_int)
  refine wpAny_Slice (thn (po_none.run pins s1 σ H1 (fun o H2 => o = none ∧ H2 = H1) I1 ⟨rfl, rfl⟩) fun vl s2 ⟨l, H2, I2, pl, el, e2⟩ => ?_)
  subst el e2
  refine thn (po_none.run pins s2 σ H2 (fun o H3 => o = none ∧ H3 = H2) I2 ⟨rfl, rfl⟩) fun vu s3 ⟨u, H3, I3, pu, eu, e3⟩ => ?_
  subst eu e3
  refine thn (hst.run pins s3 σ H3 (fun o H4 => o = some (-1) ∧ H4 = H3) I3 ⟨1, rfl, -1, rfl, rfl, rfl⟩) fun vs s4 ⟨o, H4, I4, ps, eo, e4⟩ => ?_
  subst eo e4
  have I5 : Inv X pins σ H4 { s4 with heap := s4.heap.push { cls := .type "slice", data := .fields #[vl, vu, vs] } } := I4.kept (t' := s4.toks) fun b ob q => Heap.get?_push_of_some _ q
  rcases q1 with ⟨a, xs, ex, hx, q⟩ | ⟨z, ex, hz, q⟩
  · subst ex
    cases r1
    obtain ⟨its, r, ht, hz⟩ := I5.list hx
    have hlen := r.length
    show wpAny (model X.prog X.w) X.A (subscriptTail e (.Slice none none (some (.UnaryOp .USub (.Constant (.int 1) k p1) p2)) p3) (.ref a) (.ref s4.heap.objs.size)) (EP X pins σ Q) X.xe { s4 with heap := s4.heap.push { cls := .type "slice", data := .fields #[vl, vu, vs] } }
    refine tail_any (ops := [.ref a, .ref s4.heap.objs.size]) ht.isList.typeIs (PySem.slot_list_getitem.lookup) ?_ (by with_unfolding_all rfl)
    refine wpAny_getItem_list_slice ht.isList (Heap.IsSliceOf.new _ vl vu vs) pl pu ps (by decide) ?_ (by rw [List.size_toArray]; omega)
    rw [PySem.W.krv_pick]
    refine ⟨.ref _, _, I5.laid (t' := s4.toks) (o := .lst xs.reverse) (fun b ob q => Heap.get?_push_of_some _ q) (Nat.le_refl _) ?_, rfl, q _ (I5.hok.fresh (Nat.le_refl _))⟩
    exact ⟨by rw [List.length_reverse]; exact hz, _, 0, r.reverse, Heap.get?_push_size _ rfl⟩
  · subst ex
    obtain ⟨t, rfl⟩ := r1
    obtain ⟨l, rfl, el⟩ := IsPart.raw pl
    obtain ⟨u, rfl, eu⟩ := IsPart.raw pu
    obtain ⟨w, rfl, ew⟩ := IsPart.raw ps
    cases l with
    | some l => cases el
    | none =>
    cases u with
    | some l => cases eu
    | none =>
    cases w with
    | none => cases ew
    | some w =>
    obtain ⟨w1, w2⟩ := w
    have : w1 = -1 := by simpa using ew
    subst this
    show wpAny (model X.prog X.w) X.A (subscriptTail e (.Slice none none (some (.UnaryOp .USub (.Constant (.int 1) k p1) p2)) p3) (.str z t) (.ref s4.heap.objs.size)) (EP X pins σ Q) X.xe _
    refine tail_any (T := "str") (ops := [.str z t, .ref s4.heap.objs.size]) (typeIs_str _ _ _) F.slot_str_getitem.lookup ?_ (by with_unfolding_all rfl)
    refine wpAny_getItem_str_slice (l := none) (u := none) (st := some (-1, w2)) ⟨_, Heap.get?_push_size _ rfl, rfl, rfl⟩ rfl ?_
    show Made.post (if (false && _) = true then Made.val (.str z t) else Made.str ⟨((slicePicked z none none (some (-1, w2))).filterMap (z.cps[·]?)).toArray⟩) (EP X pins σ Q) _
    rw [if_neg (by simp), picked_rev]
    refine ⟨?_, .str _, H4, I5.tok _, ⟨_, rfl⟩, q⟩
    simpa [Str.length] using hz
def revAE (mo : ME) : ME := fun sd M => (mo sd M).bind fun d M1 => match d with
  | .str x => if x.length ≤ 1000000 then .ok (.str x.reverse) M1 else .stuck
  | d => if isTup d = true then .stuck else match seqOf M1 d with
    | some ds => .ok (.lst ds.reverse) M1
    | none => .stuck
theorem revT_tx (x : List Nat) : revT (tx x) = tx x.reverse := by
  simp [revT, tx]
theorem de_revA {X : Cx} {W : WX} {e : Expr} {mo : ME} {k : Nat} {p1 p2 p3 pos : Pos} (he : DE X W e mo) : DE X W (.Subscript e (.Slice none none (some (.UnaryOp .USub (.Constant (.int 1) k p1) p2)) p3) pos) (revAE mo) := by
  refine ⟨⟨fun pins s st H Q I q => (pe_revA he.pe).run pins s st H Q I ?_⟩⟩
  obtain ⟨ro, sd, M, R, S, P⟩ := q
  refine ⟨ro, sd, M, R, S, (Post.bind P).imp fun x H1 ⟨ro1, M1, d, R1, P1, r1, q1⟩ => ?_⟩
  have key : PostD X.K X.mg (fun c d H' => W c d st H') ro1 H1 Q (if isTup d = true then .stuck else match seqOf M1 d with | some ds => .ok (.lst ds.reverse) M1 | none => .stuck) → (∃ a xs, x = .ref a ∧ SqL X.K H1 a xs ∧ ∀ p, H1 p = none → Q (.ref p) (upd H1 p (.lst xs.reverse))) := fun q1 => by
    split at q1
    · exact q1.elim
    · rename_i ht
      split at q1
      · rename_i ds hs
        obtain ⟨a, vs, rfl, q, rs⟩ := seq_list R1 r1 hs (by simpa using ht)
        exact ⟨a, vs, rfl, q, PostD.newL R1 rs.rev q1⟩
      · exact q1.elim
  cases d with
  | str z =>
    have q1 : PostD X.K X.mg (fun c d H' => W c d st H') ro1 H1 Q (if z.length ≤ 1000000 then .ok (.str z.reverse) M1 else .stuck) := q1
    cases (show x = V.str (tx z) from r1)
    split at q1
    · rename_i hz
      exact .inr ⟨tx z, rfl, by simp only [Str.length, List.size_toArray]; exact line_le hz, by rw [revT_tx]; exact PostD.pure (d := .str z.reverse) R1 rfl q1⟩
    · exact q1.elim
  | _ => exact .inl (key q1)
@[simp] theorem revE_ap {me : ME} {sd : SD} {M : MS} : revAE me sd M = (me sd M).bind fun d M1 => match d with
  | .str x => if x.length ≤ 1000000 then .ok (.str x.reverse) M1 else .stuck
  | d => if isTup d = true then .stuck else match seqOf M1 d with
    | some ds => .ok (.lst ds.reverse) M1
    | none => .stuck := rfl
theorem leS_total (a b : List Nat) : (leS a b || leS b a) = true := by
  unfold leS
  by_cases h : b < a
  · have : ¬ a < b := fun h2 => List.lt_irrefl _ (List.lt_trans h h2)
    simp [h, this]
  · simp [h]
theorem leS_trans (a b c : List Nat) (h1 : leS a b = true) (h2 : leS b c = true) : leS a c = true := by
  unfold leS at *
  simp only [Bool.not_eq_true', decide_eq_false_iff_not, List.not_lt] at *
  exact List.le_trans h1 h2
theorem leS_anti (a b : List Nat) (h1 : leS a b = true) (h2 : leS b a = true) : a = b := by
  unfold leS at *
  simp only [Bool.not_eq_true', decide_eq_false_iff_not, List.not_lt] at *
  exact List.le_antisymm h1 h2
theorem ltCps_lt : ∀ (a b : List Nat), ltCps a b = decide (a < b)
  | [], [] => by simp [ltCps]
  | [], _ :: _ => by simp [ltCps]
  | _ :: _, [] => by simp [ltCps]
  | x :: a, y :: b => by
    have ih := ltCps_lt a b
    unfold ltCps
    rw [ih]
    by_cases h : x < y
    · simp [h, List.cons_lt_cons_iff]
    · by_cases h2 : x = y
      · subst h2; simp [List.cons_lt_cons_iff]
      · simp [h, h2, List.cons_lt_cons_iff]
theorem rising_pw : ∀ (xs : List (List Nat)) (p : List Nat), risingS (tx p) (xs.map tx) = true → (p :: xs).Pairwise (fun a b => leS a b = true)
  | [], p, _ => by simp
  | x :: xs, p, h => by
    have h : (!ltCps x.toArray.toList p.toArray.toList && risingS (tx x) (xs.map tx)) = true := h
    simp only [Bool.and_eq_true, Bool.not_eq_true', ltCps_lt] at h
    obtain ⟨h1, h2⟩ := h
    have ih := rising_pw xs x h2
    have e : leS p x = true := by unfold leS; rw [h1]; rfl
    refine List.Pairwise.cons (fun y hy => ?_) ih
    rcases List.mem_cons.mp hy with rfl | hy
    · exact e
    · exact leS_trans _ _ _ e ((List.pairwise_cons.mp ih).1 y hy)
theorem sortT_eq {ns ns' : List (List Nat)} (p : ns'.Perm ns) (q : ns'.Pairwise (fun a b => leS a b = true)) : ns' = sortT ns := by
  refine List.Perm.eq_of_pairwise (le := fun a b => leS a b = true) (fun a b _ _ h1 h2 => leS_anti a b h1 h2) q ?_ (p.trans (List.mergeSort_perm ns _).symm)
  exact List.pairwise_mergeSort (le := leS) leS_trans leS_total ns
theorem tx_map_of_perm {ys : List Str} {xs : List (List Nat)} (h : ys.Perm (xs.map tx)) : ∃ zs : List (List Nat), ys = zs.map tx ∧ zs.Perm xs := by
  have e : ys = (ys.map (fun y : Str => y.cps.toList)).map tx := by
    rw [List.map_map]
    conv => lhs; rw [← List.map_id ys]
    apply List.map_congr_left
    intro y hy
    simp [tx]
  refine ⟨_, e, ?_⟩
  have := h.map (fun y : Str => y.cps.toList)
  rw [List.map_map] at this
  have e2 : xs.map ((fun y : Str => y.cps.toList) ∘ tx) = xs := by
    conv => rhs; rw [← List.map_id xs]
    apply List.map_congr_left
    intro y hy
    simp [tx]
  rwa [e2] at this
theorem callS_sortedS {X : Cx} : CallS X (.builtin "sorted") sortedSF := by
  refine ⟨_, cr_sortedS, fun ro H M ds xs E Q R rs P => ?_⟩
  unfold sortedSF at P
  split at P
  · rename_i bs h
    split at P
    · rename_i h64
      obtain ⟨es, h1, h2⟩ := Option.bind_eq_some_iff.mp h
      obtain ⟨a, vs, rfl, hq, q⟩ := lst1_at R rs h1
      rw [stsOf_eq h2] at q
      rw [Reps.strs q] at hq
      refine ⟨a, bs.map tx, rfl, hq, by simpa using h64, fun ys p hp ho hn => ?_⟩
      obtain ⟨zs, rfl, hz⟩ := tx_map_of_perm hp
      have : zs = sortT bs := sortT_eq hz (by
        cases zs with
        | nil => exact .nil
        | cons z zs => exact rising_pw zs z ho)
      subst this
      rw [List.map_map]
      exact PostD.newL R (map_reps (g := D.str) (v := V.str ∘ tx) (fun _ => rfl) _) P p hn
    · exact P.elim
  · exact P.elim
def leLT (x y : List Nat) : Bool := decide (x.length < y.length) || (decide (x.length = y.length) && leS x y)
theorem dataLe_len : PySem.W.dataLe false lenKey = leLT := by
  funext a b
  show (!PySem.W.dataLt (lenKey b) (lenKey a)) = _
  unfold lenKey leLT leS
  rw [PySem.W.dataLt_pair (by simp [PySem.W.alike]) (by simp [PySem.W.alike]), PySem.W.dataLt_int, PySem.W.dataLt_str]
  simp only [PyData.eqv, beq_iff_eq]
  have e1 : (tx b).cps.toList = b := by simp [tx]
  have e2 : (tx a).cps.toList = a := by simp [tx]
  have e3 : (tx b = tx a) ↔ b = a := tx_inj
  by_cases h1 : b.length = a.length
  · have h1' : ((b.length : Int) = (a.length : Int)) := by omega
    rw [if_pos h1']
    by_cases h2 : b = a
    · subst h2
      have : ¬ b < b := List.lt_irrefl _
      simp [this]
    · have h3 : ¬ tx b = tx a := fun z => h2 (e3.mp z)
      rw [if_neg h3]
      simp [h1, Nat.lt_irrefl]
  · have h1' : ¬ ((b.length : Int) = (a.length : Int)) := by omega
    rw [if_neg h1']
    by_cases h2 : b.length < a.length
    · have h3 : ¬ a.length < b.length := by omega
      have h4 : ¬ a.length = b.length := by omega
      simp [h2, h3, h4]
    · have h3 : a.length < b.length := by omega
      simp [h2, h3]
theorem sortLT_eq {ns ns' : List (List Nat)} (p : ns'.Perm ns) (q : ns'.Pairwise (fun a b => leLT a b = true)) : sortLT ns = ns' := by
  unfold sortLT
  rw [dataLe_len]
  have T : PySem.W.TotalLe leLT := by rw [← dataLe_len]; exact PySem.W.sortLe_total _ _ _
  refine (List.Perm.eq_of_pairwise (le := fun a b => leLT a b = true) (fun a b _ _ h1 h2 => ?_) q ?_ (p.trans (List.mergeSort_perm ns _).symm)).symm
  · unfold leLT at h1 h2
    simp only [Bool.or_eq_true, Bool.and_eq_true, decide_eq_true_eq] at h1 h2
    rcases h1 with h1 | ⟨h1, h1'⟩
    · rcases h2 with h2 | ⟨h2, _⟩ <;> omega
    · rcases h2 with h2 | ⟨_, h2'⟩
      · omega
      · exact leS_anti _ _ h1' h2'
  · exact List.pairwise_mergeSort (le := leLT) T.trans (fun a b => by rcases T.total a b with h | h <;> simp [h]) ns
theorem isTab0 {C m : String} {M : MS} (h : M[0]? = some (.tab 0 C m)) : isTab 0 C m M = true := by
  unfold isTab
  rw [h]
  simp
theorem sortLenE_ap {i : Nat} {C m : String} {me : ME} {sd : SD} {M : MS} : sortLenE i C m me sd M = (me sd M).bind fun d M1 => match (lst1 [d] M1).bind stsOf with
  | some xs => if isTab i C m M1 = true ∧ xs.length ≤ 100000 ∧ (∀ x, x ∈ xs → x.length < 1000000) then .ok (.lst ((sortLT xs).map D.str)) M1 else .stuck
  | none => .stuck := rfl
section
variable {C m : String} {okT : TN → Bool} {F : FM} {ns ns' bs : List String} {ds ds' es : List D} {d e r : D} {M M' : MS} {b : Bool} {i : Int} {x : List Nat} {sd : SD} {a : ME} {ms : MA} {n : Nat} {g : List D → List D}
theorem binO_obj (h : F [.obj C ns ds, .obj C ns' ds'] M = .ok r M') : binO C F (.obj C ns ds) (.obj C ns' ds') M = .ok r M' := by unfold binO isIns ownR; simp [h]
theorem eqO_obj (ht : isTN M (okE C bs) e = true) (h : F [.obj C ns ds, e] M = .ok r M') : eqO C (okE C bs) F (.obj C ns ds) e M = .ok r M' := by unfold eqO isIns ownR; simp [h, ht]
theorem strO_obj (h : F [.obj C ns ds] M = .ok (.str x) M') : call1O C F isStrD [.obj C ns ds] M = .ok (.str x) M' := by unfold call1O isIns ownR; simp [h, isStrD]
@[simp] theorem truOB_ap : truOB C F a sd M = (a sd M).bind (truO C F) := rfl
theorem methK_obj (h : ns.contains m = false) : methK C m n F g ms sd (.obj C ns ds) M = (ms sd M).bind (methK2 n F g (.obj C ns ds)) := methK_ap (by unfold insOf; simp [h]; simpa using h)
theorem isTN_obj : isTN M (okE C bs) (.obj C ns ds) = true := by unfold isTN tnD okE; simp
@[simp] theorem cmE0_ap : cmE0 C F sd M = F [.glo C] M := rfl
def notTK : Bool → MS → Res D := fun b M1 => .ok (.bl (!b)) M1
@[simp] theorem notTE_ap {t : MB} : notTE t sd M = (t sd M).bind notTK := rfl
@[simp] theorem notTK_ap {b : Bool} : notTK b M = .ok (.bl (!b)) M := rfl
theorem allF_map {α : Type} {p : α → Bool} {xs : List α} : allF [.lst (xs.map fun c => D.bl (p c))] M = .ok (.bl (xs.all p)) M := by
  have e : (xs.map fun c => D.bl (p c)) = (xs.map p).map D.bl := by rw [List.map_map]; rfl
  unfold allF
  show (match (blsOf (xs.map fun c => D.bl (p c))) with | some bs => Res.ok (D.bl (bs.all id)) M | none => .stuck) = _
  rw [e, blsOf_map]
  simp
theorem anyF_map {α : Type} {p : α → Bool} {xs : List α} : anyF [.lst (xs.map fun c => D.bl (p c))] M = .ok (.bl (xs.any p)) M := by
  have e : (xs.map fun c => D.bl (p c)) = (xs.map p).map D.bl := by rw [List.map_map]; rfl
  unfold anyF
  show (match (blsOf (xs.map fun c => D.bl (p c))) with | some bs => Res.ok (D.bl (bs.any id)) M | none => .stuck) = _
  rw [e, blsOf_map]
  simp
theorem addD_lst (h : (ds.length + es.length) ≤ 1000000) : addD (.lst ds) (.lst es) M = .ok (.lst (ds ++ es)) M := by
  unfold addD
  rw [if_neg (by simp [isI2]), if_neg (by simp [isS2]), if_neg (by simp [isT2])]
  unfold addL
  simp [isTup, h]
end
end DL
namespace DL
open PySem PySem.Spec L2
open PyProof.Rows hiding St
variable [HashW]
def isNF (d e : D) (M : MS) : Res D := match e with
  | .non => .ok (.bl (isN d)) M
  | _ => .stuck
def notNF (d e : D) (M : MS) : Res D := match e with
  | .non => .ok (.bl (!isN d)) M
  | _ => .stuck
section
variable {X : Cx}
theorem opS_isNF : OpS X (compareOp .Is) isNF := opS_isN
end
end DL
namespace DL
open PySem PySem.Spec L2
open PyProof.Rows hiding St
variable [HashW]
section
variable {sd : SD} {M : MS} {d e : D} {ds es : List D} {x y : List Nat} {mo m : ME} {lo hi : MO'} {l h : Option Int}
def slK1 (lo hi : MO') (sd : SD) : D → MS → Res D := fun d M1 => (lo sd M1).bind fun l M2 => (hi sd M2).bind fun h M3 => sliceD d l h M3
def slK2 (hi : MO') (sd : SD) (d : D) : Option Int → MS → Res D := fun l M2 => (hi sd M2).bind fun h M3 => sliceD d l h M3
def slK3 (d : D) (l : Option Int) : Option Int → MS → Res D := fun h M3 => sliceD d l h M3
def soK : D → MS → Res (Option Int) := fun d M1 => match d with
  | .int i => .ok (some i) M1
  | _ => .stuck
@[simp] theorem slE_ap : slE mo lo hi sd M = (mo sd M).bind (slK1 lo hi sd) := rfl
@[simp] theorem slK1_ap : slK1 lo hi sd d M = (lo sd M).bind (slK2 hi sd d) := rfl
@[simp] theorem slK2_ap : slK2 hi sd d l M = (hi sd M).bind (slK3 d l) := rfl
@[simp] theorem slK3_ap : slK3 d l h M = sliceD d l h M := rfl
@[simp] theorem noO_ap : noO sd M = .ok none M := rfl
@[simp] theorem soO_ap : soO m sd M = (m sd M).bind soK := rfl
@[simp] theorem soK_ap {i : Int} : soK (.int i) M = .ok (some i) M := rfl
@[simp] theorem sliceD_lst : sliceD (.lst ds) l h M = .ok (.lst (cutL ds l h)) M := rfl
@[simp] theorem sliceD_tup : sliceD (.tup ds) l h M = .ok (.tup (cutL ds l h)) M := rfl
theorem sliceD_str (hx : x.length ≤ 1000000) : sliceD (.str x) l h M = .ok (.str (cutL x l h)) M := if_pos hx
theorem cutL_to {α : Type} (xs : List α) (k : Nat) : cutL xs none (some (k : Int)) = xs.take k := by
  unfold cutL
  rw [HT.sIx_none, HT.sIx_nat, List.drop_zero, Nat.sub_zero]
  by_cases h : k ≤ xs.length
  · rw [Nat.min_eq_left h]
  · rw [Nat.min_eq_right (by omega), List.take_of_length_le (Nat.le_refl _), List.take_of_length_le (by omega)]
theorem cutL_from {α : Type} (xs : List α) (k : Nat) : cutL xs (some (k : Int)) none = xs.drop k := by
  unfold cutL
  rw [HT.sIx_none, HT.sIx_nat]
  by_cases h : k ≤ xs.length
  · rw [Nat.min_eq_left h, List.take_of_length_le (by rw [List.length_drop]; omega)]
  · rw [Nat.min_eq_right (by omega), List.drop_of_length_le (Nat.le_refl _), List.drop_of_length_le (by omega)]; simp
theorem cutL_mid {α : Type} (xs : List α) (a b : Nat) (h : b ≤ xs.length) (hab : a ≤ b) : cutL xs (some (a : Int)) (some (b : Int)) = (xs.drop a).take (b - a) := by
  unfold cutL
  simp only [HT.sIx_nat]
  rw [Nat.min_eq_left (show b ≤ xs.length from h), Nat.min_eq_left (show a ≤ xs.length by omega)]
theorem cutL_last {α : Type} (xs : List α) (a : Nat) (h : a < xs.length) : cutL xs (some (a : Int)) (some (-1)) = (xs.drop a).dropLast := by
  unfold cutL
  have h1 : HT.sIx xs.length xs.length (some (-1)) = xs.length - 1 := by
    show (if (-1 : Int) < 0 then ((-1 : Int) + (xs.length : Int)).toNat else min (-1 : Int).toNat xs.length) = _
    rw [if_pos (by decide)]; omega
  have h2 : HT.sIx xs.length 0 (some (a : Int)) = a := by rw [HT.sIx_nat]; omega
  have h3 : (xs.drop a).dropLast = (xs.drop a).take ((xs.drop a).length - 1) := List.dropLast_eq_take
  have h4 : (xs.drop a).length = xs.length - a := by simp
  rw [h1, h2, h3, h4]
  congr 1
  omega
theorem addD_tup (hl : ds.length + es.length ≤ 1000000) : addD (.tup ds) (.tup es) M = .ok (.tup (ds ++ es)) M := by
  unfold addD
  rw [if_neg (by simp [isI2]), if_neg (by simp [isS2]), if_pos (by simp [isT2])]
  exact if_pos hl
@[simp] theorem isNF_ap : isNF d .non M = .ok (.bl (isN d)) M := rfl
@[simp] theorem notNF_ap : notNF d .non M = .ok (.bl (!isN d)) M := rfl
@[simp] theorem iaddD_int {i j : Int} : iaddD (.int i) (.int j) M = .ok (.int (i + j)) M := rfl
@[simp] theorem isiB_str : isiF [] tblB [.str x, .ty "str"] M = .ok (.bl true) M := rfl
@[simp] theorem isiB_tup : isiF [] tblB [.tup ds, .ty "str"] M = .ok (.bl false) M := rfl
theorem inD_strs {neg : Bool} {xs : List (List Nat)} (hx : okC x) (hs : ∀ z, z ∈ xs → okC z) : inD neg (.str x) (.lst (xs.map D.str)) M = .ok (.bl (decide (x ∈ xs) != neg)) M := by
  have h1 := pl_py (M := M) 7 29 (.str x) (by simpa using hx) (by omega)
  have h2 := pl_py (M := M) 7 29 (.lst (xs.map D.str)) (by rw [plN_lst]; exact plNs_map fun z hz => by rw [plN_str]; exact hs z hz) (by omega)
  unfold inD
  rw [if_neg (by simp [isS2])]
  unfold inP pyD
  rw [h1.1, h2.1]
  have e : toP (.lst (xs.map D.str)) = .list (xs.map fun z => PyData.str (tx z)) := by
    show PyData.list (toPs (xs.map D.str)) = _
    congr 1
    clear hs h2
    induction xs with
    | nil => rfl
    | cons z xs ih => simp [toPs, toP, ih]
  have s1 : SeqAt.shaped (toP (.str x)) = true := by unfold SeqAt.shaped; simp [h1.2.1]; have := h1.2.2; omega
  have s2 : SeqAt.shaped (toP (.lst (xs.map D.str))) = true := by unfold SeqAt.shaped; simp [h2.2.1]; have := h2.2.2; omega
  rw [e] at s2 ⊢
  simp only [s1, s2, and_self, if_true]
  have key : ((xs.map fun z => PyData.str (tx z)).any fun z => PyData.eqv z (toP (.str x))) = decide (x ∈ xs) := by
    rw [List.any_map, Bool.eq_iff_iff]
    simp only [List.any_eq_true, Function.comp_apply, decide_eq_true_eq]
    constructor
    · rintro ⟨z, hz, h⟩
      have h : (tx z == tx x) = true := h
      have := tx_inj.mp (beq_iff_eq.mp h)
      rw [← this]; exact hz
    · exact fun h => ⟨x, h, by show (tx x == tx x) = true; simp⟩
  rw [key]
theorem fstrE_ap {ms : List ME} : fstrE ms sd M = jGo ms [] sd M := rfl
def jK (ms : List ME) (acc : List Nat) (sd : SD) : D → MS → Res D := fun d M1 => match d with
    | .str y => if acc.length + y.length ≤ 1000000 then jGo ms (acc ++ y) sd M1 else .stuck
    | _ => .stuck
theorem jGo_nil {acc : List Nat} : jGo [] acc sd M = .ok (.str acc) M := rfl
theorem jGo_cons {ms : List ME} {acc : List Nat} : jGo (m :: ms) acc sd M = (m sd M).bind (jK ms acc sd) := rfl
theorem jK_str {ms : List ME} {acc : List Nat} (h : acc.length + y.length ≤ 1000000) : jK ms acc sd (.str y) M = jGo ms (acc ++ y) sd M := if_pos h
theorem fmtE_str {a : ME} {M1 : MS} (h : a sd M = .ok (.str y) M1) (hy : y.length ≤ 1000000) : fmtE a sd M = .ok (.str y) M1 := by
  unfold fmtE
  rw [h, Res.bind_ok]
  exact if_pos hy
theorem whileS_ap {n : Nat} {c : MB} {b : MST} : whileS n c b sd M = whileGo c b n sd M := rfl
theorem whileGo_f {n : Nat} {c : MB} {b : MST} {M1 : MS} (h : c sd M = .ok false M1) : whileGo c b (n + 1) sd M = .nx sd M1 := by
  unfold whileGo
  rw [h]; rfl
theorem whileGo_t {n : Nat} {c : MB} {b : MST} {M1 M2 : MS} {sd2 : SD} (h : c sd M = .ok true M1) (hb : b sd M1 = .nx sd2 M2) : whileGo c b (n + 1) sd M = whileGo c b n sd2 M2 := by
  conv => lhs; unfold whileGo
  rw [h]
  show (match b sd M1 with | .nx sd2 M2 => whileGo c b n sd2 M2 | .ct sd2 M2 => whileGo c b n sd2 M2 | .brk sd2 M2 => .nx sd2 M2 | .ret v M2 => .ret v M2 | .exc C ns ds sd2 M2 => .exc C ns ds sd2 M2 | .stuck => .stuck) = _
  rw [hb]
end
end DL
namespace DL
open PySem PySem.Spec L2
open PyProof.Rows hiding St
variable [HashW]
def iaddL (d e : D) (M : MS) : Res D := match d, e with
  | .cell n, .lst ys => (match M[n]? with
    | some (.lst xs) => if xs.length + ys.length ≤ 1000000 then .ok (.cell n) (M.set n (.lst (xs ++ ys))) else .stuck
    | _ => .stuck)
  | _, _ => .stuck
def isCel (d _e : D) (_M : MS) : Bool := match d with
  | .cell _ => true
  | _ => false
def iaddX : D → D → MS → Res D := fun d e M => if isCel d e M = true then iaddL d e M else iaddD d e M
section
variable {X : Cx} {M : MS}
theorem iopS_addL : OpS X (inplaceOp .Add) iaddL := by
  refine ⟨_, iop_ext, fun ro H M d e x y E Q R rx ry P => ?_⟩
  cases d <;> cases e <;> try exact P.elim
  rename_i n ys
  have P : PostD X.K X.mg E ro H Q (match M[n]? with | some (.lst xs) => if xs.length + ys.length ≤ 1000000 then .ok (.cell n) (M.set n (.lst (xs ++ ys))) else .stuck | _ => .stuck) := P
  split at P
  · rename_i xs hm
    split at P
    · rename_i hl
      obtain ⟨a, ho, rfl, g, h, vs, rfl, q⟩ := R.cellAt rx hm
      obtain ⟨b, zs, rfl, hb, _, qz⟩ := id ry
      obtain ⟨R', P'⟩ := R.change (o := .lst (vs ++ zs)) (mo := .lst (xs ++ ys)) g ⟨_, rfl, q.append qz⟩
      exact ⟨a, b, vs, zs, rfl, rfl, h, hb, by rw [← q.len, ← qz.len]; exact line_le hl, P ro _ _ R' P' ⟨a, rfl, g⟩⟩
    · exact P.elim
  · exact P.elim
theorem iopS_addX : OpS X (inplaceOp .Add) iaddX := OpS.or iopS_addL iopS_add isCel
@[simp] theorem gtD_strs {x y : List Nat} : gtD (.str x) (.str y) M = .ok (.bl (decide (y < x))) M := rfl
@[simp] theorem iaddX_int {i j : Int} : iaddX (.int i) (.int j) M = .ok (.int (i + j)) M := rfl
end
end DL
namespace DL
open PySem PySem.Spec L2
open PyProof.Rows hiding St
end DL
namespace DL
open PySem PySem.Spec L2
open PyProof.Rows hiding St
end DL
namespace DL
open PySem PySem.Spec L2
open PyProof.Rows hiding St
variable [HashW]
set_option maxHeartbeats 1000000 in
theorem meets_enumerate_newB1 {v : Value} {o : Obj} {H : Heap → Prop} (B : Begins v o H) :
    Meets (Builtin.«enumerate.__new__» ⟨[.type "enumerate", v], []⟩) (fun _ R s => H s.heap ∧
      R (.ok (.ret (.ref (s.heap.push o).objs.size))) { s with heap := (s.heap.push o).push { cls := .type "enumerate", data := .fields #[.none, .bool false, .ref s.heap.objs.size, rawInt 0, .none, .none] } }) :=
  .of_wp fun prog w A R s h => by
    obtain ⟨hp, g, d, tk, os⟩ := s; obtain ⟨h1, h⟩ := h
    have hsub := sub_enumerate
    have q1 : ∀ {A' : Around} {E : Value → Shared → Prop} {Q : Value → Shared → Prop}, Q (.ref hp.objs.size) ⟨hp.push o, g, d, tk, os⟩ → wpAny (model prog w) A' (pyIter v) Q E ⟨hp, g, d, tk, os⟩ :=
      fun q => B.iter prog w _ _ ⟨hp, g, d, tk, os⟩ _ h1 q
    wp_walk using q1
    refine wpAny_stack_any fun st => wpAny_pure ?_
    split
    · rename_i c _ _ _ _ _
      cases (c == Value.type "enumerate")
      · wp_walk using q1
        exact ⟨_, rfl, h⟩
      · wp_walk using q1
        exact ⟨_, rfl, h⟩
    · wp_walk using q1
      exact ⟨_, rfl, h⟩
section
variable {prog : Program} {w : World} {A : Around} {E : Value → Shared → Prop} {s : Shared}
theorem enum_begins1 {v : Value} {o : Obj} {H : Heap → Prop} {Q : Value → Shared → Prop} (B : Begins v o H) (h1 : H s.heap)
    (h : ∀ h', IsEnum h' (s.heap.objs.size + 1) s.heap.objs.size 0 .none → h'.get? s.heap.objs.size = some o → h'.objs.size = s.heap.objs.size + 2 →
      (∀ b o, s.heap.get? b = some o → h'.get? b = some o) → Q (.ref (s.heap.objs.size + 1)) { s with heap := h' }) :
    wpAny (model prog w) A (call (.type "enumerate") [v]) Q E s := by
  refine callType_new F.called_enumerate (by decide) (F.typeCall_enumerate_1 _) (F.newCall_enumerate_1 _) (fun obj => F.args_object_init_2 obj _) F.entry_enumerate_new
    (meets_enumerate_newB1 B) ⟨h1, ?_⟩
  have hz : (s.heap.push o).objs.size = s.heap.objs.size + 1 := Heap.size_push ..
  show _ ∧ _
  rw [hz]
  have he : IsEnum ((s.heap.push o).push { cls := .type "enumerate", data := .fields #[.none, .bool false, .ref s.heap.objs.size, rawInt 0, .none, .none] }) (s.heap.objs.size + 1) s.heap.objs.size 0 .none := by
    have := Heap.get?_push_size (s.heap.push o) (o := { cls := .type "enumerate", data := .fields #[.none, .bool false, .ref s.heap.objs.size, rawInt 0, .none, .none] }) rfl
    rw [hz] at this; exact this
  refine ⟨⟨_, he, rfl⟩, h _ he (Heap.get?_push_of_some _ (Heap.get?_push_size _ B.free)) (by rw [Heap.size_push, hz]) fun b o x => Heap.get?_push_of_some _ (Heap.get?_push_of_some _ x)⟩
end
/-- the tuple at a as it stands at each turn, each item in a new pair -/
def IteT (K : PySem.W.Frag) (a : Addr) : It :=
  ⟨fun i H => ∃ (xs : List V) (x : V), SqT K H a xs ∧ xs[i]? = some x, fun i H v H' => ∃ T x, v = .ref T ∧ H T = none ∧ H' = upd H T (.tup [.int (i : Nat), x]) ∧ ∀ xs, SqT K H a xs → xs[i]? = some x, fun i H => ∃ xs : List V, SqT K H a xs ∧ xs.length ≤ i⟩
theorem turn_enumT {P : Program} {w : World} {K : PySem.W.Frag} {elts : List Expr} {kk : Nat} {tpos : Pos} (a e it : Addr) :
    Turn P w K (.Tuple elts kk tpos) (IteT K a) [e, it] e (fun i h => (∃ old, IsEnum h e it ((i : Nat) : Int) old) ∧ h.IsTupleIter it a i ∧ e ≠ it ∧ e ≠ a ∧ a ≠ it) where
  mem := by simp
  obj := fun i h st b hb => by
    obtain ⟨⟨old, he⟩, ⟨o, ho, hc, hd⟩, _⟩ := st
    have e' : b = e ∨ b = it := by simpa using hb
    rcases e' with z | z
    · rw [z]; exact ⟨_, he, fun v q => nomatch q⟩
    · rw [z]; exact ⟨o, ho, fun v q => by rw [hd] at q; cases q⟩
  keep := fun i h h' st k => let ⟨⟨old, he⟩, hi, hne⟩ := st; ⟨⟨old, k e (by simp) _ he⟩, hi.at fun o q => k it (by simp) o q, hne⟩
  item := by
    intro X hP hw hK hc i pins s σ H E I hf st hg
    subst hP hw hK
    obtain ⟨⟨old, he⟩, hit, hne, hea, hai⟩ := st
    obtain ⟨xs, x, hq, hx⟩ := hg
    obtain ⟨its, rv, p, hz⟩ := I.tuple hq
    obtain ⟨u, hu, ru⟩ := rv.get hx
    have hel : e < s.heap.objs.size := Heap.lt_size he
    have hil : it < s.heap.objs.size := by obtain ⟨_, q, _⟩ := hit; exact Heap.lt_size q
    have hA : X.A.in1.handled = none := I.ok.hd hc
    have D := Draws.tuple (prog := X.prog) (w := X.w) hA it a hai its.toArray
    have hin : i < its.toArray.size := by
      have := (List.getElem?_eq_some_iff.mp hu).1
      simpa using this
    refine wpAny_pyNext_enum_itemC D he ⟨hit, p⟩ hin hne (by simp [hne, hea]) fun x' h' tk hP' ho st' hT hsz hk => ?_
    obtain ⟨hit', p'⟩ := st'
    have ex : x' = u := by
      have h1 : its.toArray[i]? = some x' := hP'
      rw [List.getElem?_toArray, hu] at h1
      exact (Option.some.inj h1).symm
    subst ex
    refine ⟨_, rfl, wpAny_letOwnedTupleGo_enum (s := { s with heap := h', toks := tk + 1 }) ho fun h'' he' sb => ?_⟩
    have hT2 : h''.get? s.heap.objs.size = some { cls := .type "tuple", data := .seq #[.int i tk, x'] } := (sb.2 _ (Nat.ne_of_gt hel)).trans hT
    have new : ObjOk X.prog X.w (upd H s.heap.objs.size (.tup [.int (i : Nat), x])) h'' s.heap.objs.size (.tup [.int (i : Nat), x]) :=
      ⟨by show 2 ≤ sizeLine; decide, [.int i tk, x'], .cons ⟨_, rfl⟩ (.cons ru .nil), ⟨_, hT2, rfl, _, rfl⟩⟩
    have I1 : Inv X pins σ (upd H s.heap.objs.size (.tup [.int (i : Nat), x])) { s with heap := h'', toks := tk + 1 } :=
      I.turnedNew (ch := [e, it]) (fun b ob hb q => (sb.2 b (fun z => hb (by simp [z]))).trans (hk b ob (fun z => hb (by simp [z])) (fun z => hb (by simp [z])) q)) hf (Nat.le_refl _) new
    refine ⟨.ref s.heap.objs.size, _, I1, rfl, ⟨_, x, rfl, I.hok.fresh (Nat.le_refl _), rfl, fun ys hy => by rw [I.tuple_inj hy hq]; exact hx⟩, ⟨⟨x', ?_⟩, hit'.at fun o q => (sb.2 it (Ne.symm hne)).trans q, hne, hea, hai⟩, fun b hb => ?_⟩
    · have e1 : ((i + 1 : Nat) : Int) = (i : Int) + 1 := by omega
      rw [e1]; exact he'
    · have hb' : b < s.heap.objs.size := by
        have e' : b = e ∨ b = it := by simpa using hb
        rcases e' with z | z
        · rw [z]; exact hel
        · rw [z]; exact hil
      rw [upd_ne (Nat.ne_of_lt hb')]
      exact (hf b hb).1
  done := by
    intro X hP hw hK hc i pins s σ H E I hf st hg
    subst hP hw hK
    obtain ⟨⟨old, he⟩, hit, hne, hea, hai⟩ := st
    obtain ⟨xs, hq, hx⟩ := hg
    obtain ⟨its, rv, p, hz⟩ := I.tuple hq
    obtain ⟨f0, f1, f2, f3, f4, f5⟩ := hf it (by simp)
    have hl := rv.length
    have hA : X.A.in1.handled = none := I.ok.hd hc
    have D : Draws X.prog X.w X.A.in1 it [it, a] 0 (fun _ _ => True) (fun _ h => h.IsTupleIter it a i ∧ h.IsTuple a its.toArray) :=
      { live := fun _ _ st => let ⟨o, ho, _⟩ := st.1; ⟨o, ho⟩
        frame := fun _ _ _ st hk => ⟨st.1.at fun o e => hk it (by simp) o e, st.2.at fun o e => hk a (by simp) o e⟩
        item := fun i s Q E hi _ _ => absurd hi (by omega)
        done := fun s Q E st hE => wpAny_nextOf_tuple_end hA st.1 st.2 (by simp; omega) hE }
    exact wpAny_pyNext_enum_endD D he ⟨hit, p⟩ fun h' eb => ⟨rfl, I.turned (t' := s.toks) (fun b o hb q => eb b o hb q) f0 f1 f3 f4 f5⟩
  self := fun A i s Q E st h => let ⟨⟨_, he⟩, _⟩ := st; wpAny_pyIter_enum he h
/-- over a list or a tuple -/
def iEnumX (K : PySem.W.Frag) (ta : TA) : TI := fun σ H R => ta σ H fun vs H1 => ∃ a xs, vs = [.ref a] ∧ ((SqL K H1 a xs ∧ R (Ite K a) H1) ∨ (SqT K H1 a xs ∧ R (IteT K a) H1))
theorem pi_enumX {X : Cx} {e : Expr} {ta : TA} {p pos tpos : Pos} {elts : List Expr} {kk : Nat} (hg : Gl X "enumerate") (hm : X.mg "enumerate" = none) (ha : PA X [e] ta) (hs : starEach [e] X.env = [(false, eval e X.env)] := by rfl) :
    PI X (.Tuple elts kk tpos) (.Call (.Name "enumerate" p) [e] [] pos) (iEnumX X.K ta) := by
  refine ⟨fun pins s σ H R I h => ?_⟩
  refine Call_ (ld_blt I hg hm boot_enumerate (PyProof.Rows.callWith_type1 (thn (ha.run pos pins s σ H _ I h) fun us s1 ⟨vs, H1, I1, r1, q1⟩ => ?_) hs rfl))
  obtain ⟨a, xs, ex, q1⟩ := q1
  subst ex
  cases r1 with
  | cons r rr =>
    cases rr
    cases r
    have fp : ∀ h' : Heap, (∀ b o, s1.heap.get? b = some o → h'.get? b = some o) → ∀ b ∈ [s1.heap.objs.size + 1, s1.heap.objs.size], s1.heap.objs.size ≤ b := fun h' _ b hb => by
      have e' : b = s1.heap.objs.size + 1 ∨ b = s1.heap.objs.size := by simpa using hb
      rcases e' with z | z
      · rw [z]; exact Nat.le_add_right _ _
      · rw [z]; exact Nat.le_refl _
    rcases q1 with ⟨hq, q⟩ | ⟨hq, q⟩
    · obtain ⟨its, rv, p', hz⟩ := I1.list hq
      refine call_enumerate_list p'.isList fun h' he hit hsz hk => wpAny_pyIter_enum he ?_
      have I2 : Inv X pins σ H1 { s1 with heap := h' } := I1.kept (t' := s1.toks) hk
      refine ⟨s1.heap.objs.size + 1, [s1.heap.objs.size + 1, s1.heap.objs.size], _, _, H1, rfl, I2, turn_enum a (s1.heap.objs.size + 1) s1.heap.objs.size, ⟨⟨.none, he⟩, hit, Nat.succ_ne_self _⟩, fun b hb => ?_, q⟩
      have hle := fp h' hk b hb
      exact I1.fpOk hle (I1.hok.fresh hle)
    · obtain ⟨its, rv, p', hz⟩ := I1.tuple hq
      have hal : a < s1.heap.objs.size := by obtain ⟨_, e, _⟩ := p'; exact Heap.lt_size e
      refine enum_begins1 (begins_tuple a its.toArray) p' fun h' he hit hsz hk => wpAny_pyIter_enum he ?_
      have I2 : Inv X pins σ H1 { s1 with heap := h' } := I1.kept (t' := s1.toks) hk
      refine ⟨s1.heap.objs.size + 1, [s1.heap.objs.size + 1, s1.heap.objs.size], _, _, H1, rfl, I2, turn_enumT a (s1.heap.objs.size + 1) s1.heap.objs.size, ⟨⟨.none, he⟩, ⟨_, hit, rfl, rfl⟩, Nat.succ_ne_self _, Nat.ne_of_gt (Nat.lt_succ_of_lt hal), Nat.ne_of_lt hal⟩, fun b hb => ?_, q⟩
      have hle := fp h' hk b hb
      exact I1.fpOk hle (I1.hok.fresh hle)
def enumX (m : ME) : MI := fun sd M => (m sd M).bind fun d M1 => match seqOf M1 d with
  | some ds => .ok ⟨enumD 0 ds, lchk M1 d⟩ M1
  | none => .stuck
section
variable {X : Cx}
theorem di_enumX {W : WX} {e : Expr} {m : ME} {p pos tpos : Pos} {elts : List Expr} {kk : Nat} (hg : Gl X "enumerate") (hm : X.mg "enumerate" = none) (h : DE X W e m) (hs : starEach [e] X.env = [(false, eval e X.env)] := by rfl) (hs2 : starEach [e] X.env = (false, eval e X.env) :: starEach [] X.env := by rfl) :
    DI X W (.Tuple elts kk tpos) (.Call (.Name "enumerate" p) [e] [] pos) (enumX m) := by
  refine ⟨⟨fun pins s st H Q I q => (pi_enumX hg hm (da_cons h da_nil hs2).pa hs).run pins s st H Q I ?_⟩⟩
  obtain ⟨ro, sd, M, R, S, P⟩ := q
  refine ⟨ro, sd, M, R, S, ?_⟩
  have P : Post _ X.K X.mg (fun c d H' => W c d st H') ro H Q ((m sd M).bind _) := P
  unfold consA
  cases em : m sd M with
  | stuck => rw [em] at P; exact P.elim
  | exc C ns ds M1 => rw [em] at P; exact P
  | ok d M1 =>
    rw [em, Res.bind_ok] at P
    rintro ro1 H1 xs R1 P1 rs
    obtain ⟨x, rfl, rx⟩ := reps1 rs
    split at P
    · rename_i ds hs'
      cases ht : isTup d with
      | false =>
        obtain ⟨a, vs, rfl, hq, q'⟩ := seq_list R1 rx hs' ht
        refine ⟨a, vs, rfl, .inl ⟨hq, P ro1 H1 _ R1 P1 fun ro' H' M' R' P' hM => ?_⟩⟩
        have hM : seqOf M' d = some ds := by rw [← hs']; exact hM
        obtain ⟨a', vs', e', hq', rs'⟩ := seq_list R' (Rep.monoW P' _ _ rx) hM ht
        cases e'
        refine ⟨⟨vs', hq', by rw [enumD_len, rs'.len]; exact Nat.le_refl _⟩, fun i z hz => ?_⟩
        obtain ⟨y, hy, rfl⟩ := enumD_get ds 0 i z hz
        obtain ⟨v, hv, rv⟩ := rs'.get hy
        refine ⟨⟨vs', v, hq', hv⟩, fun w H'' ⟨T, y', ew, hT, eH, hall⟩ => ?_⟩
        subst ew eH
        have ey := hall vs' hq'
        rw [hv] at ey
        cases ey
        obtain ⟨R2, P2⟩ := R'.alloc (o := .tup [.int (i : Nat), v]) hT
        refine ⟨fun b o h => upd_grow hT b o h, ⟨T, [.int (i : Nat), v], rfl, .inl ⟨.inl upd_same, R'.fresh hT⟩, ?_⟩⟩
        exact ⟨_, _, rfl, by rw [Nat.zero_add]; rfl, Reps.one (Rep.mono P2 _ _ rv)⟩
      | true =>
        obtain ⟨es, rfl⟩ : ∃ es, d = .tup es := by cases d <;> first | exact ⟨_, rfl⟩ | cases ht
        cases hs'
        obtain ⟨a, vs, rfl, hq, q'⟩ := rx
        refine ⟨a, vs, rfl, .inr ⟨hq.sq, P ro1 H1 _ R1 P1 fun ro' H' M' R' P' hM => ?_⟩⟩
        have rx' : Rep X.K X.mg ro' H' (.tup ds) (.ref a) := Rep.monoW P' _ _ ⟨a, vs, rfl, hq, q'⟩
        obtain ⟨a', vs', e', hq', rs'⟩ := rx'
        cases e'
        refine ⟨⟨vs', hq'.sq, by rw [enumD_len, rs'.len]; exact Nat.le_refl _⟩, fun i z hz => ?_⟩
        obtain ⟨y, hy, rfl⟩ := enumD_get ds 0 i z hz
        obtain ⟨v, hv, rv⟩ := rs'.get hy
        refine ⟨⟨vs', v, hq'.sq, hv⟩, fun w H'' ⟨T, y', ew, hT, eH, hall⟩ => ?_⟩
        subst ew eH
        have ey := hall vs' hq'.sq
        rw [hv] at ey
        cases ey
        obtain ⟨R2, P2⟩ := R'.alloc (o := .tup [.int (i : Nat), v]) hT
        refine ⟨fun b o h => upd_grow hT b o h, ⟨T, [.int (i : Nat), v], rfl, .inl ⟨.inl upd_same, R'.fresh hT⟩, ?_⟩⟩
        exact ⟨_, _, rfl, by rw [Nat.zero_add]; rfl, Reps.one (Rep.mono P2 _ _ rv)⟩
    · exact P.elim
end
end DL
namespace DL
open PySem PySem.Spec L2
open PyProof.Rows hiding St
end DL
namespace DL
open PySem PySem.Spec L2
open PyProof.Rows hiding St
variable [HashW]
abbrev Rw := Int × Value
/-- the set at a: its rows keep Phi -/
def SetG (w : World) (h : Heap) (a : Addr) (Phi : List Rw → Prop) : Prop :=
  ∃ (o : Obj) (rs : Array Rw) (n : Nat) (t : SetTable), h.get? a = some o ∧ o.ExactSet ∧ o.data = .set rs n t ∧ Phi rs.toList ∧ rs.size < scanBound ∧ t.fits rs.size = true ∧ Ris t.place.toList ∧ (w.params.followText "set-order" = true ∨ t.led = true)
theorem SetG.keep {w : World} {h h' : Heap} {a : Addr} {Phi : List Rw → Prop} (G : SetG w h a Phi) (k : ∀ o, h.get? a = some o → h'.get? a = some o) : SetG w h' a Phi :=
  let ⟨o, rs, n, t, z, r⟩ := G
  ⟨o, rs, n, t, k o z, r⟩
theorem SetG.imp {w : World} {h : Heap} {a : Addr} {Phi Psi : List Rw → Prop} (G : SetG w h a Phi) (k : ∀ l, Phi l → Psi l) : SetG w h a Psi :=
  let ⟨o, rs, n, t, z1, z2, z3, z4, r⟩ := G
  ⟨o, rs, n, t, z1, z2, z3, k _ z4, r⟩
section
variable {P : Program} {w : World} {A : Around} {E : Value → Shared → Prop} {s : Shared} {a : Addr}
theorem addG_tail {Phi : List Rw → Prop} (inv : ∀ l l' : List Rw, l'.Perm l → Phi l → Phi l') {g : Bool → Sem Unit} (quiet : ∀ (b : Bool) (z : Shared) (Z : Unit → Shared → Prop), Z () z → wpAny (model P w) A (g b) Z E z)
    {o : Obj} {rs : Array Rw} {n : Nat} {t : SetTable} (gO : s.heap.get? a = some o) (gX : o.ExactSet) (gD : o.data = .set rs n t) {rs1 : Array Rw} {t1 : SetTable} (g1 : Phi rs1.toList) (gB : rs1.size < scanBound) (gF : t1.fits rs1.size = true) (gR : Ris t1.place.toList)
    (gL : w.params.followText "set-order" = true ∨ t1.led = true) {wd : Bool} {R : Option Bool → Shared → Prop} (fin : ∀ h', Heap.SameBut a s.heap h' → SetG w h' a Phi → R (some true) { s with heap := h' }) :
    wpAny (model P w) A (do storeSet a rs1 t1; if (!wd && t1.tooFull) = true then (do g (relayAll t1 rs1 (SetTable.grown rs1.size)).2.2; storeSet a (relayAll t1 rs1 (SetTable.grown rs1.size)).1 (relayAll t1 rs1 (SetTable.grown rs1.size)).2.1; pure (some true)) else pure (some true)) R E s := by
  have s1 := store_at (es' := rs1) (t' := t1) gO gD
  have b1 := Heap.SameBut.update s.heap a (Obj.putSet rs1 t1)
  refine wpAny_bind (wpAny_storeSet_of gO gD ?_ (fits_of_scanBound gB))
  split
  · have q1 := relayAll_perm t1 rs1 (SetTable.grown rs1.size)
    have q2 := relayAll_fits t1 rs1 (SetTable.grown rs1.size)
    have q3 := relayAll_ris t1 rs1 (SetTable.grown rs1.size)
    have q4 := relayAll_led t1 rs1 (SetTable.grown rs1.size)
    generalize relayAll t1 rs1 (SetTable.grown rs1.size) = Y at q1 q2 q3 q4 ⊢
    obtain ⟨rs2, t2, gv⟩ := Y
    dsimp only at q1 q2 q3 q4 ⊢
    have z : rs2.size = rs1.size := by simpa using q1.length_eq
    have zb : rs2.size < scanBound := z ▸ gB
    refine wpAny_bind (quiet _ _ _ (wpAny_bind (wpAny_storeSet_of s1 rfl (wpAny_pure (fin _ (b1.trans (Heap.SameBut.update _ a _)) ?_)) (fits_of_scanBound zb))))
    exact ⟨_, rs2, _, t2, store_at (es' := rs2) (t' := t2) s1 rfl, gX, rfl, inv _ _ q1 g1, zb, q2, q3, gL.imp id fun y => q4.trans y⟩
  · exact wpAny_pure (fin _ b1 ⟨_, rs1, _, t1, s1, gX, rfl, g1, gB, gF, gR, gL⟩)
def cpsOf (e : Rw) : List Nat := match e.2 with
  | .str y _ => y.cps.toList
  | _ => []
def TxtE (P : Program) (w : World) (e : Rw) : Prop := ∃ x tk, e.2 = Value.str (tx x) tk ∧ e.1 = (strKind P w).hash (tx x)
def TxtL (P : Program) (w : World) (xs : List (List Nat)) (l : List Rw) : Prop := (∀ e, e ∈ l → TxtE P w e) ∧ (l.map cpsOf).Perm xs ∧ xs.Nodup
abbrev SetS (P : Program) (w : World) (h : Heap) (a : Addr) (xs : List (List Nat)) : Prop := SetG w h a (TxtL P w xs)
theorem txtL_perm {xs : List (List Nat)} (l l' : List Rw) (p : l'.Perm l) (h : TxtL P w xs l) : TxtL P w xs l' := ⟨fun e he => h.1 e (p.mem_iff.mp he), (p.map cpsOf).trans h.2.1, h.2.2⟩
theorem cpsOf_tx {e : Rw} {x : List Nat} {tk : Tok} (h : e.2 = Value.str (tx x) tk) : cpsOf e = x := by unfold cpsOf; rw [h]
theorem txtE_is {e : Rw} (h : TxtE P w e) (x : List Nat) : (strKind P w).is (tx x) e.2 = true ↔ cpsOf e = x := by
  obtain ⟨y, tk, e1, _⟩ := h
  rw [cpsOf_tx e1, e1]
  constructor
  · intro q
    obtain ⟨u, hu⟩ := Value.isStrOf_shape (show Value.isStrOf (tx x) (Value.str (tx y) tk) = true from q)
    injection hu with q1 q2
    exact tx_inj.mp q1
  · rintro rfl
    exact strKind_is P w _ _
theorem txt_elems {l : List Rw} (h : ∀ e, e ∈ l → TxtE P w e) : ElemsOf (strKind P w) l := fun e he => by
  obtain ⟨x, tk, e1, e2⟩ := h e he
  exact ⟨⟨tx x, by rw [e1]; exact strKind_is P w _ _, e2⟩, by rw [e1]; rfl⟩
def insT (xs : List (List Nat)) (x : List Nat) : List (List Nat) := if x ∈ xs then xs else xs ++ [x]
theorem setS_addH {xs : List (List Nat)} {x : List Nat} {tk : Tok} {Q : Bool → Shared → Prop} (G : SetS P w s.heap a xs) (room : xs.length + 1 < scanBound)
    (q : ∀ h', Heap.SameBut a s.heap h' → SetS P w h' a (insT xs x) → ∀ b, Q b { s with heap := h' }) : wpAny (model P w) A (setAddHashed a (.str (tx x) tk) ((strKind P w).hash (tx x))) Q E s := by
  obtain ⟨o, rs, n, t, gO, gX, gD, ⟨gE, gP, gN⟩, gB, gF, gR, gL⟩ := G
  have isx : (strKind P w).is (tx x) (.str (tx x) tk) = true := strKind_is P w _ tk
  have scn : (Value.str (tx x) tk).scannable = true := rfl
  have els := txt_elems gE
  unfold setAddHashed setAddHashedIn
  refine wpAny_holding (wpAny_bind (wpAny_setState_of gO gD gF ?_))
  dsimp only
  rw [byScan_of scn gB els]
  simp only [↓reduceIte]
  unfold setAddByScan
  refine wpAny_bind (wpAny_bind (wpAny_rule (wpAny_bind (wpAny_setScan_of isx gO gD gF els ?_))))
  cases fi : List.findIdx? (fun e => (strKind P w).is (tx x) e.2) rs.toList with
  | some j =>
    obtain ⟨hj, pj, _⟩ := List.findIdx?_eq_some_iff_getElem.mp fi
    have hm : x ∈ xs := gP.mem_iff.mp (List.mem_map.mpr ⟨_, List.getElem_mem hj, (txtE_is (gE _ (List.getElem_mem hj)) x).mp pj⟩)
    have q' := q s.heap (Heap.SameBut.refl a s.heap) (by unfold insT; rw [if_pos hm]; exact ⟨o, rs, n, t, gO, gX, gD, ⟨gE, gP, gN⟩, gB, gF, gR, gL⟩) false
    dsimp only
    exact wpAny_pure (wpAny_pure q')
  | none =>
    have hm : ¬ x ∈ xs := fun z => by
      obtain ⟨e, he, ee⟩ := List.mem_map.mp (gP.mem_iff.mpr z)
      have := List.findIdx?_eq_none_iff.mp fi e he
      rw [(txtE_is (gE e he) x).mpr ee] at this
      cases this
    dsimp only
    have giv : ∀ (b : Bool) {z : Shared} {Z : Unit → Shared → Prop}, Z () z → wpAny (model P w) A (match b with | true => rule "set.scan.the-table-gave-way" | false => pure ()) Z E z := fun b z Z h => by
      cases b
      · exact wpAny_pure h
      · exact wpAny_rule h
    have q1 := layNew_perm t rs ((strKind P w).hash (tx x)) (.str (tx x) tk)
    have q2 := layNew_fits t rs ((strKind P w).hash (tx x)) (.str (tx x) tk)
    have q3 := layNew_ris t rs ((strKind P w).hash (tx x)) (.str (tx x) tk) gR
    have q4 := layNew_led t rs ((strKind P w).hash (tx x)) (.str (tx x) tk)
    generalize layNew t rs ((strKind P w).hash (tx x)) (.str (tx x) tk) = Y at q1 q2 q3 q4 ⊢
    obtain ⟨rs1, t1, wd, gv⟩ := Y
    dsimp only at q1 q2 q3 q4 ⊢
    rw [Array.toList_push] at q1
    have g1 : TxtL P w (insT xs x) rs1.toList := by
      refine ⟨fun e he => ?_, ?_, ?_⟩
      · rcases List.mem_append.mp (q1.mem_iff.mp he) with z | z
        · exact gE e z
        · rw [List.mem_singleton.mp z]; exact ⟨x, tk, rfl, rfl⟩
      · unfold insT
        rw [if_neg hm]
        have := q1.map cpsOf
        rw [List.map_append] at this
        exact this.trans (gP.append (by rw [List.map_singleton, cpsOf_tx (x := x) (tk := tk) rfl]))
      · unfold insT
        rw [if_neg hm, List.nodup_append]
        refine ⟨gN, by simp, fun y hy z hz => ?_⟩
        rw [List.mem_singleton.mp hz]
        exact fun e => hm (e ▸ hy)
    have zb : rs1.size < scanBound := by
      have e1 := q1.length_eq
      have e2 := gP.length_eq
      simp only [List.length_append, List.length_map, List.length_singleton, Array.length_toList] at e1 e2
      omega
    have hL : w.params.followText "set-order" = true ∨ t1.led = true := gL.imp id fun y => q4.trans y
    refine wpAny_bind (giv _ ?_)
    split
    · refine wpAny_bind ?_
      rw [hashByValue_scannable 8 scn]
      refine wpAny_pure (addG_tail txtL_perm ?_ gO gX gD g1 zb ?_ ?_ ?_ fun h' sb r => ?_)
      · intro b z Z h
        cases b
        · exact wpAny_pure h
        · exact wpAny_rule h
      · first | exact SetTable.fits_plain_off q2 | (split <;> first | exact q2 | exact SetTable.fits_plain_off q2)
      · first | exact q3 | (split <;> exact q3)
      · first | exact hL | (split <;> exact hL)
      · dsimp only; exact wpAny_pure (q h' sb r _)
    · refine wpAny_bind (wpAny_pure ?_)
      simp only [↓reduceIte]
      refine addG_tail txtL_perm ?_ gO gX gD g1 zb q2 q3 hL fun h' sb r => ?_
      · intro b z Z h
        cases b
        · exact wpAny_pure h
        · exact wpAny_rule h
      · dsimp only; exact wpAny_pure (q h' sb r _)
def dedT (xs : List (List Nat)) : List (List Nat) := xs.foldl insT []
theorem insT_len (ys : List (List Nat)) (x : List Nat) : (insT ys x).length ≤ ys.length + 1 := by unfold insT; split <;> simp
theorem foldl_insT_len (xs : List (List Nat)) : ∀ ys, (xs.foldl insT ys).length ≤ ys.length + xs.length := by
  induction xs with
  | nil => intro ys; simp
  | cons x xs ih =>
    intro ys
    have h1 := ih (insT ys x)
    have h2 := insT_len ys x
    simp only [List.foldl_cons, List.length_cons]
    omega
theorem dedT_len (xs : List (List Nat)) : (dedT xs).length ≤ xs.length := by unfold dedT; simpa using foldl_insT_len xs []
theorem dedT_take {xs : List (List Nat)} {i : Nat} {x : List Nat} (h : xs[i]? = some x) : dedT (xs.take (i + 1)) = insT (dedT (xs.take i)) x := by
  unfold dedT
  rw [List.take_add_one, h, Option.toList_some, List.foldl_append]
  rfl
theorem upd_texts {I : Addr} {fp wr : List Addr} {G : Array GenState → Array GenState → Prop} {n : Nat} {Pv : Nat → Value → Prop} {St : Nat → Shared → Prop} {R : Result → Shared → Prop}
    (Wk : WalksS P w A.in1 I fp wr G n Pv St) (S : Addr) (out : S ∉ fp) (xs : List (List Nat)) (len : xs.length = n) (few : n + 1 < scanBound) (val : ∀ i v, Pv i v → ∃ x tk, xs[i]? = some x ∧ v = .str (tx x) tk) :
    ∀ (k i : Nat) (s : Shared), n - i = k → i ≤ n → St i s → SetS P w s.heap S (dedT (xs.take i)) → (∀ s', Moved (S :: wr) G s s' → SetS P w s'.heap S (dedT xs) → R (.ok (.ret .none)) s') →
      codeAny (model P w) A (.builtin "set.update.loop" ⟨[.ref S, .ref I], []⟩) R s := by
  have nS : S ∉ wr := fun h => out (Wk.sub _ h)
  have incl : ∀ b, b ∈ wr → b ∈ S :: wr := fun b hb => List.mem_cons_of_mem _ hb
  intro k
  induction k with
  | zero =>
    intro i s hk hi hst gS hR
    obtain rfl : i = n := by omega
    refine codeAny_builtin PyProof.Rows.F.entry_set_update_loop ?_
    rw [Around.under_plainId PyProof.Rows.F.plain_set_update_loop]
    show wpAny _ A.in1 (pyNext (.ref I) >>= fun v => _) _ _ s
    refine wpAny_bind (Wk.done s _ _ hst fun s' mv => ?_)
    show wpAny _ A.in1 (ret Value.none) _ _ s'
    refine wpAny_pure (hR s' (mv.mono incl) ?_)
    rw [← len, List.take_length] at gS
    exact gS.keep fun o e => mv.heap S _ nS e
  | succ k ih =>
    intro i s hk hi hst gS hR
    have hl : i < n := by omega
    refine codeAny_builtin PyProof.Rows.F.entry_set_update_loop ?_
    rw [Around.under_plainId PyProof.Rows.F.plain_set_update_loop]
    show wpAny _ A.in1 (pyNext (.ref I) >>= fun v => _) _ _ s
    refine wpAny_bind (Wk.item i s _ _ hl hst fun v s' hP hst' mv => ?_)
    obtain ⟨x, tk, hx, rfl⟩ := val i v hP
    have gS' : SetS P w s'.heap S (dedT (xs.take i)) := gS.keep fun o e => mv.heap S _ nS e
    show wpAny _ A.in1 (holding [Value.str (tx x) tk] (setAdd S (.str (tx x) tk)) >>= fun u => _) _ _ s'
    refine wpAny_bind (wpAny_holding ?_)
    unfold setAdd
    refine wpAny_holding (wpAny_bind ((strKind P w).pyHash (k := tx x) (strKind_is P w _ _) ?_))
    refine setS_addH (s := { s' with toks := s'.toks + 1 }) gS' (by have := dedT_len (xs.take i); simp only [List.length_take] at this; omega) fun h' sb g' b => ?_
    rw [← dedT_take hx] at g'
    refine wpAny_pure ⟨plainId_quiet PyProof.Rows.F.plain_set_update_loop _, ih (i + 1) _ (by omega) hl (Wk.frame _ s' _ _ hst' (Nat.le_succ _) fun b hb o e => (sb.2 b fun z : b = S => out (z ▸ hb)).trans e) g' fun s2 mv2 g2 => ?_⟩
    refine hR s2 (Moved.trans Wk.gtrans ((mv.mono incl).then_heap (Nat.le_succ _) fun b o hb e => ?_) mv2) g2
    exact (sb.2 b fun z : b = S => hb (z ▸ List.mem_cons_self)).trans e
end
theorem strs_atY : ∀ {us : List Value} {ys : List Str}, StrsAre us ys → ∀ (i : Nat) (v : Value), us[i]? = some v → ∃ y tk, ys[i]? = some y ∧ v = .str y tk
  | _, _, .nil, i, v, h => by simp at h
  | _, _, .cons y t r, 0, v, h => by
    simp at h
    exact ⟨y, t, rfl, h.symm⟩
  | _, _, .cons y t r, i + 1, v, h => by
    simp at h
    simpa using strs_atY r i v h
theorem strs_atT {us : List Value} {xs : List (List Nat)} (h : StrsAre us (xs.map tx)) (i : Nat) (v : Value) (e : us[i]? = some v) : ∃ x tk, xs[i]? = some x ∧ v = .str (tx x) tk := by
  obtain ⟨y, tk, e1, e2⟩ := strs_atY h i v e
  rw [List.getElem?_map] at e1
  cases hx : xs[i]? with
  | none => rw [hx] at e1; cases e1
  | some x =>
    rw [hx] at e1
    cases e1
    exact ⟨x, tk, rfl, e2⟩
section
variable {P : Program} {w : World} {A : Around} {E : Value → Shared → Prop} {s : Shared} {a : Addr}
/-- the new set's object -/
abbrev nSet (w : World) : Obj := { cls := .type "set", dict := none, data := .set #[] 0 (.fresh 0 0 (!w.params.followText "set-order")) }
theorem setS_new {h : Heap} (g : h.get? a = some (nSet w)) : SetS P w h a [] :=
  ⟨_, #[], 0, _, g, ⟨rfl, rfl, rfl⟩, rfl, ⟨fun e he => by simp at he, by simp, List.nodup_nil⟩, by decide, by rfl, List.Pairwise.nil, by
    show _ ∨ (!w.params.followText "set-order") = true
    cases w.params.followText "set-order" <;> simp⟩
set_option maxRecDepth 100000 in
set_option maxHeartbeats 3200000 in
theorem call_setL {l : Addr} {its : Array Value} {xs : List (List Nat)} {Q : Value → Shared → Prop} (calm : A.handled = none) (gL : s.heap.IsList l its) (gI : StrsAre its.toList (xs.map tx)) (few : its.size + 1 < scanBound)
    (q : ∀ (h' : Heap) (tk : Nat), SetS P w h' s.heap.objs.size (dedT xs) → (∀ b o, s.heap.get? b = some o → h'.get? b = some o) → Q (.ref s.heap.objs.size) { s with heap := h', toks := tk }) :
    wpAny (model P w) A (call (.type "set") [.ref l]) Q E s := by
  have sz : xs.length = its.size := by rw [← Array.length_toList, StrsAre.len_eq gI, List.length_map]
  obtain ⟨c, tl, fM⟩ := PySem.F.called_set.mro
  have fN := PySem.F.called_set.made
  have fS := PySem.F.called_set.sub
  refine wpAny_call (codeAny_of_tree (?_ : wpAny _ _ (callAny (.type "set") _) _ _ _))
  refine wpAny_pure ⟨Code.quiet_builtin _ (by decide +kernel), (codeAny_builtin PySem.F.entry_type_call ?_)⟩
  rw [Around.under_plain (weight_type_call_type "set" [.ref l] []) (by rfl)]
  have fT := PySem.F.called_set.notType
  have fC := PySem.F.called_set.canCreate
  have fA := PySem.F.typeCall_set_1 (.ref l)
  repeat any_goals (first | assumption | wp_step)
  refine codeAny_mono (code_set_led1 (.ref l) (E := E) (Q₁ := fun ob s1 => ob = .ref s.heap.objs.size ∧ s1 = { s with heap := s.heap.push (nSet w) }) ⟨rfl, rfl⟩) fun r s1 hr => ?_
  cases r with
  | error e => exact hr
  | ok fl =>
    cases fl with
    | ret ob =>
      obtain ⟨rfl, rfl⟩ := hr
      have gN : (s.heap.push (nSet w)).get? s.heap.objs.size = some (nSet w) := Heap.get?_push_size _ rfl
      have gT : Shared.TypeIs { s with heap := s.heap.push (nSet w) } (.ref s.heap.objs.size) "set" := ⟨_, gN, rfl⟩
      have fi := PySem.F.called_set.init.lookup
      have fb := PySem.F.called_set.init.bind (.ref s.heap.objs.size)
      repeat any_goals (first | assumption | wp_step)
      refine codeAny_mono (codeAny_call_builtin (R := wants (fun r s2 => r = .none ∧ ∃ h' tk, s2 = { s with heap := h', toks := tk } ∧ SetS P w h' s.heap.objs.size (dedT xs) ∧ (∀ b o, s.heap.get? b = some o → h'.get? b = some o)) E) PySem.F.called_set.init.plain PySem.F.entry_set_init (check_set_init_1 gT ?_)) fun r2 s2 hr2 => ?_
      · obtain ⟨⟨oc, od, oD, osl⟩, gO, (rfl : oc = _), nl, (rfl : oD = _)⟩ := gL
        have gO' : (s.heap.push (nSet w)).get? l = some { cls := .type "list", dict := od, data := .seq its nl, slots := osl } := Heap.get?_push_of_some _ gO
        have k1 := PySem.F.sub_list_set
        have k2 := PySem.F.sub_list_frozenset
        have k3 : (Value.type "list" == Value.type "dict") = false := by decide
        have gl : (s.heap.push (nSet w)).IsList l its := ⟨_, gO', rfl, nl, rfl⟩
        unfold Builtin.«set.__init__» noKeywords Builtin.Frozenset.updateFrom
        generalize ePI : pyIter = PI
        wp_walk
        subst ePI
        refine wpAny_pyIter_list gl (wpAny_bind (wpAny_runValue ?_))
        have lt : l < s.heap.objs.size := Heap.lt_size gO
        have calm3 : A.in1.in1.in1.handled = none := by simp [calm]
        have n1 : l ≠ (s.heap.push (nSet w)).objs.size := fun z => Nat.lt_irrefl _ (Nat.lt_succ_of_lt lt |> fun y => by rw [z, Heap.size_push] at y; exact y)
        have n2 : s.heap.objs.size ∉ [(s.heap.push (nSet w)).objs.size, l] := by
          rw [Heap.size_push]
          intro z
          rcases List.mem_cons.mp z with z | z
          · exact absurd z (Nat.ne_of_lt (Nat.lt_succ_self _))
          · exact absurd (List.mem_singleton.mp z) (Nat.ne_of_gt lt)
        have vl : ∀ (i : Nat) (v : Value), its[i]? = some v → ∃ x tk, xs[i]? = some x ∧ v = .str (tx x) tk := fun i v hv => strs_atT gI i v (by rw [Array.getElem?_toList]; exact hv)
        refine upd_texts (Walks.toS (Walks.list calm3 _ l n1 its)) s.heap.objs.size n2 xs sz few vl (its.size - 0) 0 _ (by omega) (Nat.zero_le _) ⟨⟨_, Heap.get?_push_size _ rfl, rfl, rfl⟩, gl.push _⟩ ?g0 ?gR
        case g0 => exact setS_new (Heap.get?_push_of_some _ gN)
        case gR =>
          intro s' mv g'
          obtain ⟨h', g2, d2, tk2, os2⟩ := s'
          obtain rfl : g2 = s.gens := mv.gens
          obtain rfl : d2 = s.drawn := mv.drawn
          obtain rfl : os2 = s.os := mv.os
          show wpAny _ _ (_) _ _ _
          refine wpAny_pure (?_ : wpAny _ _ (ret Value.none) _ _ _)
          refine wpAny_pure ⟨rfl, h', tk2, rfl, g', fun b o e => ?_⟩
          have lb : b < s.heap.objs.size := Heap.lt_size e
          refine mv.heap b o ?_ (Heap.get?_push_of_some _ (Heap.get?_push_of_some _ e))
          rw [Heap.size_push]
          intro z
          rcases List.mem_cons.mp z with z | z
          · exact absurd z (Nat.ne_of_lt lb)
          · exact absurd (List.mem_singleton.mp z) (Nat.ne_of_lt (Nat.lt_succ_of_lt lb))
      · cases r2 with
        | error e => exact hr2
        | ok fl2 =>
          cases fl2 with
          | ret r =>
            obtain ⟨rfl, h', tk, rfl, g', k'⟩ := hr2
            repeat any_goals (first | assumption | wp_step)
            exact q _ _ g' k'
          | _ => exact hr2.elim
    | _ => exact hr.elim
end
def SetSO (P : Program) (w : World) (a : Addr) (xs : List (List Nat)) : HO := .ext fun h => SetS P w h a xs
theorem setSO_ok {P : Program} {w : World} {H : Hp} {h : Heap} {a : Addr} {xs : List (List Nat)} (G : SetS P w h a xs) : ObjOk P w H h a (SetSO P w a xs) := by
  have ⟨o, _, _, _, z, _⟩ := G
  exact ⟨G, ⟨o, z⟩, fun _ _ p k => SetG.keep p k⟩
section
variable {X : Cx}
theorem setSO_at {pins : List (Addr × Obj)} {σ : St} {H : Hp} {s : Shared} {a : Addr} {xs : List (List Nat)} (I : Inv X pins σ H s) (e : H a = some (SetSO X.prog X.w a xs)) : SetS X.prog X.w s.heap a xs := (I.hok a _ e).1
def rSetT (K : PySem.W.Frag) (P : Program) (w : World) : List V → Hp → VK → Prop := fun vs H Q => ∃ (l : Addr) (xs : List (List Nat)), vs = [V.ref l] ∧ SqL K H l ((xs.map tx).map V.str) ∧ xs.length < 4000 ∧ ∀ p, H p = none → Q (.ref p) (upd H p (SetSO P w p (dedT xs)))
theorem cr_setT (calm : X.calm = true) : CallR X (.type "set") (rSetT X.K X.prog X.w) := by
  intro pins s σ H vs us Q I r h
  obtain ⟨l, xs, rfl, hs, few, q⟩ := h
  rw [Vals.ref1 r]
  obtain ⟨its, rv, pl, hz⟩ := I.list hs
  have e := rv.length
  simp only [List.length_map] at e
  refine call_setL (I.ok.hd calm) pl.isList (by simpa using rv.strs) (by simp only [List.size_toArray]; have : scanBound = 4096 := rfl; omega) fun h' tk g k => ?_
  exact ⟨.ref _, upd H s.heap.objs.size (SetSO X.prog X.w s.heap.objs.size (dedT xs)), I.laid (t' := tk) (fun b u e => k b u e) (Nat.le_refl _) (setSO_ok g), rfl, q _ (I.hok.fresh (Nat.le_refl _))⟩
def rLenT (P : Program) (w : World) : List V → Hp → VK → Prop := fun vs H Q => ∃ (a : Addr) (xs : List (List Nat)), vs = [V.ref a] ∧ H a = some (SetSO P w a xs) ∧ Q (.int (xs.length : Nat)) H
theorem cr_lenT : CallR X (.builtin "len") (rLenT X.prog X.w) := by
  intro pins s σ H vs us Q I r h
  obtain ⟨a, xs, rfl, ha, q⟩ := h
  rw [Vals.ref1 r]
  obtain ⟨o, rs, n, t, gO, gX, gD, ⟨_, gP, _⟩, gB, gF, _⟩ := setSO_at I ha
  have e := gP.length_eq
  simp only [List.length_map, Array.length_toList] at e
  have : scanBound = 4096 := rfl
  exact call_len_set gO gX gD gF (by omega) ⟨.int (xs.length : Nat), H, I.tok _, ⟨_, by rw [← e]⟩, q⟩
end
end DL
namespace DL
open PySem PySem.Spec L2
open PyProof.Rows hiding St
variable [HashW]
section
variable {P : Program} {w : World} {A : Around} {E : Value → Shared → Prop} {s : Shared} {a b : Addr} {xs ys : List (List Nat)}
def sameT (xs ys : List (List Nat)) : Bool := decide (xs.length = ys.length) && xs.all fun x => decide (x ∈ ys)
end
section
variable {P : Program} {w : World} {A : Around} {E : Value → Shared → Prop} {s : Shared} {a : Addr} {xs : List (List Nat)}
theorem strs_txtE : ∀ (l : List Value), (∀ v, v ∈ l → ∃ x tk, v = Value.str (tx x) tk) → StrsAre l ((l.map fun v => cpsOf (0, v)).map tx)
  | [], _ => .nil
  | v :: l, h => by
    obtain ⟨x, tk, rfl⟩ := h v List.mem_cons_self
    have e : cpsOf (0, Value.str (tx x) tk) = x := cpsOf_tx (tk := tk) rfl
    simp only [List.map_cons, e]
    exact .cons _ tk (strs_txtE l fun u hu => h u (List.mem_cons_of_mem _ hu))
set_option maxHeartbeats 2000000 in
theorem sorted_at (G : SetS P w s.heap a xs) (calm : A.handled = none) {Q : Value → Shared → Prop}
    (q : ∀ s' p (out : Array Value) (c : Nat) (ss : List Str), (∀ b o, s.heap.get? b = some o → s'.heap.get? b = some o) → s'.gens = s.gens → s'.os = s.os → s.heap.objs.size ≤ p → s'.heap.get? p = some (seqObj "list" out c) → StrsAre out.toList ss → ss.Perm (xs.map tx) → sortedS ss = true → Q (.ref p) s') :
    wpAny (model P w) A (call (.builtin "sorted") [.ref a]) Q E s := by
  obtain ⟨o, rs, n, t, gO, gX, gD, ⟨gE, gP, gN⟩, gB, gF, gR, gL⟩ := G
  have e1 := gP.length_eq
  simp only [List.length_map, Array.length_toList] at e1
  refine Calls.call_function_entry kind_sorted plain_sorted entry_sorted (args_sorted1 (.ref a)) ?_
  unfold Builtin.«sorted»
  refine (wpAny_bind (m := checkCount "sorted" 1 1 _) (wpAny_pure ?_))
  refine (wpAny_bind (collect_set (A := A.in1) calm ⟨o, gO, gX.1, gD⟩ gF gB gR gL fun s1 vs k1 z1 g1 o1 pm => ?_))
  have vlen : vs.length = xs.length := by rw [pm.length_eq, List.length_map, Array.length_toList, e1]
  have hS : StrsAre vs ((vs.map fun v => cpsOf (0, v)).map tx) := strs_txtE vs fun v hv => by
    obtain ⟨e, he, rfl⟩ := List.mem_map.mp (pm.mem_iff.mp hv)
    obtain ⟨x, tk, ex, _⟩ := gE e he
    exact ⟨x, tk, ex⟩
  have pk : (vs.map fun v => cpsOf (0, v)).Perm xs := by
    have z := pm.map fun v => cpsOf (0, v)
    rw [List.map_map] at z
    exact z.trans gP
  have fits : vs.length ≤ sizeLine := by rw [vlen, ← e1]; exact fits_of_scanBound gB
  refine wpAny_bind (wpAny_newList ?_ fits)
  have gN' : (s1.heap.push (seqObj "list" vs.toArray 0)).get? s1.heap.objs.size = some (seqObj "list" vs.toArray 0) := Heap.get?_push_size _ rfl
  refine wpAny_bind (wpAny_holding (wpAny_call_entry slot_list_sort ⟨_, gN', rfl⟩ entry_list_sort ?_ (args_list_sort _)))
  refine list_sort_treeKAny strKind_oneLt gN' hS.keysOf (fun v1 v2 rest e => keyKind_strs (by rw [← e]; exact hS)) fits fun st' hp hs => ⟨_, rfl, ?_⟩
  obtain ⟨ss', h1, h2, h3⟩ := sorted_out_str hS hp hs
  obtain ⟨c, hc⟩ := sortedHeap_at (vs := vs) (out := (arrOf st').map (·.2)) gN'
  refine wpAny_pure ⟨_, rfl, q _ s1.heap.objs.size _ c ss' (fun b u e => ?_) g1 o1 z1 hc h1 (h2.trans (pk.map tx)) h3⟩
  have z := k1 b u e
  have lt := Heap.lt_size z
  refine (sortedHeap_old (Nat.ne_of_lt lt) (by rw [size_push']; exact Nat.lt_succ_of_lt lt)).trans ?_
  exact Heap.get?_push_of_some _ z
end
section
variable {X : Cx}
def rSortT (P : Program) (w : World) : List V → Hp → VK → Prop := fun vs H Q => ∃ (a : Addr) (xs : List (List Nat)), vs = [V.ref a] ∧ H a = some (SetSO P w a xs) ∧ ∀ p, H p = none → Q (.ref p) (upd H p (.lst (((sortT xs).map tx).map V.str)))
theorem cr_sortT (calm : X.calm = true) : CallR X (.builtin "sorted") (rSortT X.prog X.w) := by
  intro pins s σ H vs us Q I r h
  obtain ⟨a, xs, rfl, ha, q⟩ := h
  have G := setSO_at I ha
  rw [Vals.ref1 r]
  refine sorted_at G (I.ok.hd calm) fun s' p out c ss k g o hp hg hi hs ho => ?_
  obtain ⟨zs, rfl, hz⟩ := tx_map_of_perm hs
  obtain rfl : zs = sortT xs := sortT_eq hz (by
    cases zs with
    | nil => exact .nil
    | cons z zs => exact rising_pw zs z ho)
  obtain ⟨_, rs, _, _, _, _, _, ⟨_, gP, _⟩, gB, _⟩ := G
  have hlen : (((sortT xs).map tx).map V.str).length ≤ sizeLine := by
    have e1 := gP.length_eq
    have e2 := hz.length_eq
    simp only [List.length_map, Array.length_toList] at e1 e2 ⊢
    rw [e2, ← e1]
    exact fits_of_scanBound gB
  have hn : H p = none := I.hok.fresh hp
  have J : Inv X pins σ (upd H p (.lst (((sortT xs).map tx).map V.str))) { s with heap := s'.heap, gens := s'.gens, drawn := s'.drawn, toks := s'.toks } :=
    I.call (ch := []) (Un.laid k hp hn) (I.hok.laid k hp ⟨hlen, out.toList, c, vals_of_strs hi, hg⟩) (by rw [g]; exact I.bare) (fun _ z => nomatch z)
  have e : s' = { s with heap := s'.heap, gens := s'.gens, drawn := s'.drawn, toks := s'.toks } := by
    cases s'
    cases s
    cases o
    rfl
  exact e ▸ ⟨.ref p, _, J, rfl, q p hn⟩
end
end DL
namespace DL
open PySem PySem.Spec L2
open PyProof.Rows hiding St
variable [HashW]
abbrev MT := SD → MS → Res (List (List Nat))
def RT (P : Program) (w : World) (ro : Pl) (H : Hp) (xs : List (List Nat)) (v : V) : Prop := ∃ p, v = .ref p ∧ H p = some (SetSO P w p xs) ∧ p ∉ ro.all
def liftT (X : Cx) (W : WX) (m : MT) : TE := fun st H Q => ∃ ro sd M, RelS X.K X.mg ro M H ∧ RepSt X.K X.mg ro H sd st ∧ Post (RT X.prog X.w) X.K X.mg (fun c d H' => W c d st H') ro H Q (m sd M)
/-- e is a set of texts -/
structure DZ (X : Cx) (W : WX) (e : Expr) (m : MT) : Prop where
  pe : PE X e (liftT X W m)
/-- set(e) -/
def setR (ma : ME) : MT := fun sd M => (ma sd M).bind fun d M1 => match (lst1 [d] M1).bind stsOf with
  | some xs => if xs.length < 4000 then .ok (dedT xs) M1 else .stuck
  | none => .stuck
def lenZE (m : MT) : ME := fun sd M => (m sd M).bind fun xs M1 => .ok (.int (xs.length : Nat)) M1
def sortZE (m : MT) : ME := fun sd M => (m sd M).bind fun xs M1 => .ok (.lst ((sortT xs).map D.str)) M1
def sameZE (neg : Bool) (m m' : MT) : ME := fun sd M => (m sd M).bind fun xs M1 => (m' sd M1).bind fun ys M2 => .ok (.bl (sameT xs ys != neg)) M2
section
variable {X : Cx} {W : WX} {e e' : Expr} {ma : ME} {m m' : MT} {p p2 pos q : Pos}
theorem dz_set (calm : X.calm = true) (hg : Gl X "set") (hm : X.mg "set" = none) (he : DE X W e ma) (hs : starEach [e] X.env = (false, eval e X.env) :: starEach [] X.env := by rfl) : DZ X W (.Call (.Name "set" p) [e] [] pos) (setR ma) := by
  refine ⟨⟨fun pins s st H Q I z => (pe_callTy (cr_setT calm) hg hm boot_set (pa_cons he.pe pa_nil hs) (by decide) (by decide) hs (by rfl)).run pins s st H Q I ?_⟩⟩
  obtain ⟨ro, sd, M, R, S, P⟩ := z
  refine ⟨ro, sd, M, R, S, (Post.bind P).imp fun x H1 ⟨ro1, M1, d, R1, P1, r1, q1⟩ => ?_⟩
  split at q1
  · rename_i xs hx
    split at q1
    · rename_i hl
      obtain ⟨es, h1, h2⟩ := Option.bind_eq_some_iff.mp hx
      obtain ⟨a, vs, e1, hq, rs⟩ := lst1_at R1 (Reps.one r1) h1
      rw [stsOf_eq h2] at rs
      rw [Reps.strs rs] at hq
      obtain rfl : x = .ref a := by simpa using e1
      refine ⟨a, xs, rfl, hq, hl, fun p0 hp => ?_⟩
      obtain ⟨R2, P2⟩ := R1.alloc (o := SetSO X.prog X.w p0 (dedT xs)) hp
      exact q1 ro1 _ _ R2 P2 ⟨p0, rfl, upd_same, R1.fresh hp⟩
    · exact q1.elim
  · exact q1.elim
theorem de_lenZ (hg : Gl X "len") (hm : X.mg "len" = none) (he : DZ X W e m) (hs : starEach [e] X.env = (false, eval e X.env) :: starEach [] X.env := by rfl) : DE X W (.Call (.Name "len" p) [e] [] pos) (lenZE m) := by
  refine ⟨⟨fun pins s st H Q I z => (pe_callB cr_lenT hg hm boot_len (pa_cons he.pe pa_nil hs) (by decide) (by decide) hs (by rfl)).run pins s st H Q I ?_⟩⟩
  obtain ⟨ro, sd, M, R, S, P⟩ := z
  refine ⟨ro, sd, M, R, S, (Post.bind P).imp fun x H1 ⟨ro1, M1, xs, R1, P1, ⟨a, ea, ha, _⟩, q1⟩ => ?_⟩
  exact ⟨a, xs, by rw [ea], ha, q1 ro1 H1 _ R1 (Pres.refl _ _) rfl⟩
theorem de_sortZ (calm : X.calm = true) (hg : Gl X "sorted") (hm : X.mg "sorted" = none) (he : DZ X W e m) (hs : starEach [e] X.env = (false, eval e X.env) :: starEach [] X.env := by rfl) : DE X W (.Call (.Name "sorted" p) [e] [] pos) (sortZE m) := by
  refine ⟨⟨fun pins s st H Q I z => (pe_callB (cr_sortT calm) hg hm boot_sorted (pa_cons he.pe pa_nil hs) (by decide) (by decide) hs (by rfl)).run pins s st H Q I ?_⟩⟩
  obtain ⟨ro, sd, M, R, S, P⟩ := z
  refine ⟨ro, sd, M, R, S, (Post.bind P).imp fun x H1 ⟨ro1, M1, xs, R1, P1, ⟨a, ea, ha, _⟩, q1⟩ => ?_⟩
  refine ⟨a, xs, by rw [ea], ha, fun p0 hp => ?_⟩
  rw [List.map_map]
  exact PostD.newL R1 (map_reps (g := D.str) (v := V.str ∘ tx) (fun _ => rfl) _) q1 p0 hp
def sameZB (neg : Bool) (m m' : MT) : MB := fun sd M => (m sd M).bind fun xs M1 => (m' sd M1).bind fun ys M2 => .ok (sameT xs ys != neg) M2
end
section
variable {sd : SD} {M : MS} {ma : ME} {m m' : MT} {neg : Bool}
@[simp] theorem lenZE_ap : lenZE m sd M = (m sd M).bind fun xs M1 => .ok (.int (xs.length : Nat)) M1 := rfl
@[simp] theorem sortZE_ap : sortZE m sd M = (m sd M).bind fun xs M1 => .ok (.lst ((sortT xs).map D.str)) M1 := rfl
@[simp] theorem sameZE_ap : sameZE neg m m' sd M = (m sd M).bind fun xs M1 => (m' sd M1).bind fun ys M2 => .ok (.bl (sameT xs ys != neg)) M2 := rfl
@[simp] theorem sameZB_ap : sameZB neg m m' sd M = (m sd M).bind fun xs M1 => (m' sd M1).bind fun ys M2 => .ok (sameT xs ys != neg) M2 := rfl
theorem setR_ap : setR ma sd M = (ma sd M).bind fun d M1 => match (lst1 [d] M1).bind stsOf with
  | some xs => if xs.length < 4000 then .ok (dedT xs) M1 else .stuck
  | none => .stuck := rfl
theorem setR_run {xs : List (List Nat)} {d : D} {M1 : MS} (h : ma sd M = .ok d M1) (h1 : isTup d = false) (h2 : seqOf M1 d = some (xs.map D.str)) (h3 : xs.length < 4000) : setR ma sd M = .ok (dedT xs) M1 := by
  rw [setR_ap, h, Res.bind_ok]
  simp [lst1, h1, h2, h3]
theorem mem_insT {xs : List (List Nat)} {x y : List Nat} : y ∈ insT xs x ↔ y ∈ xs ∨ y = x := by
  unfold insT
  split
  · constructor
    · exact .inl
    · rintro (h | rfl)
      · exact h
      · assumption
  · simp
theorem mem_foldl_insT {y : List Nat} : ∀ {xs ys : List (List Nat)}, y ∈ xs.foldl insT ys ↔ y ∈ ys ∨ y ∈ xs
  | [], ys => by simp
  | x :: xs, ys => by
    rw [List.foldl_cons, mem_foldl_insT, mem_insT, List.mem_cons]
    constructor
    · rintro ((h | h) | h)
      · exact .inl h
      · exact .inr (.inl h)
      · exact .inr (.inr h)
    · rintro (h | h | h)
      · exact .inl (.inl h)
      · exact .inl (.inr h)
      · exact .inr h
@[simp] theorem mem_dedT {xs : List (List Nat)} {y : List Nat} : y ∈ dedT xs ↔ y ∈ xs := by unfold dedT; rw [mem_foldl_insT]; simp
theorem insT_nodup {xs : List (List Nat)} {x : List Nat} (h : xs.Nodup) : (insT xs x).Nodup := by
  unfold insT
  split
  · exact h
  · rename_i hm
    rw [List.nodup_append]
    refine ⟨h, by simp, fun y hy z hz => ?_⟩
    rw [List.mem_singleton.mp hz]
    exact fun e => hm (e ▸ hy)
theorem foldl_insT_nodup : ∀ {xs ys : List (List Nat)}, ys.Nodup → (xs.foldl insT ys).Nodup
  | [], ys, h => h
  | x :: xs, ys, h => foldl_insT_nodup (xs := xs) (insT_nodup h)
theorem dedT_nodup (xs : List (List Nat)) : (dedT xs).Nodup := foldl_insT_nodup List.nodup_nil
/-- sets are the same: they have the same members -/
theorem sameT_iff {xs ys : List (List Nat)} (hx : xs.Nodup) (hy : ys.Nodup) : sameT xs ys = true ↔ ∀ x, x ∈ xs ↔ x ∈ ys := by
  unfold sameT
  rw [Bool.and_eq_true, decide_eq_true_eq, List.all_eq_true]
  constructor
  · rintro ⟨hl, h⟩
    have sub : ∀ x, x ∈ xs → x ∈ ys := fun x hx' => by simpa using h x hx'
    refine fun x => ⟨sub x, fun hx' => Classical.byContradiction fun hn => ?_⟩
    have := List.Nodup.length_le_of_subset (l₁ := x :: xs) (l₂ := ys) (List.nodup_cons.mpr ⟨hn, hx⟩) (fun y hy' => (List.mem_cons.mp hy').elim (fun e => e ▸ hx') (sub y))
    simp at this
    omega
  · intro h
    have p : xs.Perm ys := (List.perm_ext_iff_of_nodup hx hy).mpr h
    exact ⟨p.length_eq, fun x hx' => by simpa using (h x).mp hx'⟩
theorem sameT_ded {xs ys : List (List Nat)} : sameT (dedT xs) (dedT ys) = true ↔ ∀ x, x ∈ xs ↔ x ∈ ys := by
  rw [sameT_iff (dedT_nodup _) (dedT_nodup _)]
  simp
end
end DL
namespace DL
open PySem PySem.Spec L2
open PyProof.Rows hiding St
variable [HashW]
/-- {} -/
def dicE : ME := fun _ M => .ok (.cell M.length) (M ++ [.dic [] []])
def isKey (k : Key) (d : D) : Bool := decide (keyD d = some k)
/-- the keys and values behind d[i] = v -/
def dputD (ks ds : List D) (i v : D) : Option (List D × List D) := match keyD i with
  | some k => if ks.length < 1000000 then (if ks.any (isKey k) = true then some (ks, List.zipWith (fun d x => if isKey k d = true then v else x) ks ds) else some (ks ++ [i], ds ++ [v])) else none
  | none => none
def dputM (M : MS) (o i v : D) : Option MS := match o with
  | .cell n => match M[n]? with
    | some (.dic ks ds) => (dputD ks ds i v).map fun p => M.set n (.dic p.1 p.2)
    | _ => none
  | _ => none
def dputS (mo mi m : ME) : MST := fun sd M => SRes.ofE (m sd M) sd fun v M1 => SRes.ofE (mo sd M1) sd fun o M2 => SRes.ofE (mi sd M2) sd fun i M3 => match dputM M3 o i v with
  | some M4 => .nx sd M4
  | none => .stuck
/-- len of lists, tuples, texts, dicts -/
def lenX : List D → MS → Res D := fun ds M => match ds with
  | [.cell n] => match M[n]? with
    | some (.dic ks _) => .ok (.int ks.length) M
    | _ => lenF ds M
  | _ => lenF ds M
section
variable {K : PySem.W.Frag} {mg : Str → Option Value} {ro : Pl} {H : Hp} {M : MS}
theorem rep_key {i : D} {x : V} {k : Key} (r : Rep K mg ro H i x) (e : keyD i = some k) : x = kV k := by
  cases i with
  | int j => cases e; exact r
  | str y => cases e; exact r
  | _ => cases e
theorem keysD_cons {d : D} {ks : List D} {kl : List Key} (h : keysD (d :: ks) = some kl) : ∃ k l, keyD d = some k ∧ keysD ks = some l ∧ kl = k :: l := by
  unfold keysD at h
  split at h
  · rename_i k l h1 h2
    cases h
    exact ⟨k, l, h1, h2, rfl⟩
  · cases h
theorem keysD_len : ∀ {ks : List D} {kl : List Key}, keysD ks = some kl → kl.length = ks.length
  | [], kl, h => by cases h; rfl
  | d :: ks, kl, h => by
    obtain ⟨k, l, _, h2, rfl⟩ := keysD_cons h
    simp [keysD_len h2]
theorem keysD_any {k : Key} : ∀ {ks : List D} {kl : List Key}, keysD ks = some kl → ks.any (isKey k) = kl.any fun k' => decide (k' = k)
  | [], kl, h => by cases h; rfl
  | d :: ks, kl, h => by
    obtain ⟨k', l, h1, h2, rfl⟩ := keysD_cons h
    rw [List.any_cons, List.any_cons, keysD_any h2]
    unfold isKey
    rw [h1]
    simp
theorem keysD_snoc {i : D} {k : Key} : ∀ {ks : List D} {kl : List Key}, keysD ks = some kl → keyD i = some k → keysD (ks ++ [i]) = some (kl ++ [k])
  | [], kl, h, e => by cases h; simp [keysD, e]
  | d :: ks, kl, h, e => by
    obtain ⟨k', l, h1, h2, rfl⟩ := keysD_cons h
    rw [List.cons_append]
    unfold keysD
    rw [h1, keysD_snoc h2 e]
    rfl
theorem zip_map_key {k : Key} {v : V} : ∀ (kl : List Key) (vs : List V), kl.length = vs.length → (kl.zip vs).map (fun kv => if kv.1 = k then (kv.1, v) else kv) = kl.zip (List.zipWith (fun k' x => if k' = k then v else x) kl vs)
  | [], vs, _ => by simp
  | k' :: kl, [], h => by cases h
  | k' :: kl, x :: vs, h => by
    simp only [List.zip_cons_cons, List.map_cons, List.zipWith_cons_cons]
    rw [zip_map_key kl vs (by simpa using h)]
    congr 1
    split <;> rfl
theorem zip_any {k : Key} : ∀ (kl : List Key) (vs : List V), kl.length = vs.length → ((kl.zip vs).any fun kv => decide (kv.1 = k)) = kl.any fun k' => decide (k' = k)
  | [], vs, _ => by simp
  | k' :: kl, [], h => by cases h
  | k' :: kl, x :: vs, h => by
    simp only [List.zip_cons_cons, List.any_cons]
    rw [zip_any kl vs (by simpa using h)]
theorem zip_snoc {k : Key} {v : V} : ∀ (kl : List Key) (vs : List V), kl.length = vs.length → (kl ++ [k]).zip (vs ++ [v]) = kl.zip vs ++ [(k, v)]
  | [], [], _ => rfl
  | [], x :: vs, h => by cases h
  | k' :: kl, [], h => by cases h
  | k' :: kl, x :: vs, h => by simp [zip_snoc kl vs (by simpa using h)]
theorem Reps.zipPut {k : Key} {v : D} {y : V} (r : Rep K mg ro H v y) : ∀ {ks : List D} {kl : List Key} {ds : List D} {vs : List V}, keysD ks = some kl → Reps K mg ro H ds vs → Reps K mg ro H (List.zipWith (fun d x => if isKey k d = true then v else x) ks ds) (List.zipWith (fun k' x => if k' = k then y else x) kl vs)
  | [], kl, ds, vs, h, q => by cases h; simp [Reps]
  | d :: ks, kl, [], vs, h, q => by
    cases (show vs = [] from q)
    simp [Reps]
  | d :: ks, kl, x :: ds, vs, h, ⟨z, t, e, q1, q2⟩ => by
    obtain ⟨k', l, h1, h2, rfl⟩ := keysD_cons h
    subst e
    simp only [List.zipWith_cons_cons]
    refine ⟨_, _, rfl, ?_, Reps.zipPut r h2 q2⟩
    unfold isKey
    rw [h1]
    by_cases hk : k' = k
    · rw [if_pos (by simp [hk]), if_pos hk]; exact r
    · rw [if_neg (by simp [hk]), if_neg hk]; exact q1
/-- the new pairs stand for the new data -/
theorem dput_at {ks ds ks' ds' : List D} {i v : D} {kl : List Key} {vs : List V} {x y : V} (e : dputD ks ds i v = some (ks', ds')) (hk : keysD ks = some kl) (hl : kl.length = vs.length) (hd : Reps K mg ro H ds vs) (ri : Rep K mg ro H i x) (rv : Rep K mg ro H v y) :
    ∃ k, x = kV k ∧ (kl.zip vs).length < sizeLine ∧ ∃ kl' vs', putK (kl.zip vs) k y = kl'.zip vs' ∧ keysD ks' = some kl' ∧ kl'.length = vs'.length ∧ Reps K mg ro H ds' vs' := by
  unfold dputD at e
  cases hi : keyD i with
  | none => rw [hi] at e; cases e
  | some k =>
    rw [hi] at e
    dsimp only at e
    have lk := keysD_len hk
    split at e
    · rename_i hlen
      refine ⟨k, rep_key ri hi, ?_, ?_⟩
      · rw [List.length_zip, ← hl, Nat.min_self, lk]
        exact line_lt hlen
      · unfold putK
        rw [zip_any kl vs hl, ← keysD_any hk]
        split at e
        · rename_i ha
          cases e
          rw [if_pos ha]
          exact ⟨kl, _, zip_map_key kl vs hl, hk, by simp [hl], Reps.zipPut rv hk hd⟩
        · rename_i ha
          cases e
          rw [if_neg ha]
          exact ⟨kl ++ [k], vs ++ [y], (zip_snoc kl vs hl).symm, keysD_snoc hk hi, by simp [hl], hd.append (Reps.one rv)⟩
    · cases e
end
section
variable {X : Cx} {W : WX} {o i e : Expr} {mo mi m : ME} {pos tp p : Pos}
theorem de_dic : DE X W (.Dict [] [] pos) dicE := by
  refine ⟨⟨fun pins s st H Q I z => pe_dnewK.run pins s st H Q I ?_⟩⟩
  obtain ⟨ro, sd, M, R, S, P⟩ := z
  intro a ha
  obtain ⟨R1, P1⟩ := R.allocM (o := .dK []) (mo := .dic [] []) ha ⟨[], [], rfl, rfl, rfl, rfl⟩
  exact P _ _ _ R1 P1 ⟨a, rfl, by rw [← R.len]; simp⟩
theorem ds_dput (hu : X.A.units + 1 < cLine) (ho : DE X W o mo) (hi : DE X W i mi) (he : DE X W e m) (hs : swapsWith e (some (.Subscript o i tp)) pos.line X.env = pure false := by rfl) : DS X W (.Assign [.Subscript o i tp] e pos) (dputS mo mi m) := by
  refine ⟨⟨fun pins s st H D0 I z => (ps_dput hu ho.pe hi.pe he.pe hs).run pins s st H D0 I ?_⟩⟩
  obtain ⟨ro, sd, M, R, S, P⟩ := z
  refine ⟨ro, sd, M, R, S, (PostS.ofE P S).imp fun v H1 ⟨ro1, M1, dv, R1, P1, r1, q1⟩ => ?_⟩
  refine ⟨ro1, sd, M1, R1, S.mono P1, (PostS.ofE q1 (S.mono P1)).imp fun x H2 ⟨ro2, M2, dx, R2, P2, r2, q2⟩ => ?_⟩
  refine ⟨ro2, sd, M2, R2, (S.mono P1).mono P2, (PostS.ofE q2 ((S.mono P1).mono P2)).imp fun y H3 ⟨ro3, M3, di, R3, P3, r3, q3⟩ => ?_⟩
  have r1' := Rep.mono P3 _ _ (Rep.mono P2 _ _ r1)
  have r2' := Rep.mono P3 _ _ r2
  cases hM : dputM M3 dx di dv with
  | none => rw [hM] at q3; exact q3.elim
  | some M4 =>
    rw [hM] at q3
    cases dx with
    | cell n =>
      have hM : (match M3[n]? with | some (.dic ks ds) => (dputD ks ds di dv).map fun p => M3.set n (.dic p.1 p.2) | _ => none) = some M4 := hM
      split at hM
      · rename_i ks ds hn
        obtain ⟨⟨ks', ds'⟩, hp, rfl⟩ := Option.map_eq_some_iff.mp hM
        obtain ⟨a, ho, rfl, g, h, kl, vs, rfl, hk, hl, hd⟩ := R3.cellAt r2' hn
        obtain ⟨k, rfl, h1, kl', vs', e1, e2, e3, e4⟩ := dput_at hp hk hl hd r3 r1'
        obtain ⟨R4, P4⟩ := R3.change (o := .dK (putK (kl.zip vs) k v)) (mo := .dic ks' ds') g ⟨kl', vs', by rw [e1], e2, e3, e4⟩
        exact ⟨a, _, rfl, DPut.k h h1, q3 ro3 _ _ R4 P4 ((((S.mono P1).mono P2).mono P3).mono P4)⟩
      · cases hM
    | _ => cases hM
theorem callS_lenX : CallS X (.builtin "len") lenX := by
  obtain ⟨r, h1, h2⟩ := callS_len (X := X)
  refine ⟨fun vs H Q => r vs H Q ∨ ∃ a kvs, vs = [.ref a] ∧ H a = some (.dK kvs) ∧ Q (.int (kvs.length : Nat)) H, ?_, fun ro H M ds xs E Q R rs P => ?_⟩
  · intro pins s σ H vs us Q I rr q
    rcases q with q | ⟨a, kvs, rfl, ha, q⟩
    · exact h1 pins s σ H vs us Q I rr q
    · rw [Vals.ref1 rr]
      exact d_len I (.inl ha) fun t s' I' => ⟨.int (kvs.length : Nat), H, I', ⟨_, rfl⟩, q⟩
  · unfold lenX at P
    split at P
    · rename_i n
      split at P
      · rename_i ks ds hn
        obtain ⟨v, rfl, q⟩ := reps1 rs
        obtain ⟨a, ho, rfl, g, h, kl, vs, rfl, hk, hl, hd⟩ := R.cellAt q hn
        refine .inr ⟨a, _, rfl, h, ?_⟩
        rw [List.length_zip, ← hl, Nat.min_self, keysD_len hk]
        exact PostD.pure (d := .int ks.length) R rfl P
      · exact .inl (h2 ro H M _ xs E Q R rs P)
    · exact .inl (h2 ro H M _ xs E Q R rs P)
end
def revN (n : Nat) : List Int := (List.range n).map fun (k : Nat) => (0 + (n : Int) - 1) + k * (-1)
theorem revN_eq (n : Nat) : revN n = (List.range n).reverse.map fun (k : Nat) => (k : Int) := by
  unfold revN
  apply List.ext_getElem
  · simp
  · intro i h1 h2
    simp at h1 h2
    simp
    omega
def rev1I (m : ME) : MI := fun sd M => (m sd M).bind fun d M1 => match d with
  | .int j => if -1000000000 ≤ j ∧ j ≤ 1000000000 then .ok (intsI (revN j.toNat)) M1 else .stuck
  | _ => .stuck
section
variable {X : Cx} {W : WX} {tg a : Expr} {m : ME} {p p2 pos q : Pos}
theorem di_rev1 (hg : Gl X "reversed") (hm : X.mg "reversed" = none) (hg2 : Gl X "range") (hm2 : X.mg "range" = none) (he : DE X W a m) (na : starEach [a] X.env = (false, eval a X.env) :: starEach [] X.env := by rfl)
    (hs : starEach [.Call (.Name "range" p2) [a] [] q] X.env = (false, eval (.Call (.Name "range" p2) [a] [] q) X.env) :: starEach [] X.env := by rfl) :
    DI X W tg (.Call (.Name "reversed" p) [.Call (.Name "range" p2) [a] [] q] [] pos) (rev1I m) := by
  refine ⟨⟨fun pins s st H Q I z => (pi_revR hg hm (prg_1 hg2 hm2 he.pe na) hs).run pins s st H Q I ?_⟩⟩
  obtain ⟨ro, sd, M, R, S, P⟩ := z
  refine ⟨ro, sd, M, R, S, (Post.bind P).imp fun x H1 ⟨ro1, M1, d, R1, P1, r1, q1⟩ => ?_⟩
  split at q1
  · rename_i j
    cases (show x = V.int j from r1)
    split at q1
    · rename_i hj
      refine ⟨j, rfl, by omega, by omega, by omega, by omega, ?_⟩
      rw [Int.sub_zero]
      exact q1 ro1 H1 _ R1 (Pres.refl _ _) (iterOk_ints (0 + (j.toNat : Int) - 1) (-1) j.toNat)
    · exact q1.elim
  · exact q1.elim
end
end DL
namespace DL
abbrev Lr := List Nat
abbrev Wd := List (List Nat)
def SameC (u v : Wd) : Prop := ∀ x, x ∈ u ↔ x ∈ v
theorem SameC.refl (u : Wd) : SameC u u := fun _ => Iff.rfl
theorem SameC.symm {u v : Wd} (h : SameC u v) : SameC v u := fun x => (h x).symm
theorem SameC.trans {u v w : Wd} (h : SameC u v) (k : SameC v w) : SameC u w := fun x => (h x).trans (k x)
theorem SameC.nil {u v : Wd} (h : SameC u v) (e : u = []) : v = [] := by
  subst e
  cases v with
  | nil => rfl
  | cons x v => exact absurd ((h x).mpr List.mem_cons_self) (by simp)
/-- p is the longest beginning of w that lacks a letter, a the letter behind it -/
def Beg (w p : Wd) (a : Lr) : Prop := (∃ r, w = p ++ a :: r) ∧ a ∉ p ∧ ∀ x, x ∈ w → x ∈ p ∨ x = a
theorem Beg.uniq {w p p' : Wd} {a a' : Lr} (h : Beg w p a) (h' : Beg w p' a') : p = p' ∧ a = a' := by
  obtain ⟨⟨r, e⟩, n, c⟩ := h
  obtain ⟨⟨r', e'⟩, n', c'⟩ := h'
  have key : ∀ {p p' : Wd} {a a' : Lr} {r r' : Wd}, w = p ++ a :: r → w = p' ++ a' :: r' → a' ∉ p' → (∀ x, x ∈ w → x ∈ p ∨ x = a) → ¬ p.length < p'.length := fun {p p' a a' r r'} e e' n' c hl => by
    have hp : ∀ x, x ∈ p ∨ x = a → x ∈ p' := fun x hx => by
      have e2 : (p ++ [a]) = p'.take (p.length + 1) := by
        have h1 : w.take (p.length + 1) = p ++ [a] := by
          rw [e, show p ++ a :: r = (p ++ [a]) ++ r by simp]
          exact List.take_left' (by simp)
        have h2 : w.take (p.length + 1) = p'.take (p.length + 1) := by rw [e', List.take_append_of_le_length hl]
        rw [← h1, h2]
      have : x ∈ p ++ [a] := by simpa using hx
      rw [e2] at this
      exact List.mem_of_mem_take this
    exact n' (hp a' (c a' (by rw [e']; simp)))
  have l1 := key e e' n' c
  have l2 := key e' e n c'
  have hl : p.length = p'.length := by omega
  have := List.append_inj (e.symm.trans e') hl
  exact ⟨this.1, by have := this.2; injection this⟩
/-- the beginning, found letter by letter -/
def stepB (s : Wd × Wd × Lr) (x : Lr) : Wd × Wd × Lr := (s.1 ++ [x], if x ∈ s.1 then s.2 else (s.1, x))
def begF (w : Wd) : Wd × Lr := (w.foldl stepB ([], [], [])).2
theorem foldB_fst (w : Wd) : ∀ s, (w.foldl stepB s).1 = s.1 ++ w := by
  induction w with
  | nil => intro s; simp
  | cons x w ih => intro s; rw [List.foldl_cons, ih]; simp [stepB]
theorem begF_snoc (w : Wd) (x : Lr) : begF (w ++ [x]) = if x ∈ w then begF w else (w, x) := by
  unfold begF
  rw [List.foldl_append]
  simp only [List.foldl_cons, List.foldl_nil, stepB]
  rw [foldB_fst]
  simp
theorem beg_ex : ∀ {w : Wd}, w ≠ [] → Beg w (begF w).1 (begF w).2 := by
  have key : ∀ (n : Nat) (w : Wd), w.length = n → w ≠ [] → Beg w (begF w).1 (begF w).2 := by
    intro n
    induction n with
    | zero => intro w h1 h2; exact absurd (List.length_eq_zero_iff.mp h1) h2
    | succ n ih =>
      intro w h1 h2
      obtain ⟨u, x, rfl⟩ : ∃ u x, w = u ++ [x] := ⟨_, _, (List.dropLast_concat_getLast h2).symm⟩
      rw [begF_snoc]
      by_cases hx : x ∈ u
      · rw [if_pos hx]
        have hu : u ≠ [] := fun e => by rw [e] at hx; cases hx
        obtain ⟨⟨r, e⟩, n', c⟩ := ih u (by simpa using h1) hu
        have e3 : u ++ [x] = (begF u).1 ++ (begF u).2 :: (r ++ [x]) := (congrArg (· ++ [x]) e).trans (by simp)
        refine ⟨⟨r ++ [x], e3⟩, n', fun y hy => ?_⟩
        rcases List.mem_append.mp hy with hy | hy
        · exact c y hy
        · rw [List.mem_singleton.mp hy]; exact c x hx
      · rw [if_neg hx]
        refine ⟨⟨[], by simp⟩, hx, fun y hy => ?_⟩
        simpa using hy
  intro w h
  exact key _ w rfl h
theorem begF_eq {w p : Wd} {a : Lr} (h : Beg w p a) : begF w = (p, a) := by
  have hw : w ≠ [] := fun e => by obtain ⟨⟨r, e'⟩, _⟩ := h; rw [e] at e'; cases p <;> cases e'
  obtain ⟨h1, h2⟩ := (beg_ex hw).uniq h
  exact Prod.ext h1 h2
def endF (w : Wd) : Lr × Wd := ((begF w.reverse).2, (begF w.reverse).1.reverse)
abbrev bP (w : Wd) : Wd := (begF w).1
abbrev eS (w : Wd) : Wd := (endF w).2
/-- b, and the longest end that lacks it -/
def End (w : Wd) (b : Lr) (s : Wd) : Prop := (∃ r, w = r ++ b :: s) ∧ b ∉ s ∧ ∀ x, x ∈ w → x ∈ s ∨ x = b
theorem End.rev {w s : Wd} {b : Lr} (h : End w b s) : Beg w.reverse s.reverse b := by
  obtain ⟨⟨r, rfl⟩, n, c⟩ := h
  exact ⟨⟨r.reverse, by simp⟩, by simpa using n, fun x hx => by rw [List.mem_reverse] at hx ⊢; exact c x hx⟩
theorem endF_eq {w s : Wd} {b : Lr} (h : End w b s) : endF w = (b, s) := by
  unfold endF
  rw [begF_eq h.rev, List.reverse_reverse]
theorem end_ex {w : Wd} (h : w ≠ []) : End w (endF w).1 (endF w).2 := by
  obtain ⟨⟨r, e⟩, n, c⟩ := beg_ex (w := w.reverse) (by simpa using h)
  refine ⟨⟨r.reverse, ?_⟩, ?_, fun x hx => ?_⟩
  · have := congrArg List.reverse e
    rw [List.reverse_reverse] at this
    refine this.trans ?_
    simp [endF]
  · simpa [endF] using n
  · simpa [endF] using c x (by simpa using hx)
theorem bP_rev (w : Wd) : bP w.reverse = (eS w).reverse := by
  show (begF w.reverse).1 = (begF w.reverse).1.reverse.reverse
  rw [List.reverse_reverse]
theorem eS_rev (w : Wd) : eS w.reverse = (bP w).reverse := by
  show (begF w.reverse.reverse).1.reverse = (begF w).1.reverse
  rw [List.reverse_reverse]
def mv1 (p : Bool) (w : Wd) : Wd := if p = true then bP w else eS w
def mv : List Bool → Wd → Wd
  | [], w => w
  | p :: m, w => mv m (mv1 p w)
/-- band-alike -/
def Al (u v : Wd) : Prop := ∀ m, SameC (mv m u) (mv m v)
theorem Al.refl (u : Wd) : Al u u := fun _ => SameC.refl _
theorem Al.symm {u v : Wd} (h : Al u v) : Al v u := fun m => (h m).symm
theorem Al.trans {u v w : Wd} (h : Al u v) (k : Al v w) : Al u w := fun m => (h m).trans (k m)
theorem Al.c {u v : Wd} (h : Al u v) : SameC u v := h []
theorem Al.mv {u v : Wd} (h : Al u v) (p : Bool) : Al (mv1 p u) (mv1 p v) := fun m => h (p :: m)
theorem Al.of {u v : Wd} (h : SameC u v) (h1 : ∀ p, Al (mv1 p u) (mv1 p v)) : Al u v := fun m => match m with
  | [] => h
  | p :: m => h1 p m
theorem mv_rev (w : Wd) : ∀ m, mv m w.reverse = (mv (m.map not) w).reverse := by
  intro m
  induction m generalizing w with
  | nil => rfl
  | cons p m ih =>
    show mv m (mv1 p w.reverse) = (mv (m.map not) (mv1 (!p) w)).reverse
    rw [← ih]
    congr 1
    cases p
    · exact eS_rev w
    · exact bP_rev w
theorem Al.rev {u v : Wd} (h : Al u v) : Al u.reverse v.reverse := fun m x => by
  rw [mv_rev, mv_rev, List.mem_reverse, List.mem_reverse]
  exact h _ x
theorem Beg.more {w p y : Wd} {a : Lr} (h : Beg w p a) (hy : ∀ x, x ∈ y → x ∈ w) : Beg (w ++ y) p a := by
  obtain ⟨⟨r, e⟩, n, c⟩ := h
  refine ⟨⟨r ++ y, by rw [e]; simp⟩, n, fun x hx => ?_⟩
  rcases List.mem_append.mp hx with hx | hx
  · exact c x hx
  · exact c x (hy x hx)
theorem End.more {w s y : Wd} {b : Lr} (h : End w b s) (hy : ∀ x, x ∈ y → x ∈ w) : End (y ++ w) b s := by
  obtain ⟨⟨r, e⟩, n, c⟩ := h
  refine ⟨⟨y ++ r, by rw [e]; simp⟩, n, fun x hx => ?_⟩
  rcases List.mem_append.mp hx with hx | hx
  · exact c x (hy x hx)
  · exact c x hx
theorem bP_more {w y : Wd} (hw : w ≠ []) (hy : ∀ x, x ∈ y → x ∈ w) : begF (w ++ y) = begF w := begF_eq ((beg_ex hw).more hy)
theorem eS_more {w y : Wd} (hw : w ≠ []) (hy : ∀ x, x ∈ y → x ∈ w) : endF (y ++ w) = endF w := endF_eq ((end_ex hw).more hy)
/-- where the second word brings letters, the beginning ends in it -/
theorem bP_new : ∀ (y u : Wd), (∃ x, x ∈ y ∧ x ∉ u) → ∃ y1, ∀ v, SameC u v → bP (v ++ y) = v ++ y1 := by
  intro y
  have key : ∀ (n : Nat) (y u : Wd), y.length = n → (∃ x, x ∈ y ∧ x ∉ u) → ∃ y1, ∀ v, SameC u v → bP (v ++ y) = v ++ y1 := by
    intro n
    induction n with
    | zero =>
      intro y u h ⟨x, hx, _⟩
      rw [List.length_eq_zero_iff.mp h] at hx; cases hx
    | succ n ih =>
      intro y u h ⟨x, hx, hn⟩
      have hy : y ≠ [] := fun e => by rw [e] at hx; cases hx
      obtain ⟨z, c, rfl⟩ : ∃ z c, y = z ++ [c] := ⟨_, _, (List.dropLast_concat_getLast hy).symm⟩
      by_cases hc : c ∈ u ∨ c ∈ z
      · obtain ⟨y1, h1⟩ := ih z u (by simpa using h) (by
          rcases List.mem_append.mp hx with hx | hx
          · exact ⟨x, hx, hn⟩
          · rcases hc with hc | hc
            · rw [List.mem_singleton.mp hx] at hn; exact absurd hc hn
            · exact ⟨c, hc, by rw [List.mem_singleton.mp hx] at hn; exact hn⟩)
        refine ⟨y1, fun v hv => ?_⟩
        rw [← h1 v hv, ← List.append_assoc]
        show (begF (v ++ z ++ [c])).1 = _
        rw [begF_snoc, if_pos (by rw [List.mem_append]; exact hc.imp (hv c).mp id)]
      · refine ⟨z, fun v hv => ?_⟩
        rw [← List.append_assoc]
        show (begF (v ++ z ++ [c])).1 = _
        rw [begF_snoc, if_neg (by rw [List.mem_append]; exact fun k => hc (k.imp (hv c).mpr id))]
  exact fun u h => key _ y u rfl h
/-- what the first word leaves in the end of both -/
theorem cnt_lt {s w : Wd} {b : Lr} (hb : b ∉ s) (hw : b ∈ w) (h : ∀ x, x ∈ s → x ∈ w) : (dedT s).length < (dedT w).length := by
  have := List.Nodup.length_le_of_subset (l₁ := b :: dedT s) (l₂ := dedT w) (List.nodup_cons.mpr ⟨by simpa using hb, dedT_nodup s⟩) (fun x hx => by
    rcases List.mem_cons.mp hx with rfl | hx
    · simpa using hw
    · simpa using h x (by simpa using hx))
  simp at this
  omega
theorem End.mem {w s : Wd} {b : Lr} (h : End w b s) : b ∈ w ∧ ∀ x, x ∈ s → x ∈ w := by
  obtain ⟨⟨r, e⟩, _, _⟩ := h
  rw [e]
  exact ⟨by simp, fun x hx => by simp [hx]⟩
theorem Beg.mem {w p : Wd} {a : Lr} (h : Beg w p a) : a ∈ w ∧ ∀ x, x ∈ p → x ∈ w := by
  obtain ⟨⟨r, e⟩, _, _⟩ := h
  rw [e]
  exact ⟨by simp, fun x hx => by simp [hx]⟩
/-- alike words lose the same letter -/
theorem Al.lost {u v : Wd} (h : Al u v) (hu : u ≠ []) : (begF u).2 = (begF v).2 ∧ (endF u).1 = (endF v).1 := by
  have hv : v ≠ [] := fun e => hu (h.c.symm.nil e)
  constructor
  · have b1 := beg_ex hu
    have b2 := beg_ex hv
    have h1 : (begF u).2 ∈ v := (h.c _).mp b1.mem.1
    rcases b2.2.2 _ h1 with k | k
    · exact absurd (((h.mv true).c _).mpr k) b1.2.1
    · exact k
  · have b1 := end_ex hu
    have b2 := end_ex hv
    have h1 : (endF u).1 ∈ v := (h.c _).mp b1.mem.1
    rcases b2.2.2 _ h1 with k | k
    · exact absurd (((h.mv false).c _).mpr k) b1.2.1
    · exact k
theorem eS_new (y : Wd) : ∀ (n : Nat) (u : Wd), (dedT u).length = n → (∃ x, x ∈ u ∧ x ∉ y) → ∀ v, Al u v → ∃ u' v', eS (u ++ y) = u' ++ y ∧ eS (v ++ y) = v' ++ y ∧ Al u' v' := by
  intro n
  induction n using Nat.strongRecOn with
  | ind n ih =>
    intro u hn ⟨x, hx, hxy⟩ v hv
    have hu : u ≠ [] := fun e => by rw [e] at hx; cases hx
    have hv0 : v ≠ [] := fun e => hu (hv.c.symm.nil e)
    have e1 := end_ex hu
    have e2 := end_ex hv0
    have el := (hv.lost hu).2
    have as := hv.mv false
    rw [← el] at e2
    generalize (endF u).1 = b at e1 e2
    have as : Al (endF u).2 (endF v).2 := as
    generalize (endF u).2 = s at e1 as
    generalize (endF v).2 = t at e2 as
    by_cases hb : b ∈ y
    · have cover : ∀ {w s : Wd}, End w b s → (∃ r, w ++ y = r ++ (s ++ y) ∧ ∀ z, z ∈ r → z ∈ s ++ y) := fun {w s} e => by
        obtain ⟨⟨r, rfl⟩, n', c⟩ := e
        refine ⟨r ++ [b], by simp, fun z hz => ?_⟩
        rcases List.mem_append.mp hz with hz | hz
        · rcases c z (by simp [hz]) with k | k
          · simp [k]
          · simp [k, hb]
        · rw [List.mem_singleton.mp hz]; simp [hb]
      obtain ⟨r1, q1, k1⟩ := cover e1
      obtain ⟨r2, q2, k2⟩ := cover e2
      have hs : ∃ x, x ∈ s ∧ x ∉ y := by
        rcases e1.2.2 x hx with k | k
        · exact ⟨x, k, hxy⟩
        · rw [k] at hxy; exact absurd hb hxy
      obtain ⟨u', v', z1, z2, z3⟩ := ih _ (by rw [← hn]; exact cnt_lt e1.2.1 e1.mem.1 e1.mem.2) s rfl hs t as
      have ns : s ++ y ≠ [] := fun e => by rw [List.append_eq_nil_iff] at e; rw [e.2] at hb; cases hb
      have nt : t ++ y ≠ [] := fun e => by rw [List.append_eq_nil_iff] at e; rw [e.2] at hb; cases hb
      refine ⟨u', v', ?_, ?_, z3⟩
      · rw [q1]
        show (endF _).2 = _
        rw [eS_more ns k1]
        exact z1
      · rw [q2]
        show (endF _).2 = _
        rw [eS_more nt k2]
        exact z2
    · have fin : ∀ {w s : Wd}, End w b s → eS (w ++ y) = s ++ y := fun {w s} e => by
        obtain ⟨⟨r, rfl⟩, n', c⟩ := e
        show (endF _).2 = _
        rw [endF_eq (b := b) (s := s ++ y) ⟨⟨r, by simp⟩, by simp [n', hb], fun z hz => by
          rcases List.mem_append.mp hz with hz | hz
          · rcases c z hz with k | k
            · exact .inl (by simp [k])
            · exact .inr k
          · exact .inl (by simp [hz])⟩]
      exact ⟨s, t, fin e1, fin e2, as⟩
/-- alike words stay alike with the same word behind, ahead -/
theorem Al.behind_ : ∀ (m : List Bool) (u v y : Wd), Al u v → SameC (DL.mv m (u ++ y)) (DL.mv m (v ++ y)) := by
  intro m
  induction m with
  | nil =>
    intro u v y h x
    show x ∈ u ++ y ↔ x ∈ v ++ y
    rw [List.mem_append, List.mem_append, h.c x]
  | cons p m ih =>
    intro u v y h
    by_cases hu : u = []
    · subst hu
      rw [h.c.nil rfl]
      exact SameC.refl _
    have hv : v ≠ [] := fun e => hu (h.c.symm.nil e)
    cases p with
    | true =>
      show SameC (DL.mv m (bP (u ++ y))) (DL.mv m (bP (v ++ y)))
      by_cases hy : ∃ x, x ∈ y ∧ x ∉ u
      · obtain ⟨y1, h1⟩ := bP_new y u hy
        rw [h1 u (SameC.refl u), h1 v h.c]
        exact ih u v y1 h
      · have hy : ∀ x, x ∈ y → x ∈ u := fun x hx => Classical.byContradiction fun k => hy ⟨x, hx, k⟩
        unfold bP
        rw [bP_more hu hy, bP_more hv fun x hx => (h.c x).mp (hy x hx)]
        exact h (true :: m)
    | false =>
      show SameC (DL.mv m (eS (u ++ y))) (DL.mv m (eS (v ++ y)))
      by_cases hy : ∃ x, x ∈ u ∧ x ∉ y
      · obtain ⟨u', v', z1, z2, z3⟩ := eS_new y _ u rfl hy v h
        rw [z1, z2]
        exact ih u' v' y z3
      · have hy : ∀ x, x ∈ u → x ∈ y := fun x hx => Classical.byContradiction fun k => hy ⟨x, hx, k⟩
        have ny : y ≠ [] := fun e => by
          cases u with
          | nil => exact hu rfl
          | cons x u => have := hy x List.mem_cons_self; rw [e] at this; cases this
        unfold eS
        rw [eS_more ny hy, eS_more ny fun x hx => hy x ((h.c x).mpr hx)]
        exact SameC.refl _
theorem Al.behind {u v : Wd} (h : Al u v) (y : Wd) : Al (u ++ y) (v ++ y) := fun m => Al.behind_ m u v y h
theorem Al.ahead {u v : Wd} (h : Al u v) (x : Wd) : Al (x ++ u) (x ++ v) := by
  have := (h.rev.behind x.reverse).rev
  simpa using this
theorem Al.twice (u : Wd) : Al (u ++ u) u := by
  by_cases hu : u = []
  · subst hu; exact Al.refl _
  refine Al.of (fun x => by simp) fun p => ?_
  cases p with
  | true =>
    show Al (begF (u ++ u)).1 (begF u).1
    rw [bP_more hu fun x hx => hx]
    exact Al.refl _
  | false =>
    show Al (endF (u ++ u)).2 (endF u).2
    rw [eS_more hu fun x hx => hx]
    exact Al.refl _
theorem Al.between {x y z : Wd} (h : SameC x z) (hy : ∀ l, l ∈ y → l ∈ x) : Al (x ++ z) (x ++ y ++ z) := by
  by_cases hx : x = []
  · subst hx
    have : y = [] := by
      cases y with
      | nil => rfl
      | cons l y => exact absurd (hy l List.mem_cons_self) (by simp)
    subst this
    exact Al.refl _
  have hz : z ≠ [] := fun e => hx (h.symm.nil e)
  refine Al.of (fun l => ?_) fun p => ?_
  · simp only [List.mem_append]
    exact ⟨fun k => k.imp .inl id, fun k => k.elim (fun k => k.elim .inl fun k => .inl (hy l k)) .inr⟩
  cases p with
  | true =>
    show Al (begF (x ++ z)).1 (begF (x ++ y ++ z)).1
    rw [bP_more hx fun l hl => (h l).mpr hl, List.append_assoc, bP_more hx fun l hl => (List.mem_append.mp hl).elim (hy l) (h l).mpr]
    exact Al.refl _
  | false =>
    show Al (endF (x ++ z)).2 (endF (x ++ y ++ z)).2
    rw [eS_more hz fun l hl => (h l).mp hl, eS_more hz fun l hl => (List.mem_append.mp hl).elim (h l).mp fun k => (h l).mp (hy l k)]
    exact Al.refl _
def mrgK (l r : Wd) : Nat → Wd
  | 0 => l ++ r
  | k + 1 => if l.drop (l.length - (k + 1)) = r.take (k + 1) then l ++ r.drop (k + 1) else mrgK l r k
def mergeW (l r : Wd) : Wd := mrgK l r (min l.length r.length)
theorem mrgK_ex (l r : Wd) : ∀ n, ∃ k, k ≤ n ∧ l.drop (l.length - k) = r.take k ∧ mrgK l r n = l ++ r.drop k
  | 0 => ⟨0, Nat.le_refl _, by simp, by simp [mrgK]⟩
  | n + 1 => by
    by_cases h : l.drop (l.length - (n + 1)) = r.take (n + 1)
    · exact ⟨n + 1, Nat.le_refl _, h, by simp [mrgK, h]⟩
    · obtain ⟨k, h1, h2, h3⟩ := mrgK_ex l r n
      exact ⟨k, by omega, h2, by simp [mrgK, h, h3]⟩
theorem mergeW_ex (l r : Wd) : ∃ q x, mergeW l r = l ++ x ∧ mergeW l r = q ++ r ∧ (∀ z, z ∈ x → z ∈ r) ∧ ∀ z, z ∈ q → z ∈ l := by
  obtain ⟨k, h1, h2, h3⟩ := mrgK_ex l r (min l.length r.length)
  refine ⟨l.take (l.length - k), r.drop k, h3, ?_, fun z hz => List.mem_of_mem_drop hz, fun z hz => List.mem_of_mem_take hz⟩
  unfold mergeW
  rw [h3]
  conv => lhs; rw [← List.take_append_drop (l.length - k) l, h2, List.append_assoc, List.take_append_drop]
theorem mergeW_mem {l r : Wd} {x : Lr} : x ∈ mergeW l r ↔ x ∈ l ∨ x ∈ r := by
  obtain ⟨q, z, e1, e2, h1, h2⟩ := mergeW_ex l r
  constructor
  · intro h
    rw [e1, List.mem_append] at h
    exact h.imp id (h1 x)
  · rintro (h | h)
    · rw [e1]; simp [h]
    · rw [e2]; simp [h]
def bandN : Nat → Wd → Wd
  | 0, w => []
  | n + 1, w => if (dedT w).length = 1 then [w.headD []] else mergeW (bandN n (begF w).1 ++ [(begF w).2]) ((endF w).1 :: bandN n (endF w).2)
theorem cnt_same {u v : Wd} (h : SameC u v) : (dedT u).length = (dedT v).length :=
  ((List.perm_ext_iff_of_nodup (dedT_nodup u) (dedT_nodup v)).mpr fun x => by simp [h x]).length_eq
theorem one_letter {w : Wd} (h : (dedT w).length = 1) : w ≠ [] ∧ ∀ x, x ∈ w → x = w.headD [] := by
  have hw : w ≠ [] := fun e => by rw [e] at h; cases h
  refine ⟨hw, fun x hx => ?_⟩
  obtain ⟨z, hz⟩ := List.length_eq_one_iff.mp h
  have m : ∀ y, y ∈ w → y = z := fun y hy => by
    have : y ∈ dedT w := by simpa using hy
    rw [hz] at this
    simpa using this
  rw [m x hx]
  cases w with
  | nil => exact absurd rfl hw
  | cons y w => exact (m y List.mem_cons_self).symm
theorem bandN_al : ∀ (n : Nat) {u v : Wd}, u ≠ [] → Al u v → bandN n u = bandN n v
  | 0, u, v, _, _ => rfl
  | n + 1, u, v, hu, h => by
    have hv : v ≠ [] := fun e => hu (h.c.symm.nil e)
    unfold bandN
    rw [cnt_same h.c]
    split
    · rename_i h1
      have o1 := one_letter (w := u) (by rw [cnt_same h.c]; exact h1)
      have o2 := one_letter h1
      have hm : u.headD [] ∈ u := by
        cases u with
        | nil => exact absurd rfl hu
        | cons x u => exact List.mem_cons_self
      rw [o2.2 _ ((h.c _).mp hm)]
    · rename_i h1
      have h1' : (dedT u).length ≠ 1 := by rw [cnt_same h.c]; exact h1
      have hp : bP u ≠ [] := fun e => by
        have b := beg_ex hu
        rw [show (begF u).1 = [] from e] at b
        apply h1'
        have s : SameC u [(begF u).2] := fun x => ⟨fun hx => by simpa using b.2.2 x hx, fun hx => by rw [List.mem_singleton.mp hx]; exact b.mem.1⟩
        rw [cnt_same s]; rfl
      have hs : eS u ≠ [] := fun e => by
        have b := end_ex hu
        rw [show (endF u).2 = [] from e] at b
        apply h1'
        have s : SameC u [(endF u).1] := fun x => ⟨fun hx => by simpa using b.2.2 x hx, fun hx => by rw [List.mem_singleton.mp hx]; exact b.mem.1⟩
        rw [cnt_same s]; rfl
      obtain ⟨l1, l2⟩ := h.lost hu
      rw [bandN_al n hp (h.mv true), bandN_al n hs (h.mv false), l1, l2]
      rfl
theorem cnt_pos {w : Wd} (h : w ≠ []) : 0 < (dedT w).length := by
  cases w with
  | nil => exact absurd rfl h
  | cons x w =>
    have : x ∈ dedT (x :: w) := by simp
    exact List.length_pos_of_mem this
theorem parts {w : Wd} (hw : w ≠ []) (h1 : (dedT w).length ≠ 1) : bP w ≠ [] ∧ eS w ≠ [] ∧ (dedT (bP w)).length < (dedT w).length ∧ (dedT (eS w)).length < (dedT w).length := by
  have b := beg_ex hw
  have e := end_ex hw
  refine ⟨fun z => ?_, fun z => ?_, cnt_lt b.2.1 b.mem.1 b.mem.2, cnt_lt e.2.1 e.mem.1 e.mem.2⟩
  · rw [show (begF w).1 = [] from z] at b
    apply h1
    have s : SameC w [(begF w).2] := fun x => ⟨fun hx => by simpa using b.2.2 x hx, fun hx => by rw [List.mem_singleton.mp hx]; exact b.mem.1⟩
    rw [cnt_same s]; rfl
  · rw [show (endF w).2 = [] from z] at e
    apply h1
    have s : SameC w [(endF w).1] := fun x => ⟨fun hx => by simpa using e.2.2 x hx, fun hx => by rw [List.mem_singleton.mp hx]; exact e.mem.1⟩
    rw [cnt_same s]; rfl
/-- a word is alike to its band form -/
theorem al_bandN : ∀ (n : Nat) {w : Wd}, w ≠ [] → (dedT w).length ≤ n → Al w (bandN n w)
  | 0, w, hw, h => absurd (cnt_pos hw) (by omega)
  | n + 1, w, hw, h => by
    unfold bandN
    split
    · rename_i h1
      have o := one_letter h1
      have s : SameC w [w.headD []] := fun x => ⟨fun hx => by simpa using o.2 x hx, fun hx => by
        rw [List.mem_singleton.mp hx]
        cases w with
        | nil => exact absurd rfl hw
        | cons x w => exact List.mem_cons_self⟩
      have bn : ∀ {v : Wd}, v ≠ [] → (dedT v).length = 1 → ∀ p, mv1 p v = [] := fun {v} hv hc p => by
        have small : ∀ {x : Wd}, (dedT x).length < (dedT v).length → x = [] := fun {x} hx => by
          cases x with
          | nil => rfl
          | cons a x => have := cnt_pos (w := a :: x) (by simp); omega
        cases p
        · exact small (cnt_lt (end_ex hv).2.1 (end_ex hv).mem.1 (end_ex hv).mem.2)
        · exact small (cnt_lt (beg_ex hv).2.1 (beg_ex hv).mem.1 (beg_ex hv).mem.2)
      refine Al.of s fun p => ?_
      rw [bn hw h1 p, bn (v := [w.headD []]) (by simp) rfl p]
      exact Al.refl _
    · rename_i h1
      obtain ⟨np, ns, lp, ls⟩ := parts hw h1
      have ap := al_bandN n np (by omega)
      have as := al_bandN n ns (by omega)
      have b := beg_ex hw
      have e := end_ex hw
      obtain ⟨q, x, e1, e2, k1, k2⟩ := mergeW_ex (bandN n (begF w).1 ++ [(begF w).2]) ((endF w).1 :: bandN n (endF w).2)
      have cl : ∀ z, z ∈ bandN n (begF w).1 ++ [(begF w).2] ↔ z ∈ w := fun z => by
        rw [List.mem_append, List.mem_singleton, ← ap.c z]
        exact ⟨fun k => k.elim (b.mem.2 z) fun k => k ▸ b.mem.1, b.2.2 z⟩
      have cr : ∀ z, z ∈ (endF w).1 :: bandN n (endF w).2 ↔ z ∈ w := fun z => by
        rw [List.mem_cons, ← as.c z]
        exact ⟨fun k => k.elim (fun k => k ▸ e.mem.1) (e.mem.2 z), fun k => (e.2.2 z k).symm⟩
      have B : Beg (mergeW (bandN n (begF w).1 ++ [(begF w).2]) ((endF w).1 :: bandN n (endF w).2)) (bandN n (begF w).1) (begF w).2 := by
        refine ⟨⟨x, by rw [e1]; simp⟩, fun k => b.2.1 ((ap.c _).mpr k), fun z hz => ?_⟩
        rw [mergeW_mem] at hz
        have hz : z ∈ w := hz.elim (cl z).mp (cr z).mp
        have := (cl z).mpr hz
        simpa using this
      have E : End (mergeW (bandN n (begF w).1 ++ [(begF w).2]) ((endF w).1 :: bandN n (endF w).2)) (endF w).1 (bandN n (endF w).2) := by
        refine ⟨⟨q, e2⟩, fun k => e.2.1 ((as.c _).mpr k), fun z hz => ?_⟩
        rw [mergeW_mem] at hz
        have hz : z ∈ w := hz.elim (cl z).mp (cr z).mp
        exact (List.mem_cons.mp ((cr z).mpr hz)).symm
      refine Al.of (fun z => ?_) fun p => ?_
      · rw [mergeW_mem, cl, cr]; simp
      · cases p
        · show Al (endF w).2 (endF _).2
          rw [endF_eq E]
          exact as
        · show Al (begF w).1 (begF _).1
          rw [begF_eq B]
          exact ap
theorem mrgK_len (l r : Wd) : ∀ n, (mrgK l r n).length ≤ l.length + r.length
  | 0 => by simp [mrgK]
  | n + 1 => by
    unfold mrgK
    split
    · rw [List.length_append, List.length_drop]; omega
    · exact mrgK_len l r n
theorem bandN_len : ∀ (n : Nat) (w : Wd), (bandN n w).length + 2 ≤ 2 ^ (n + 1)
  | 0, w => by simp [bandN]
  | n + 1, w => by
    have h1 := bandN_len n (begF w).1
    have h2 := bandN_len n (endF w).2
    have h3 : 2 ^ (n + 1 + 1) = 2 * 2 ^ (n + 1) := by rw [Nat.pow_succ]; omega
    unfold bandN
    split
    · have h4 : 2 ^ (n + 1) = 2 * 2 ^ n := by rw [Nat.pow_succ]; omega
      have h5 : 0 < 2 ^ n := Nat.two_pow_pos n
      rw [List.length_singleton]
      omega
    · have h4 := mrgK_len (bandN n (begF w).1 ++ [(begF w).2]) ((endF w).1 :: bandN n (endF w).2) (min (bandN n (begF w).1 ++ [(begF w).2]).length ((endF w).1 :: bandN n (endF w).2).length)
      unfold mergeW
      simp only [List.length_append, List.length_cons, List.length_nil] at h4
      simp only [List.length_append, List.length_cons, List.length_nil] at *
      omega
/-- the band form -/
def bandW (w : Wd) : Wd := bandN (dedT w).length w
theorem al_band {w : Wd} (hw : w ≠ []) : Al w (bandW w) := al_bandN _ hw (Nat.le_refl _)
theorem band_al {u v : Wd} (hu : u ≠ []) (h : Al u v) : bandW u = bandW v := by
  unfold bandW
  rw [cnt_same h.c]
  exact bandN_al _ hu h
end DL
namespace DL
open PySem PySem.Spec L2
open PyProof.Rows hiding St
variable [HashW]
section
variable {sd : SD} {M M1 : MS} {d e v : D} {ds es : List D} {m mo mi : ME} {neg : Bool}
def dputK1 (mo mi : ME) (sd : SD) : D → MS → SRes := fun v M1 => SRes.ofE (mo sd M1) sd fun o M2 => SRes.ofE (mi sd M2) sd fun i M3 => match dputM M3 o i v with
  | some M4 => .nx sd M4
  | none => .stuck
def dputK2 (mi : ME) (sd : SD) (v : D) : D → MS → SRes := fun o M2 => SRes.ofE (mi sd M2) sd fun i M3 => match dputM M3 o i v with
  | some M4 => .nx sd M4
  | none => .stuck
def dputK3 (sd : SD) (v o : D) : D → MS → SRes := fun i M3 => match dputM M3 o i v with
  | some M4 => .nx sd M4
  | none => .stuck
@[simp] theorem dputS_ap : dputS mo mi m sd M = SRes.ofE (m sd M) sd (dputK1 mo mi sd) := rfl
@[simp] theorem dputK1_ap : dputK1 mo mi sd v M = SRes.ofE (mo sd M) sd (dputK2 mi sd v) := rfl
@[simp] theorem dputK2_ap : dputK2 mi sd v d M = SRes.ofE (mi sd M) sd (dputK3 sd v d) := rfl
theorem dputK3_cell {n : Nat} {ks ks' ds' : List D} (hm : M[n]? = some (.dic ks ds)) (h : dputD ks ds e v = some (ks', ds')) : dputK3 sd v (.cell n) e M = .nx sd (M.set n (.dic ks' ds')) := by
  unfold dputK3 dputM
  simp [hm, h]
@[simp] theorem dicE_ap : dicE sd M = .ok (.cell M.length) (M ++ [.dic [] []]) := rfl
theorem lenX_dic {n : Nat} {ks : List D} (hm : M[n]? = some (.dic ks ds)) : lenX [.cell n] M = .ok (.int ks.length) M := by
  unfold lenX
  simp [hm]
/-- d[x] = v for a text x, where all keys are texts -/
theorem dputD_str {xs : List (List Nat)} {x : List Nat} {k : Nat} (hk : k = xs.length) (hl : xs.length < 1000000) : dputD (xs.map D.str) (List.replicate k (.bl true)) (.str x) (.bl true) = some ((insT xs x).map D.str, List.replicate (insT xs x).length (.bl true)) := by
  subst hk
  have any : (xs.map D.str).any (isKey (.inr (tx x))) = decide (x ∈ xs) := by
    rw [List.any_map, Bool.eq_iff_iff, List.any_eq_true, decide_eq_true_eq]
    constructor
    · rintro ⟨y, hy, h⟩
      have h : (some (Sum.inr (tx y) : Key)) = some (.inr (tx x)) := of_decide_eq_true h
      injection h with h
      injection h with h
      rw [← tx_inj.mp h]
      exact hy
    · intro h
      exact ⟨x, h, decide_eq_true rfl⟩
  have zw : ∀ ys : List (List Nat), List.zipWith (fun d v => if isKey (.inr (tx x)) d = true then D.bl true else v) (ys.map D.str) (List.replicate ys.length (.bl true)) = List.replicate ys.length (.bl true) := by
    intro ys
    induction ys with
    | nil => rfl
    | cons y ys ih =>
      rw [List.map_cons, List.length_cons, List.replicate_succ, List.zipWith_cons_cons, ih]
      simp
  unfold dputD
  show (if (xs.map D.str).length < 1000000 then _ else none) = _
  rw [if_pos (by simpa using hl), any]
  unfold insT
  by_cases h : x ∈ xs
  · rw [if_pos (by simpa using h), if_pos h, zw]
  · rw [if_neg (by simpa using h), if_neg h]
    simp [List.replicate_succ']
def rv1K : D → MS → Res ItD := fun d M1 => match d with
  | .int j => if -1000000000 ≤ j ∧ j ≤ 1000000000 then .ok (intsI (revN j.toNat)) M1 else .stuck
  | _ => .stuck
@[simp] theorem rev1I_ap : rev1I m sd M = (m sd M).bind rv1K := rfl
theorem rv1K_ap {j : Nat} (h : j ≤ 1000000000) : rv1K (.int (j : Int)) M = .ok (intsI ((List.range j).reverse.map fun (k : Nat) => (k : Int))) M := by
  rw [← revN_eq]
  unfold rv1K
  dsimp only
  rw [if_pos (by omega)]
  simp
def enK : D → MS → Res ItD := fun d M1 => match seqOf M1 d with
  | some ds => .ok ⟨enumD 0 ds, lchk M1 d⟩ M1
  | none => .stuck
@[simp] theorem enumX_ap : enumX m sd M = (m sd M).bind enK := rfl
theorem enK_lst : enK (.lst ds) M = .ok ⟨enumD 0 ds, lchk M (.lst ds)⟩ M := rfl
def unpK (g : MG) (sd : SD) : D → MS → SRes := fun d M1 => match g d sd with
  | some sd1 => .nx sd1 M1
  | none => .stuck
@[simp] theorem unpS_ap {g : MG} : unpS g m sd M = SRes.ofE (m sd M) sd (unpK g sd) := rfl
theorem unpK_ap {g : MG} {sd1 : SD} (h : g d sd = some sd1) : unpK g sd d M = .nx sd1 M := by
  unfold unpK
  rw [h]
@[simp] theorem listF_lst : listF [.lst ds] M = .ok (.lst ds) M := rfl
@[simp] theorem listF_tup : listF [.tup ds] M = .ok (.lst ds) M := rfl
abbrev wD (w : Wd) : D := .lst (w.map D.str)
theorem sts_wD {w : Wd} : (lst1 [wD w] M).bind stsOf = some w := by simp [lst1, isTup]
theorem setR_w {w : Wd} (h : m sd M = .ok (wD w) M1) (hl : w.length < 4000) : setR m sd M = .ok (dedT w) M1 := setR_run h rfl rfl hl
abbrev okW (w : Wd) : Prop := ∀ x, x ∈ w → okC x
theorem eqvDs_strs : ∀ {xs ys : Wd}, eqvDs (xs.map D.str) (ys.map D.str) = decide (xs = ys)
  | [], [] => by simp [eqvDs_nil]
  | [], y :: ys => by simp [eqvDs_nc]
  | x :: xs, [] => by simp [eqvDs_cn]
  | x :: xs, y :: ys => by
    rw [List.map_cons, List.map_cons, eqvDs_cons, eqvDs_strs, eqvD_str, Bool.eq_iff_iff]
    simp
theorem plW {w : Wd} {n : Nat} (h : okW w) : plN (n + 1) (wD w) := by
  rw [plN_lst]
  exact plNs_map fun x hx => by rw [plN_str]; exact h x hx
theorem eqD_w {u w : Wd} (hu : okW u) (hw : okW w) : eqD neg (wD u) (wD w) M = .ok (.bl (decide (u = w) != neg)) M := by
  rw [eqD_pl (plW hu) (plW hw), eqvD_lst, eqvDs_strs]
theorem addD_w {u w : Wd} (h : u.length + w.length ≤ 1000000) : addD (wD u) (wD w) M = .ok (wD (u ++ w)) M := by
  rw [addD_lst (by simpa using h), ← List.map_append]
theorem sl_to {w : Wd} {k : Nat} : sliceD (wD w) none (some (k : Int)) M = .ok (wD (w.take k)) M := by
  rw [sliceD_lst, cutL_to, ← List.map_take]
theorem sl_from {w : Wd} {k : Nat} : sliceD (wD w) (some (k : Int)) none M = .ok (wD (w.drop k)) M := by
  rw [sliceD_lst, cutL_from, ← List.map_drop]
theorem rev_w {w : Wd} {sd : SD} {M1 : MS} (h : m sd M = .ok (wD w) M1) : revAE m sd M = .ok (wD w.reverse) M1 := by
  rw [revE_ap, h, Res.bind_ok]
  simp [isTup]
/-- a def whose new places are not in what it gives -/
theorem clF_ok {F : FM} {t : MS} (h : F ds M = .ok d (M ++ t)) (hd : clo M.length (M ++ t) d = some e) : clF F ds M = .ok e M := by
  unfold clF
  rw [h]
  unfold closeR
  dsimp only
  rw [if_pos (.inl (by simp)), hd]
  simp
theorem clos_strs {n : Nat} : ∀ (xs : Wd), clos n M (xs.map D.str) = some (xs.map D.str)
  | [] => rfl
  | x :: xs => by
    rw [List.map_cons]
    unfold clos
    rw [clos_strs xs]
    rfl
theorem clo_w {n : Nat} {w : Wd} : clo n M (wD w) = some (wD w) := by
  show (clos n M (w.map D.str)).map D.lst = _
  rw [clos_strs]
  rfl
theorem ded_le {u w : Wd} (h : ∀ x, x ∈ u → x ∈ w) : (dedT u).length ≤ (dedT w).length :=
  List.Nodup.length_le_of_subset (dedT_nodup u) fun x hx => by simpa using h x (by simpa using hx)
/-- what the loop over the word finds first -/
theorem beg_at {w : Wd} {i : Nat} (hi : i < w.length) (h1 : (dedT (w.take i)).length < (dedT w).length) (h2 : (dedT (w.take (i + 1))).length = (dedT w).length) : begF w = (w.take i, w[i]) := by
  have e : w = w.take i ++ w[i] :: w.drop (i + 1) := by rw [← List.drop_eq_getElem_cons hi, List.take_append_drop]
  have e1 : w.take (i + 1) = w.take i ++ [w[i]] := (List.take_append_getElem hi).symm
  refine begF_eq ⟨⟨_, e⟩, fun hm => ?_, fun x hx => ?_⟩
  · have : SameC (w.take (i + 1)) (w.take i) := fun x => by
      rw [e1, List.mem_append, List.mem_singleton]
      exact ⟨fun k => k.elim id fun k => k ▸ hm, .inl⟩
    rw [cnt_same this] at h2
    omega
  · have hs : sameT (dedT (w.take (i + 1))) (dedT w) = true := by
      unfold sameT
      rw [decide_eq_true h2, Bool.true_and, List.all_eq_true]
      intro y hy
      simp only [mem_dedT] at hy
      simpa using List.mem_of_mem_take hy
    have := (sameT_ded.mp hs x).mpr hx
    rw [e1, List.mem_append, List.mem_singleton] at this
    exact this
end
end DL
namespace DL
open PySem PySem.Spec L2
open PyProof.Rows hiding St
variable [HashW]
open Classical in
noncomputable def lc2Go (chk : MS → Prop) (g : MG) (tt : MB) (mi1 : MI) (g1 : MG) (tt1 : MB) (te : ME) (vs1 : List Nat) (w : SD) : List D → List D → MS → Res (List D)
  | [], acc, M => if chk M then .ok acc M else .stuck
  | d :: r, acc, M => if chk M then (match g d w with
    | none => .stuck
    | some sd1 => (tt sd1 M).ne.bind fun b M1 => if b = true then (mi1 sd1 M1).ne.bind fun it1 M2 => (lcGo it1.chk g1 tt1 te (wipeD sd1 vs1) it1.ds acc M2).ne.bind fun acc' M3 => lc2Go chk g tt mi1 g1 tt1 te vs1 w r acc' M3 else lc2Go chk g tt mi1 g1 tt1 te vs1 w r acc M1) else .stuck
noncomputable def lc2E (mi : MI) (g : MG) (tt : MB) (mi1 : MI) (g1 : MG) (tt1 : MB) (te : ME) (vs vs1 : List Nat) : ME := fun sd M => (mi sd M).bind fun it M1 => (lc2Go it.chk g tt mi1 g1 tt1 te vs1 (wipeD sd vs) it.ds [] M1).ne.bind fun ds M2 => .ok (.lst ds) M2
theorem PresW.trans {r0 r1 r2 : Pl} {H0 H1 H2 : Hp} (p : PresW r0 H0 r1 H1) (q : PresW r1 H1 r2 H2) : PresW r0 H0 r2 H2 := by
  refine ⟨?_, fun a o h hn => ?_, fun a h => ?_⟩
  · obtain ⟨t, e⟩ := p.pre
    obtain ⟨u, e'⟩ := q.pre
    exact ⟨t ++ u, by rw [e', e, List.append_assoc]⟩
  · have h1 := p.keep a o h hn
    exact q.keep a o h1 (p.out hn (by rw [h]; simp))
  · rcases q.new a h with z | z
    · exact p.new a z
    · by_cases hm : a ∈ r0.all
      · exact .inl hm
      · refine .inr ?_
        cases e : H0 a with
        | none => rfl
        | some o => rw [p.keep a o e hm] at z; cases z
theorem PresW.refl (ro : Pl) (H : Hp) : PresW ro H ro H := ⟨⟨[], by simp⟩, fun _ _ h _ => h, fun _ h => .inl h⟩
theorem PresW.put {ro : Pl} {H : Hp} {p : Addr} {o : HO} (h : p ∈ ro.hid) : PresW ro H ro (upd H p o) := ⟨⟨[], by simp⟩, fun a u e n => by
  rw [upd_ne (fun z : a = p => n (List.mem_append_right _ (by rw [z]; exact h)))]; exact e, fun _ h => .inl h⟩
section
variable {sd : SD} {M : MS} {mi mi1 : MI} {g g1 : MG} {tt tt1 : MB} {te : ME} {vs vs1 : List Nat}
noncomputable def lc2K (g : MG) (tt : MB) (mi1 : MI) (g1 : MG) (tt1 : MB) (te : ME) (vs vs1 : List Nat) (sd : SD) : ItD → MS → Res D := fun it M1 => (lc2Go it.chk g tt mi1 g1 tt1 te vs1 (wipeD sd vs) it.ds [] M1).ne.bind lstK'
@[simp] theorem lc2E_ap : lc2E mi g tt mi1 g1 tt1 te vs vs1 sd M = (mi sd M).bind (lc2K g tt mi1 g1 tt1 te vs vs1 sd) := rfl
end
end DL
namespace DL
open PySem PySem.Spec L2
open PyProof.Rows hiding St
variable [HashW]
section
variable {X : Cx} {W : WX}
/-- downward by ones -/
def downN (i j : Int) : List Int := (List.range (i - j).toNat).map fun (k : Nat) => i + k * (-1)
def range3N (a : MA) : MI := fun sd M => (a sd M).bind fun ds M1 => match ds with
  | [.int i, .int j, .int c] => if -1000000000 ≤ i ∧ i ≤ 1000000000 ∧ -1000000000 ≤ j ∧ j ≤ 1000000000 ∧ c = -1 then .ok (intsI (downN i j)) M1 else .stuck
  | _ => .stuck
end
section
variable {sd : SD} {M : MS} {ms : MA}
def r3N : List D → MS → Res ItD := fun ds M1 => match ds with
  | [.int i, .int j, .int c] => if -1000000000 ≤ i ∧ i ≤ 1000000000 ∧ -1000000000 ≤ j ∧ j ≤ 1000000000 ∧ c = -1 then .ok (intsI (downN i j)) M1 else .stuck
  | _ => .stuck
@[simp] theorem range3N_ap : range3N ms sd M = (ms sd M).bind r3N := rfl
end
end DL
namespace DL
open PySem PySem.Spec L2
open PyProof.Rows hiding St
variable [HashW]
mutual
/-- places get other numbers -/
def ren (f : Nat → Nat) : D → D
  | .tup ds => .tup (rens f ds)
  | .lst ds => .lst (rens f ds)
  | .flst ds => .flst (rens f ds)
  | .obj C ns ds => .obj C ns (rens f ds)
  | .dic ks ds => .dic ks (rens f ds)
  | .exn C ns ds x d => .exn C ns (rens f ds) x d
  | .cell k => .cell (f k)
  | d => d
def rens (f : Nat → Nat) : List D → List D
  | [] => []
  | d :: ds => ren f d :: rens f ds
end
mutual
def allc (P : Nat → Prop) : D → Prop
  | .tup ds => allcs P ds
  | .lst ds => allcs P ds
  | .flst ds => allcs P ds
  | .obj _ _ ds => allcs P ds
  | .dic _ ds => allcs P ds
  | .exn _ _ ds _ _ => allcs P ds
  | .cell k => P k
  | _ => True
def allcs (P : Nat → Prop) : List D → Prop
  | [] => True
  | d :: ds => allc P d ∧ allcs P ds
end
mutual
theorem nc_all {n : Nat} {Q : Nat → Prop} (h0 : ∀ k, k < n → Q k) : ∀ d : D, nc n d = true → allc Q d
  | .non, _ => trivial
  | .bl _, _ => trivial
  | .int _, _ => trivial
  | .str _, _ => trivial
  | .glo _, _ => trivial
  | .ty _, _ => trivial
  | .tup ds, h => ncs_all h0 ds h
  | .lst ds, h => ncs_all h0 ds h
  | .flst ds, h => ncs_all h0 ds h
  | .obj _ _ ds, h => ncs_all h0 ds h
  | .dic _ ds, h => ncs_all h0 ds h
  | .exn _ _ ds _ _, h => ncs_all h0 ds h
  | .cell k, h => h0 k (of_decide_eq_true h)
theorem ncs_all {n : Nat} {Q : Nat → Prop} (h0 : ∀ k, k < n → Q k) : ∀ ds : List D, ncs n ds = true → allcs Q ds
  | [], _ => trivial
  | d :: ds, h => by
    obtain ⟨h1, h2⟩ := Bool.and_eq_true_iff.mp (show (nc n d && ncs n ds) = true from h)
    exact ⟨nc_all h0 d h1, ncs_all h0 ds h2⟩
end
mutual
theorem ren_nc {n : Nat} {f : Nat → Nat} (h0 : ∀ k, k < n → f k = k) : ∀ d : D, nc n d = true → ren f d = d
  | .non, _ => rfl
  | .bl _, _ => rfl
  | .int _, _ => rfl
  | .str _, _ => rfl
  | .glo _, _ => rfl
  | .ty _, _ => rfl
  | .tup ds, h => congrArg D.tup (rens_nc h0 ds h)
  | .lst ds, h => congrArg D.lst (rens_nc h0 ds h)
  | .flst ds, h => congrArg D.flst (rens_nc h0 ds h)
  | .obj C ns ds, h => congrArg (D.obj C ns) (rens_nc h0 ds h)
  | .dic ks ds, h => congrArg (D.dic ks) (rens_nc h0 ds h)
  | .exn C ns ds x d, h => congrArg (fun es => D.exn C ns es x d) (rens_nc h0 ds h)
  | .cell k, h => congrArg D.cell (h0 k (of_decide_eq_true h))
theorem rens_nc {n : Nat} {f : Nat → Nat} (h0 : ∀ k, k < n → f k = k) : ∀ ds : List D, ncs n ds = true → rens f ds = ds
  | [], _ => rfl
  | d :: ds, h => by
    obtain ⟨h1, h2⟩ := Bool.and_eq_true_iff.mp (show (nc n d && ncs n ds) = true from h)
    show ren f d :: rens f ds = _
    rw [ren_nc h0 d h1, rens_nc h0 ds h2]
end
section
variable {K : PySem.W.Frag} {mg : Str → Option Value} {ro' ro2 : Pl} {H : Hp}
mutual
theorem Rep.ren {f : Nat → Nat} {Q : Nat → Prop} (hs : ∀ a, a ∈ ro2.all → a ∈ ro'.all) (hc : ∀ k, Q k → ∀ a, ro'.ro[k]? = some a → ro2.ro[f k]? = some a) : ∀ (d : D) (v : V), allc Q d → Rep K mg ro' H d v → Rep K mg ro2 H (DL.ren f d) v
  | .non, v, _, q => q
  | .bl b, v, _, q => q
  | .int i, v, _, q => q
  | .str x, v, _, q => q
  | .glo x, v, _, q => q
  | .ty n, v, _, q => q
  | .tup ds, v, c, ⟨a, vs, e1, q, r⟩ => ⟨a, vs, e1, q.imp (fun ⟨z, n⟩ => ⟨z, fun m => n (hs a m)⟩) id, Reps.ren hs hc ds vs c r⟩
  | .lst ds, v, c, ⟨a, vs, e1, q, n, r⟩ => ⟨a, vs, e1, q, fun m => n (hs a m), Reps.ren hs hc ds vs c r⟩
  | .flst ds, v, c, ⟨a, vs, e1, q, r⟩ => ⟨a, vs, e1, q.imp (fun ⟨z, n⟩ => ⟨z, fun m => n (hs a m)⟩) id, Reps.ren hs hc ds vs c r⟩
  | .obj C ns ds, v, c, ⟨a, cc, dx, vs, e1, g, q, n, l, r⟩ => ⟨a, cc, dx, vs, e1, g, q, fun m => n (hs a m), l, Reps.ren hs hc ds vs c r⟩
  | .dic ks ds, v, c, ⟨a, kl, vs, e1, g, l, q, n, r⟩ => ⟨a, kl, vs, e1, g, l, q, fun m => n (hs a m), Reps.ren hs hc ds vs c r⟩
  | .exn C ns ds x d, v, c, ⟨a, vs, e1, q, n, l, r⟩ => ⟨a, vs, e1, q, fun m => n (hs d m), l, Reps.ren hs hc ds vs c r⟩
  | .cell k, v, c, ⟨a, e1, g⟩ => ⟨a, e1, hc k c a g⟩
theorem Reps.ren {f : Nat → Nat} {Q : Nat → Prop} (hs : ∀ a, a ∈ ro2.all → a ∈ ro'.all) (hc : ∀ k, Q k → ∀ a, ro'.ro[k]? = some a → ro2.ro[f k]? = some a) : ∀ (ds : List D) (vs : List V), allcs Q ds → Reps K mg ro' H ds vs → Reps K mg ro2 H (rens f ds) vs
  | [], vs, _, q => q
  | d :: ds, vs, c, ⟨v, r, e1, q, t⟩ => ⟨v, r, e1, Rep.ren hs hc d v c.1 q, Reps.ren hs hc ds r c.2 t⟩
end
theorem Reps.same {n : Nat} (hs : ∀ a, a ∈ ro2.all → a ∈ ro'.all) (hc : ∀ k, k < n → ∀ a, ro'.ro[k]? = some a → ro2.ro[k]? = some a) {ds : List D} {vs : List V} (h : ncs n ds = true) (r : Reps K mg ro' H ds vs) : Reps K mg ro2 H ds vs := by
  have := Reps.ren (f := id) (Q := fun k => k < n) hs hc ds vs (ncs_all (fun k hk => hk) ds h) r
  rwa [rens_nc (n := n) (f := id) (fun k _ => rfl) ds h] at this
theorem MRel.same {n : Nat} (hs : ∀ a, a ∈ ro2.all → a ∈ ro'.all) (hc : ∀ k, k < n → ∀ a, ro'.ro[k]? = some a → ro2.ro[k]? = some a) {mo : MO} {ho : HO} (h : ncM n mo = true) (r : MRel K mg ro' H mo ho) : MRel K mg ro2 H mo ho := by
  cases mo with
  | lst ds => obtain ⟨vs, e1, r⟩ := r; exact ⟨vs, e1, Reps.same hs hc h r⟩
  | obj C ns ds => obtain ⟨d, dx, vs, e1, g, l, r⟩ := r; exact ⟨d, dx, vs, e1, g, l, Reps.same hs hc h r⟩
  | dic ks ds => obtain ⟨kl, vs, e1, g, l, r⟩ := r; exact ⟨kl, vs, e1, g, l, Reps.same hs hc h r⟩
  | tab i C m =>
    obtain ⟨ps, P, e1, t, g, k⟩ := r
    exact ⟨ps, P, e1, ⟨t.1, fun ps cv hc' => let ⟨c, e1, e2, e3⟩ := t.2 ps cv hc'; ⟨c, e1, e2, fun m => e3 (hs c m)⟩⟩, hc i (of_decide_eq_true h) P g, k⟩
end
end DL
namespace DL
open PySem PySem.Spec L2
open PyProof.Rows hiding St
end DL
namespace DL
open PySem PySem.Spec L2
open PyProof.Rows hiding St
end DL
namespace DL
open PySem PySem.Spec L2
open PyProof.Rows hiding St
variable [HashW]
/-- n arguments, and the tuple of the others -/
def packV (n : Nat) (ds : List D) : List D := ds.take n ++ [.tup (ds.drop n)]
def vF (n : Nat) (F : FM) : FM := fun ds M => if n ≤ ds.length ∧ ds.length ≤ 1000 then F (packV n ds) M else .stuck
def spV (K : PySem.W.Frag) (mg : Str → Option Value) (F : FM) : Sp := fun vs H Q E => ∃ ro ds M, RelS K mg ro M H ∧ Reps K mg ro H ds vs ∧ PostD K mg E ro H Q (F ds M)
section
variable {P : Program} {w : World} {K : PySem.W.Frag} {mg : Str → Option Value} {base : Heap}
abbrev DOkV (P : Program) (w : World) (K : PySem.W.Frag) (mg : Str → Option Value) (base : Heap) (k : Nat) (f : Addr) (F : FM) : Prop := FnR P w K mg base (L2.CX P w) k f (spV K mg F)
/-- what a def with a star parameter binds -/
def BindV (K : PySem.W.Frag) (fd : FuncData) (ps : List Str) (pv : Str) : Prop := ∀ us rest : List Value, us.length = ps.length → bindArgs fd ⟨us ++ rest, []⟩ = (newTuple rest >>= fun t => pure (ps.zip us ++ [(pv, t)]))
theorem funV_ok {x qual : Str} {st : Stmt} {dvs : List V} {kws : List (Str × V)} {f : Addr} {fd : FuncData} {N ps : List Str} {pv : Str} {k : Nat} {body : MST} (Fn : FnP K x qual st dvs kws f fd) (S : FnScope N (ps ++ [pv]) (defScope st)) (hb : BindV K fd ps pv)
    (hbody : ∀ (cdv : Value) (A : Around) (outer : List Env) (s : Shared) (H : Hp) (E : XK), Room k (A.deeper (envOfC qual (defScope st) s.heap.objs.size f cdv)) →
      Ctx (cxOf (L2.CX P w) P w K mg base N qual (defScope st) f cdv A outer s H E) (fun cls d _ H' => E cls d H') →
      DSs (cxOf (L2.CX P w) P w K mg base N qual (defScope st) f cdv A outer s H E) (fun cls d _ H' => E cls d H') (defBody st) body) : DOkV P w K mg base (k + 1) f (vF ps.length (runD N.length body)) := by
  obtain ⟨oc, od, dV, kV, doc, pm, an, cdv, ct, osl, rfl, lk, hcd, _, _⟩ := Fn.ex
  have main := StX.fn_star (P := P) (w := w) (K := K) (mg := mg) (base := base) (CX := L2.CX P w) (k := k) (sp := spD K mg (ps.length + 1) (runD N.length body)) lk hcd S StX.cxUp hb (fun A outer s H vs Q E hr h => by
    obtain ⟨hl, ro, ds, M, R, rs, Po⟩ := h
    have hc : Ctx (cxOf (L2.CX P w) P w K mg base N qual (defScope st) f cdv A outer s H E) (fun cls d _ H' => E cls d H') := ⟨takes_of rfl rfl rfl rfl, passes_of rfl, rfl⟩
    refine ⟨_, (hbody cdv A outer s H E hr hc).ps, ro, startD N.length ds, M, R, repSt_start rs, ?_⟩
    unfold runD at Po
    cases e : body (startD N.length ds) M with
    | nx sd M' => rw [e] at Po; exact fun ro' H' st rs q r => Po ro' H' .non rs q rfl
    | ret d M' => rw [e] at Po; exact Po
    | exc C ns ds' sd M' => rw [e] at Po; exact fun ro' H' st cls dd rs q _ r => Po ro' H' cls dd rs q r
    | brk sd M' => rw [e] at Po; exact Po.elim
    | ct sd M' => rw [e] at Po; exact Po.elim
    | stuck => rw [e] at Po; exact Po)
  intro A outer s H us vs Q E hr e0 r ⟨ro, ds, M, R, rs, Po⟩
  refine main A outer s H us vs Q E hr e0 r ?_
  unfold vF at Po
  split at Po
  · rename_i hl
    have ln := rs.len
    have r1 := Reps.take ps.length rs
    have r2 := Reps.drop ps.length rs
    refine ⟨vs.take ps.length, vs.drop ps.length, (List.take_append_drop _ _).symm, by rw [List.length_take]; omega, by rw [List.length_drop, sizeLine_eq]; omega, fun p hp => ?_⟩
    obtain ⟨R2, P2⟩ := R.alloc (o := .tup (vs.drop ps.length)) hp
    refine ⟨by rw [List.length_append, List.length_take]; simp; omega, ro, packV ps.length ds, M, R2, ?_, Post.moves Po P2⟩
    refine (Reps.mono P2 _ _ r1).append (Reps.one ?_)
    exact ⟨p, vs.drop ps.length, rfl, .inl ⟨.inl upd_same, R.fresh hp⟩, Reps.mono P2 _ _ r2⟩
  · exact Po.elim
end
section
variable {X : Cx} {W : WX} {F : FM} {k : Nat} {f : Addr}
/-- C(..) where C.__init__ has a star parameter -/
theorem run_mkV {C : String} {c : Addr} {fs : List String} {pins : List (Addr × Obj)} {st : St} {H : Hp} {s : Shared} {Q : VK} {us : List Value} {vs : List V} {ro : Pl} {ds : List D} {M : MS} (ci : CInfo X.K X.mg C c fs) (Mk' : Mk X.K c f)
    (hF : DOkV X.prog X.w X.K X.mg X.base k f F) (hr : Room (k + 1) X.A) (tk : Takes X W) (I : Inv X pins st H s) (r : Vals vs us) (R : RelS X.K X.mg ro M H)
    (rs : Reps X.K X.mg ro H ds vs) (P : PostD X.K X.mg (fun c d H' => W c d st H') ro H Q (mkD C F ds M)) : wpAny (model X.prog X.w) X.A (call (.ref c) us []) (EP X pins st Q) X.xe s := by
  have n1 : H (s.heap.objs.size + 1) = none := I.hok.fresh (Nat.le_succ _)
  have n2 : H s.heap.objs.size = none := I.hok.fresh (Nat.le_refl _)
  have ne : s.heap.objs.size ≠ s.heap.objs.size + 1 := Nat.ne_of_lt (Nat.lt_succ_self _)
  have I2 := Inv.made (C := c) I
  obtain ⟨Ra, Pa⟩ := R.alloc (o := .own (s.heap.objs.size + 1)) n2
  have n3 : upd H s.heap.objs.size (.own (s.heap.objs.size + 1)) (s.heap.objs.size + 1) = none := by rw [upd_ne ne.symm]; exact n1
  obtain ⟨Rb, Pb⟩ := Ra.allocM (mo := .obj C [] []) (o := .ins c s.heap.objs.size []) n3 ⟨c, _, [], rfl, ci.mgC, rfl, rfl⟩
  have r2 : Vals (V.ref (s.heap.objs.size + 1) :: vs) (Value.ref (s.heap.objs.size + 1) :: us) := .cons rfl r
  have rs2 : Reps X.K X.mg (ro.add (s.heap.objs.size + 1)) _ (D.cell M.length :: ds) (V.ref (s.heap.objs.size + 1) :: vs) :=
    ⟨_, _, rfl, ⟨_, rfl, by show (ro.ro ++ [_])[M.length]? = _; rw [← R.len, List.getElem?_append_right (Nat.le_refl _)]; simp⟩, Reps.mono Pb _ _ (Reps.mono Pa _ _ rs)⟩
  have P2 := Post.moves (Post.moves P Pa) Pb
  refine wpAny_call (make_map (f := f) I.kIn Mk'.makes Mk'.init (beq_iff_eq.mp Mk'.fn) (codeAny_mono (hF _ X.stack _ _ (Value.ref (s.heap.objs.size + 1) :: us) _
    (fun v H2 => v = .non ∧ Q (.ref (s.heap.objs.size + 1)) H2) (WE W st) (hr.make c us []) (I2.env0.make c us []) r2 ⟨_, _, _, Rb, rs2, ?_⟩) fun r s' hq' => ?_))
  · unfold mkD at P2
    cases e : F (.cell M.length :: ds) (M ++ [.obj C [] []]) with
    | stuck => rw [e] at P2; exact P2
    | exc C' ns es M' => rw [e] at P2; exact P2
    | ok d M' =>
      rw [e, Res.bind_ok] at P2
      cases d with
      | non =>
        intro ro' H' v R' P' rv
        cases (show v = V.non from rv)
        refine ⟨rfl, P2 ro' H' _ R' P' ⟨_, rfl, P'.get ?_⟩⟩
        show (ro.ro ++ [_])[M.length]? = _
        rw [← R.len, List.getElem?_append_right (Nat.le_refl _)]; simp
      | _ => exact P2.elim
  · cases r with
    | error e => exact passAt tk st pins _ _ e s' I2 hq'
    | ok fl =>
      cases fl with
      | ret u =>
        obtain ⟨v, H', I3, rv, ev, q3⟩ := I2.after hq'
        subst ev
        exact ⟨rv, ⟨V.ref (s.heap.objs.size + 1), H', I3, rfl, q3⟩⟩
      | next => exact False.elim hq'
      | brk => exact False.elim hq'
      | cont => exact False.elim hq'
variable {e : Expr} {es : List Expr} {ma : MA} {p pos : Pos}
/-- C(*e) -/
def starE (G : FM) (m : ME) : ME := fun sd M => (m sd M).bind fun d M1 => match seqOf M1 d with
  | some ds => G ds M1
  | none => .stuck
theorem de_mkS {C : String} {c : Addr} {fs : List String} {G : FM} {m : ME} {sp_ : Pos} (hG : MkAs X C F G) (ci : CInfo X.K X.mg C c fs) (Mk' : Mk X.K c f) (hF : DOkV X.prog X.w X.K X.mg X.base k f F) (hr : Room (k + 1) X.A) (tk : Takes X W) (hg : Gl X (Str.ofString C)) (he : DE X W e m)
    (hdb : (Str.ofString C == ("__debug__" : Str)) = false := by decide) (hst : starEach [.Starred e sp_] X.env = [(true, eval e X.env)] := by rfl) :
    DE X W (.Call (.Name (Str.ofString C) p) [.Starred e sp_] [] pos) (starE G m) := by
  refine ⟨⟨fun pins s st H Q I q => ?_⟩⟩
  obtain ⟨ro, sd, M, R, S, P⟩ := q
  refine wpAny_Call_Name_kw (ld_glob I hg ci.mgC ?_ hdb)
  refine PySem.W.callWith_S (h₀ := X.base) I.ok.mod.kin Mk'.kp (thn (he.pe.run pins s st H _ I ⟨ro, sd, M, R, S, Post.bind P⟩) fun v s1 ⟨y, H1, I1, ry, ro1, M1, d, R1, P1, r1, q1⟩ => ?_) hst
  split at q1
  · rename_i ds hs
    obtain ⟨a, xs, rfl, hx, rs⟩ := seq_of R1 r1 hs
    obtain rfl : v = Value.ref a := ry
    exact StX.star_any I1 hx.symm fun us s2 I2 rv => ⟨I2.kIn, run_mkV ci Mk' hF hr tk I2 rv R1 rs (hG _ _ _ _ _ _ R1 q1)⟩
  · exact q1.elim
end
end DL
namespace DL
open PySem PySem.Spec L2
open PyProof.Rows hiding St
variable [HashW]
section
variable {X : Cx} {k : Nat} {f c : Addr} {fd : FuncData} {ps : List Str} {F : FM}
theorem Pres.same {ro ro' : Pl} {H H' : Hp} {K : PySem.W.Frag} {mg : Str → Option Value} {M : MS} (R : RelS K mg ro M H) (R' : RelS K mg ro' M H') (p : Pres ro H ro' H') : ro'.ro = ro.ro := by
  obtain ⟨t, e⟩ := p.pre
  have h1 := R.len
  have h2 := R'.len
  rw [e, List.length_append] at h2
  have : t = [] := List.eq_nil_of_length_eq_zero (by omega)
  rw [e, this, List.append_nil]
end
end DL
namespace DL
open PySem PySem.Spec L2
open PyProof.Rows hiding St
variable [HashW]
section
variable {P : Program} {w : World} {K : PySem.W.Frag} {mg : Str → Option Value} {base : Heap}
abbrev FG := List D → List D → MS → Res D
/-- what a call of the def at f with keywords ks comes to -/
def DOkG (P : Program) (w : World) (K : PySem.W.Frag) (mg : Str → Option Value) (base : Heap) (k : Nat) (f : Addr) (ks : List Str) (G : FG) : Prop :=
  ∀ (A : Around) (outer : List Env) (s : Shared) (H : Hp) (us ws : List Value) (vs zs : List V) (Q : VK) (E : XK) (ro : Pl) (ds es : List D) (M : MS), Room k A → Env0 P w K mg base A outer s H → Vals vs us → Vals zs ws →
    RelS K mg ro M H → Reps K mg ro H ds vs → Reps K mg ro H es zs → es.length = ks.length → PostD K mg E ro H Q (G ds es M) → codeAny (model P w) A (.call (.ref f) ⟨us, ks.zip ws⟩) (CR (L2.CX P w) outer P w H s Q E) s
theorem DOkG.mono {j k : Nat} {f : Addr} {ks : List Str} {G : FG} (h : DOkG P w K mg base j f ks G) (hjk : j ≤ k) : DOkG P w K mg base k f ks G :=
  fun A outer s H us ws vs zs Q E ro ds es M hr => h A outer s H us ws vs zs Q E ro ds es M (hr.mono hjk)
/-- n arguments, the keywords', the tuple of the other ones -/
def gVK (n : Nat) (F : FM) : FG := fun ds es M => if n ≤ ds.length ∧ ds.length ≤ 1000 then F (ds.take n ++ es ++ [.tup (ds.drop n)]) M else .stuck
def BindVK (K : PySem.W.Frag) (fd : FuncData) (ps ks : List Str) (pv : Str) : Prop := ∀ us rest ws : List Value, us.length = ps.length → ws.length = ks.length → bindArgs fd ⟨us ++ rest, ks.zip ws⟩ = (newTuple rest >>= fun t => pure ((ps ++ ks).zip (us ++ ws) ++ [(pv, t)]))
theorem funVK_ok {x qual : Str} {st : Stmt} {dvs : List V} {kws : List (Str × V)} {f : Addr} {fd : FuncData} {N ps ks : List Str} {pv : Str} {k : Nat} {body : MST} (Fn : FnP K x qual st dvs kws f fd) (S : FnScope N (ps ++ ks ++ [pv]) (defScope st)) (hb : BindVK K fd ps ks pv)
    (hbody : ∀ (cdv : Value) (A : Around) (outer : List Env) (s : Shared) (H : Hp) (E : XK), Room k (A.deeper (envOfC qual (defScope st) s.heap.objs.size f cdv)) →
      Ctx (cxOf (L2.CX P w) P w K mg base N qual (defScope st) f cdv A outer s H E) (fun cls d _ H' => E cls d H') →
      DSs (cxOf (L2.CX P w) P w K mg base N qual (defScope st) f cdv A outer s H E) (fun cls d _ H' => E cls d H') (defBody st) body) : DOkG P w K mg base (k + 1) f ks (gVK ps.length (runD N.length body)) := by
  obtain ⟨oc, od, dV, kV, doc, pm, an, cdv, ct, osl, rfl, lk, hcd, _, _⟩ := Fn.ex
  intro A outer s H us ws vs zs Q E ro ds es M hr e0 r rz R rs rs2 hlk Po
  unfold gVK at Po
  split at Po
  · rename_i hl
    have ln := rs.len
    have lz := rs2.len
    have r1 := Reps.take ps.length rs
    have r2 := Reps.drop ps.length rs
    have hn : H s.heap.objs.size = Option.none := e0.hok.fresh (Nat.le_refl _)
    have rv1 : ∀ n, Vals (vs.take n) (us.take n) := fun n => r.take n
    have rv2 : ∀ n, Vals (vs.drop n) (us.drop n) := fun n => r.drop n
    have lu := r.length
    have lw := rz.length
    have hz : (us.drop ps.length).length ≤ sizeLine := by rw [List.length_drop, sizeLine_eq]; omega
    refine StX.run_bnd lk hcd S hr e0 (G := fun xs H2 => ∃ p, H p = Option.none ∧ xs = vs.take ps.length ++ zs ++ [V.ref p] ∧ H2 = upd H p (.tup (vs.drop ps.length))) (fun A' Ex Q' h => ?_) fun s2 H2 xs ⟨p, hp, ex, eH⟩ hr' => ?_
    · have eb := hb (us.take ps.length) (us.drop ps.length) ws (by rw [List.length_take]; omega) (by omega)
      rw [List.take_append_drop] at eb
      rw [eb]
      refine wpAny_bind (wpAny_newTuple (wpAny_pure ?_) hz)
      have new : ObjOk P w (upd H s.heap.objs.size (.tup (vs.drop ps.length))) (s.heap.push ({ cls := .type "tuple", data := .seq (us.drop ps.length).toArray } : Obj)) s.heap.objs.size (.tup (vs.drop ps.length)) := ⟨by rw [(rv2 _).length]; exact hz, us.drop ps.length, rv2 _, ⟨_, Heap.get?_push_size _ rfl, rfl, _, rfl⟩⟩
      have un := StX.un_laid (fs := frs outer) (s := s) (o := ({ cls := .type "tuple", data := .seq (us.drop ps.length).toArray } : Obj)) (u := .tup (vs.drop ps.length)) hn
      have z := h _ _ (vs.take ps.length ++ zs ++ [V.ref s.heap.objs.size]) (us.take ps.length ++ ws ++ [Value.ref s.heap.objs.size]) (StX.env0_laid e0 new) un rfl (fun e s' => StX.cxUp outer s H _ _ E e s' un (fun b o q => Heap.get?_push_of_some _ q) rfl) (((rv1 _).append rz).append (.cons rfl .nil))
        (by simp only [List.length_append, List.length_take, List.length_cons, List.length_nil]; omega) ⟨_, hn, rfl, rfl⟩
      rw [List.zip_append (by simp only [List.length_append, List.length_take]; omega)] at z
      exact z
    · subst ex eH
      have hc : Ctx (cxOf (L2.CX P w) P w K mg base N qual (defScope st) f cdv A outer s2 (upd H p (.tup (vs.drop ps.length))) E) (fun cls d _ H' => E cls d H') := ⟨takes_of rfl rfl rfl rfl, passes_of rfl, rfl⟩
      obtain ⟨R2, P2⟩ := R.alloc (o := .tup (vs.drop ps.length)) hp
      have rs3 : Reps K mg ro (upd H p (.tup (vs.drop ps.length))) (ds.take ps.length ++ es ++ [.tup (ds.drop ps.length)]) (vs.take ps.length ++ zs ++ [V.ref p]) :=
        ((Reps.mono P2 _ _ r1).append (Reps.mono P2 _ _ rs2)).append (Reps.one ⟨p, _, rfl, .inl ⟨.inl upd_same, R.fresh hp⟩, Reps.mono P2 _ _ r2⟩)
      have Po2 := Post.moves Po P2
      refine ⟨_, (hbody cdv A outer s2 _ E hr' hc).ps, ro, startD N.length _, M, R2, repSt_start rs3, ?_⟩
      unfold runD at Po2
      cases e : body (startD N.length (ds.take ps.length ++ es ++ [.tup (ds.drop ps.length)])) M with
      | nx sd M' => rw [e] at Po2; exact fun ro' H' st rs q r => Po2 ro' H' .non rs q rfl
      | ret d M' => rw [e] at Po2; exact Po2
      | exc C ns ds' sd M' => rw [e] at Po2; exact fun ro' H' st cls dd rs q _ r => Po2 ro' H' cls dd rs q r
      | brk sd M' => rw [e] at Po2; exact Po2.elim
      | ct sd M' => rw [e] at Po2; exact Po2.elim
      | stuck => rw [e] at Po2; exact Po2
  · exact Po.elim
end
section
variable {X : Cx} {W : WX} {k : Nat} {f : Addr} {ks : List Str} {G : FG}
theorem run_G {A : Around} {pins : List (Addr × Obj)} {st : St} {H : Hp} {s : Shared} {Q : VK} {us ws : List Value} {vs zs : List V} {ro : Pl} {ds es : List D} {M : MS} (hF : DOkG X.prog X.w X.K X.mg X.base k f ks G) (hA : A.frames = X.A.frames) (hr : Room k A) (tk : Takes X W) (I : Inv X pins st H s)
    (r : Vals vs us) (rz : Vals zs ws) (R : RelS X.K X.mg ro M H) (rs : Reps X.K X.mg ro H ds vs) (rs2 : Reps X.K X.mg ro H es zs) (hl : es.length = ks.length) (P : PostD X.K X.mg (fun c d H' => W c d st H') ro H Q (G ds es M)) : wpAny (model X.prog X.w) A (call (.ref f) us (ks.zip ws)) (EP X pins st Q) X.xe s := by
  have e0 : Env0 X.prog X.w X.K X.mg X.base A X.stack s H := by
    have e := I.env0
    exact ⟨by rw [hA]; exact e.frames, e.mod, e.bs, e.bsz, e.funs, e.frf, e.hok, e.bare⟩
  refine wpAny_call (codeAny_mono (hF A X.stack s H us ws vs zs Q (WE W st) ro ds es M hr e0 r rz R rs rs2 hl P) fun r s' hq => ?_)
  cases r with
  | error e => exact passAt tk st pins H s e s' I hq
  | ok fl =>
    cases fl with
    | ret u => exact I.after hq
    | next => exact False.elim hq
    | brk => exact False.elim hq
    | cont => exact False.elim hq
variable {e o : Expr} {es : List Expr} {kws : List Keyword} {ma mk : MA} {mo : ME} {x m : Str} {p pos apos : Pos}
/-- the arguments, the keywords' values, the call -/
def callGE (nk : Nat) (G : FG) (ma mk : MA) : ME := fun sd M => (ma sd M).bind fun ds M1 => (mk sd M1).bind fun es M2 => if es.length = nk then G ds es M2 else .stuck
theorem de_callG (hF : DOkG X.prog X.w X.K X.mg X.base k f ks G) (hr : Room k X.A) (tk : Takes X W) (hg : Gl X x) (hm : X.mg x = some (.ref f)) (hk : PySem.W.keepIn X.K (.ref f) = true) (ha : DA X W (e :: es) ma) (hkw : DK X W kws mk)
    (hall : (backToKw pos (keywordEach kws X.env)).all (·.1.isSome) = true := by rfl) (hks : (backToKw pos (keywordEach kws X.env)).filterMap (·.1) = ks := by rfl)
    (hdb : (x == ("__debug__" : Str)) = false := by decide) (he : starEach (e :: es) X.env = (false, eval e X.env) :: starEach es X.env := by rfl)
    (hpl : ((backTo pos (starEach (e :: es) X.env)).any (·.1) || (backToKw pos (keywordEach kws X.env)).any (·.1.isNone)) = false := by rfl) :
    DE X W (.Call (.Name x p) (e :: es) kws pos) (callGE ks.length G ma mk) := by
  refine ⟨⟨fun pins s st H Q I q => ?_⟩⟩
  obtain ⟨ro, sd, M, R, S, P⟩ := q
  refine wpAny_Call_Name_kw (ld_glob I hg hm ?_ hdb)
  refine PySem.W.callWith_KW (h₀ := X.base) I.ok.mod.kin hk hall (thn (ha.pa.run pos pins s st H _ I ⟨ro, sd, M, R, S, Post.bind P⟩) fun us s1 ⟨vs, H1, I1, r, ro1, M1, ds, R1, P1, r1, q1⟩ => ?_) hpl he
  refine thn (hkw.pk.run pos pins s1 st H1 _ I1 ⟨ro1, sd, M1, R1, S.mono P1, Post.bind q1⟩) fun ws s2 ⟨zs, H2, I2, rz, ro2, M2, es', R2, P2, r2, q2⟩ => ⟨I2.kIn, ?_⟩
  split at q2
  · rename_i hl
    rw [hks]
    exact run_G hF rfl hr tk I2 r rz R2 (Reps.mono P2 _ _ r1) r2 hl q2
  · exact q2.elim
end
end DL
namespace DL
open PySem PySem.Spec L2
open PyProof.Rows hiding St
variable [HashW]
def isBF (neg : Bool) (d e : D) (M : MS) : Res D := match d, e with
  | .bl a, .bl b => .ok (.bl ((a == b) != neg)) M
  | _, _ => .stuck
@[simp] theorem isBF_ap {neg a b : Bool} {M : MS} : isBF neg (.bl a) (.bl b) M = .ok (.bl ((a == b) != neg)) M := rfl
section
variable {K : PySem.W.Frag} {fd : FuncData} {p1 p2 k1 pv : Str}
theorem bindVK_1_1 (h0 : ∀ a u, bindArgs fd ⟨[a], [(k1, u)]⟩ = (newTuple [] >>= fun t => pure [(p1, a), (k1, u), (pv, t)])) (h1 : ∀ a u r rs, bindArgs fd ⟨a :: r :: rs, [(k1, u)]⟩ = (newTuple (r :: rs) >>= fun t => pure [(p1, a), (k1, u), (pv, t)])) : BindVK K fd [p1] [k1] pv
  | [a], [], [u], _, _ => h0 a u
  | [a], r :: rs, [u], _, _ => h1 a u r rs
end
end DL
namespace DL
open PySem PySem.Spec L2
open PyProof.Rows hiding St
end DL
namespace DL
open PySem PySem.Spec L2
open PyProof.Rows hiding St
variable [HashW]
def revAC (mo : ME) : ME := fun sd M => (mo sd M).bind fun d M1 => match d with
  | .str _ => .stuck
  | d => if isTup d = true then .stuck else match seqOf M1 d with
    | some ds => .ok (.cell M1.length) (M1 ++ [.lst ds.reverse])
    | none => .stuck
@[simp] theorem revC_ap {me : ME} {sd : SD} {M : MS} : revAC me sd M = (me sd M).bind fun d M1 => match d with
  | .str _ => .stuck
  | d => if isTup d = true then .stuck else match seqOf M1 d with
    | some ds => .ok (.cell M1.length) (M1 ++ [.lst ds.reverse])
    | none => .stuck := rfl
end DL
namespace DL
open PySem PySem.Spec L2
open PyProof.Rows hiding St
variable [HashW]
structure DET (X : Cx) (W : WX) (e : Expr) (m : ME) : Prop where
  pe : PET X e (liftE X.K X.mg W m)
structure DST (X : Cx) (W : WX) (s : Stmt) (m : MST) : Prop where
  ps : PST X s (liftS X.K X.mg W m)
structure DSsT (X : Cx) (W : WX) (s : List Stmt) (m : MST) : Prop where
  ps : PSsT X s (liftS X.K X.mg W m)
section
variable {X : Cx} {W : WX} {e o tg iter : Expr} {es : List Expr} {m mo ma : ME} {ms : MA} {mi : MI} {s : Stmt} {rest body : List Stmt} {sa sb : MST} {pos : Pos} {g : MG} {ix : List Nat}
theorem DE.t (h : DE X W e m) : DET X W e m := ⟨fun pins s σ H Q _ I q => h.pe.run pins s σ H Q I q⟩
theorem DS.t (h : DS X W s sa) : DST X W s sa := ⟨fun pins s σ H D _ I q => h.ps.run pins s σ H D I q⟩
theorem DSs.t (h : DSs X W rest sa) : DSsT X W rest sa := ⟨fun pins s σ H D _ I q => h.ps.run pins s σ H D I q⟩
theorem dss_consT (h : DST X W s sa) (hr : DSsT X W rest sb) : DSsT X W (s :: rest) (seqS sa sb) := by
  refine ⟨fun pins s st H D0 h0 I q => psst_cons h.ps hr.ps pins s st H D0 h0 I ?_⟩
  obtain ⟨ro, sd, M, R, S, P⟩ := q
  exact ⟨ro, sd, M, R, S, (PostS.seq P).imp (fun st' H' ⟨ro1, sd1, M1, R1, S1, P1, q1⟩ => ⟨ro1, sd1, M1, R1, S1, q1⟩) (fun _ _ h => h) (fun _ _ h => h) (fun _ _ h => h)⟩
end
theorem funT_ok {P : Program} {w : World} {K : PySem.W.Frag} {mg : Str → Option Value} {base : Heap} {x qual : Str} {st : Stmt} {dvs : List V} {kws : List (Str × V)} {f : Addr} {fd : FuncData} {N ps : List Str} {k : Nat} {body : MST} (Fn : FnP K x qual st dvs kws f fd) (S : FnScope N ps (defScope st)) (hnc : ∀ y ∈ (defScope st).names, y.2 ≠ .cell) (hps : 1 ≤ ps.length)
    (hbody : ∀ (cdv : Value) (A : Around) (outer : List Env) (s : Shared) (H : Hp) (E : XK), Room k (A.deeper (envOfC qual (defScope st) s.heap.objs.size f cdv)) →
      Ctx (cxOf (L2.CX P w) P w K mg base N qual (defScope st) f cdv A outer s H E) (fun cls d _ H' => E cls d H') →
      DSsT (cxOf (L2.CX P w) P w K mg base N qual (defScope st) f cdv A outer s H E) (fun cls d _ H' => E cls d H') (defBody st) body) : DOk P w K mg base (k + 1) f fd ps (runD N.length body) := by
  obtain ⟨⟨oc, od, dV, kV, doc, pm, an, cdv, ct, osl, rfl, lk, cd, _, _⟩, kp⟩ := Fn
  refine fn_ofT lk cd S hnc hps (fun vs H Q E h => h.1) fun A outer s H vs Q E hr h => ?_
  obtain ⟨hl, ro, ds, M, R, rs, Po⟩ := h
  have hc : Ctx (cxOf (L2.CX P w) P w K mg base N qual (defScope st) f cdv A outer s H E) (fun cls d _ H' => E cls d H') := ⟨takes_of rfl rfl rfl rfl, passes_of rfl, rfl⟩
  refine ⟨_, (hbody cdv A outer s H E hr hc).ps, ro, startD N.length ds, M, R, repSt_start rs, ?_⟩
  unfold runD at Po
  cases e : body (startD N.length ds) M with
  | nx sd M' => rw [e] at Po; exact fun ro' H' st rs q r => Po ro' H' .non rs q rfl
  | ret d M' => rw [e] at Po; exact Po
  | exc C ns ds' sd M' => rw [e] at Po; exact fun ro' H' st cls dd rs q _ r => Po ro' H' cls dd rs q r
  | brk sd M' => rw [e] at Po; exact Po.elim
  | ct sd M' => rw [e] at Po; exact Po.elim
  | stuck => rw [e] at Po; exact Po
end DL
namespace DL
open PySem PySem.Spec L2
open PyProof.Rows hiding St
end DL
namespace DL
open PySem PySem.Spec L2
open PyProof.Rows hiding St
end DL
namespace DL
open PySem PySem.Spec L2
open PyProof.Rows hiding St
end DL
namespace DL
open PySem PySem.Spec L2
open PyProof.Rows hiding St
end DL
namespace DL
open PySem PySem.Spec L2
open PyProof.Rows hiding St
end DL
namespace DL
open PySem PySem.Spec L2
open PyProof.Rows hiding St
end DL
namespace DL
open PySem PySem.Spec L2
open PyProof.Rows hiding St
end DL
namespace DL
open PySem PySem.Spec L2
open PyProof.Rows hiding St
end DL
namespace DL
open PySem PySem.Spec L2
open PyProof.Rows hiding St
end DL
namespace DL
open PySem PySem.Spec L2
open PyProof.Rows hiding St
end DL
namespace DL
open PySem PySem.Spec L2
open PyProof.Rows hiding St
end DL
namespace DL
open PySem PySem.Spec L2
open PyProof.Rows hiding St
end DL
namespace DL
open PySem PySem.Spec L2
open PyProof.Rows hiding St
end DL
namespace L2
open PySem PySem.Spec PyProof.Rows
end L2
namespace DL
open PySem PySem.Spec L2
open PyProof.Rows hiding St
end DL
namespace DL
open PySem PySem.Spec L2
open PyProof.Rows hiding St
end DL
namespace DL
open PySem PySem.Spec L2
open PyProof.Rows hiding St
end DL
namespace DL
open PySem PySem.Spec L2
open PyProof.Rows hiding St
variable [HashW]
/-- a landed exception before a frame's clauses -/
def Landed (X : Cx) (pins : List (Addr × Obj)) (st : St) (H : Hp) (a : Addr) (cls : Value) (d : Option Addr) (s : Shared) : Prop :=
  ∃ (B : Heap) (sI : Shared), Inv X pins st H sI ∧ (∀ b o, sI.heap.get? b = some o → b ∉ frs X.stack → B.get? b = some o) ∧ sI.heap.UpToSlots s.heap ∧
    HandSPX.FlyingZ B (X.env :: X.outer) a (Zc cls d) s.heap ∧ s.os = sI.os ∧ AllBare s.gens ∧ H a = none
section
variable {X : Cx} {pins : List (Addr × Obj)} {st : St} {H : Hp} {a : Addr} {cls : Value} {d : Option Addr} {s : Shared}
theorem Landed.flying (L : Landed X pins st H a cls d s) : ∃ oe vs, s.heap.get? a = some oe ∧ Zc cls d oe ∧ oe.data = .fields vs := by
  obtain ⟨B, sI, _, _, _, fl, _⟩ := L
  exact fl.there
theorem Landed.more {h' : Heap} (L : Landed X pins st H a cls d s) (k : ∀ b o, s.heap.get? b = some o → h'.get? b = some o) : Landed X pins st H a cls d { s with heap := h' } := by
  obtain ⟨B, sI, J, nb, up, ⟨f1, f2, f3, oe, vs, T, oT, ts, he, hz, hd, h1, hT0, hTa, hT, hdT, h3⟩, os, ag, na⟩ := L
  exact ⟨B, sI, J, nb, up.trans (Heap.UpToSlots.of_keeps k), ⟨fun b o q => k b o (f1 b o q), f2, f3.of_keeps fun b o q _ => ⟨o, k b o q, rfl⟩, oe, vs, T, oT, ts, k _ _ he, hz, hd, h1, hT0, hTa, k _ _ hT, hdT, h3⟩, os, ag, na⟩
end
section
variable {X : Cx}
theorem Landed.ty {pins : List (Addr × Obj)} {st : St} {H : Hp} {a : Addr} {cls : Value} {d : Option Addr} {s : Shared} (L : Landed X pins st H a cls d s) : PySem.W.Looks (model X.prog X.w) s.heap (typeOf (.ref a)) cls := by
  obtain ⟨oe, vs, he, hz, _⟩ := L.flying
  intro A Q E s' k q
  exact wpAny_typeOf_ref (k _ _ he) (by rw [hz.1]; exact q)
end
end DL
namespace DL
open PySem PySem.Spec L2
open PyProof.Rows hiding St
end DL
namespace DL
open PySem PySem.Spec L2
open PyProof.Rows hiding St
variable [HashW]
def revR (i j : Int) : List Int := (List.range (j - i).toNat).map fun (k : Nat) => (i + ((j - i).toNat : Int) - 1) + k * (-1)
def rev2I (ma mb : ME) : MI := fun sd M => (ma sd M).bind fun d M1 => (mb sd M1).bind fun e M2 => match d, e with
  | .int i, .int j => if -1000000000 ≤ i ∧ i ≤ 1000000000 ∧ -1000000000 ≤ j ∧ j ≤ 1000000000 then .ok (intsI (revR i j)) M2 else .stuck
  | _, _ => .stuck
@[simp] theorem rev2I_ap {m mb : ME} {sd : SD} {M : MS} : rev2I m mb sd M = (m sd M).bind fun d M1 => (mb sd M1).bind fun e M2 => match d, e with
  | .int i, .int j => if -1000000000 ≤ i ∧ i ≤ 1000000000 ∧ -1000000000 ≤ j ∧ j ≤ 1000000000 then .ok (intsI (revR i j)) M2 else .stuck
  | _, _ => .stuck := rfl
end DL
namespace L2H
theorem RoomH.units {k : Nat} {A : PySem.Around} (r : RoomH k A) : A.units + 64 < PySem.cLine := by have := r.un; omega
end L2H
namespace DL
open PySem PySem.Spec L2
open PyProof.Rows hiding St
end DL
namespace DL
open PySem PySem.Spec L2
open PyProof.Rows hiding St
variable [HashW]
theorem replL_one (c : Nat) (z : List Nat) : ∀ l : List Nat, StrLaws.replL [c] z l = l.flatMap fun d => if d = c then z else [d]
  | [] => StrLaws.replL_nil
  | d :: r => by
    rw [List.flatMap_cons, ← replL_one c z r]
    by_cases h : d = c
    · subst h
      rw [if_pos rfl, StrLaws.replL_hit (by simp) (by simp)]
      simp
    · rw [if_neg h, StrLaws.replL_miss (by simpa using h)]
      rfl
end DL
namespace DL
open PySem PySem.Spec L2
open PyProof.Rows hiding St
end DL
namespace DL
open PySem PySem.Spec L2
open PyProof.Rows hiding St
variable [HashW]
/-- the texts are hashed as this world does -/
def HwOk (w : World) : Prop := ∀ x, HashW.hs x = hashStr w x
def valT : List (List Key) → List V → List Key → Option V
  | k' :: l, _ :: v :: vs, k => if k' = k then some v else valT l vs k
  | _, _, _ => none
theorem TRel.keys {l : List (List Key)} {vs : List V} {xs : List (List Key × Addr × Value)} (r : TRel l vs xs) : xs.map (·.1) = l := by
  induction r with
  | nil => rfl
  | cons _ _ ih => rw [List.map_cons, ih]
theorem TRel.len {l : List (List Key)} {vs : List V} {xs : List (List Key × Addr × Value)} (r : TRel l vs xs) : xs.length = l.length := by rw [← r.keys, List.length_map]
theorem TRel.val {l : List (List Key)} {vs : List V} {xs : List (List Key × Addr × Value)} (r : TRel l vs xs) (k : List Key) : RelO (valT l vs k) ((atKey xs k).map (·.2)) := by
  induction r with
  | nil => exact True.intro
  | @cons k' b v u l vs xs h t ih =>
    by_cases e : k' = k
    · have q : atKey ((k', b, u) :: xs) k = some (b, u) := by simp [atKey, List.find?_cons, e]
      rw [q]
      unfold valT
      rw [if_pos e]
      exact h
    · have q : atKey ((k', b, u) :: xs) k = atKey xs k := by simp [atKey, List.find?_cons, e]
      rw [q]
      unfold valT
      rw [if_neg e]
      exact ih
end DL
namespace DL
open PySem PySem.Spec L2
open PyProof.Rows hiding St
variable [HashW]
/-- keys and values one behind the other -/
inductive Alt : List D → List D → Prop where
  | nil : Alt [] []
  | cons {k v : D} {ks ds : List D} : Alt ks ds → Alt (k :: ks) (k :: v :: ds)
theorem Alt.snoc {ks ds : List D} (h : Alt ks ds) (k v : D) : Alt (ks ++ [k]) (ds ++ [k, v]) := by
  induction h with
  | nil => exact .cons .nil
  | cons _ ih => exact .cons ih
end DL
namespace DL
open PySem PySem.Spec L2
open PyProof.Rows hiding St
end DL
namespace DL
open PySem PySem.Spec L2
open PyProof.Rows hiding St
end DL
namespace DL
open PySem PySem.Spec L2
open PyProof.Rows hiding St
end DL
namespace DL
open PySem PySem.Spec L2
open PyProof.Rows hiding St
end DL
namespace DL
open PySem PySem.Spec L2
open PyProof.Rows hiding St
end DL
namespace DL
open PySem PySem.Spec L2
open PyProof.Rows hiding St
end DL
namespace DL
open PySem PySem.Spec L2
open PyProof.Rows hiding St
variable [HashW]
def kindOf (x : List Nat) (M : MS) : D → Option Bool
  | .non => some false
  | .str y => some (decide (y = x))
  | .tup _ => some false
  | .lst _ => some false
  | .flst _ => some false
  | .cell n => (match M[n]? with
    | some (.lst _) => some false
    | _ => none)
  | _ => none
end DL
namespace DL
open PySem PySem.Spec L2
open PyProof.Rows hiding St
end DL
namespace DL
open PySem PySem.Spec L2
open PyProof.Rows hiding St
end DL
namespace DL
open PySem PySem.Spec L2
open PyProof.Rows hiding St
variable [HashW]
section
variable {X : Cx} {W : WX} {e c : Expr} {m : ME} {tc : MB} {pos : Pos} {A B : List Stmt} {sa sb : MST} {s : Stmt}
theorem pst_set {i : Nat} {x : Str} {te : TE} {pos' : Pos} (hN : X.N.Nodup) (hi : X.N[i]? = some x) (hx : Loc X.env.scope x) (he : PET X e te) (hs : swapsWith e (some (.Name x pos')) pos.line X.env = pure false := by rfl) (hf : X.fn x = true ∨ X.env.scope.names.lookup x = some .local := by first | exact .inl rfl | exact .inr rfl | assumption) :
    PST X (.Assign [.Name x pos'] e pos) (tAsg te (gName i)) := by
  intro pins s σ H D h0 I h
  refine wpAny_Assign_Name (thn (he pins s σ H _ h0 I h) fun v s1 ⟨y, H1, I1, r1, q1⟩ => ?_) hs
  exact store_ok I1 hN hi hx r1 (fun s2 I2 => ⟨_, H1, I2, q1⟩) hf
end
end DL
namespace DL
open PySem PySem.Spec L2
open PyProof.Rows hiding St
end DL
namespace DL
open PySem PySem.Spec L2
open PyProof.Rows hiding St
variable [HashW]
structure DTT (X : Cx) (W : WX) (e : Expr) (m : MB) : Prop where
  run : ∀ (pins : List (Addr × Obj)) (s : Shared) (st : St) (H : Hp) (Q : Bool → Hp → Prop), 1 ≤ s.toks → Inv X pins st H s → liftB X.K X.mg W m st H Q → wpAny (model X.prog X.w) X.A (isTrue e X.env (eval e X.env)) (TP X pins st Q) X.xe s
section
variable {X : Cx} {W : WX} {a b c : Expr} {ma mb : ME} {tc : MB} {pos : Pos} {A B : List Stmt} {sa sb : MST}
theorem DT.t (h : DT X W c tc) : DTT X W c tc := ⟨fun pins s st H Q _ I q => h.pt.run pins s st H Q I q⟩
end
end DL
namespace DL
open PySem PySem.Spec L2
open PyProof.Rows hiding St
variable [HashW]
/-- statements at a place where b tokens are out -/
def PSsB (X : Cx) (b : Nat) (st : List Stmt) (t : TS) : Prop :=
  ∀ (pins : List (Addr × Obj)) (s : Shared) (σ : St) (H : Hp) (D : Ends), b ≤ s.toks → 1 ≤ s.toks → Inv X pins σ H s → t D σ H → wpAny (model X.prog X.w) X.A (execs st X.env) (SP X pins D) X.xe s
/-- a promise under a condition on the state at the call -/
structure FnOkR (P : Program) (w : World) (K : PySem.W.Frag) (mg : Str → Option Value) (base : Heap) (CX : CXT) (k : Nat) (f : Addr) (fd : FuncData) (ps : List Str) (Rw : List Env → Shared → Hp → List V → Prop) (sp : Sp) : Prop where
  len : ∀ vs H Q E, sp vs H Q E → vs.length = ps.length
  run : ∀ (A : Around) (outer : List Env) (s : Shared) (H : Hp) (args : Args) (us : List Value) (vs : List V) (Q : VK) (E : XK), Room k A → Env0 P w K mg base A outer s H → BindsTo s fd args (ps.zip us) → Vals vs us → Rw outer s H vs → sp vs H Q E →
    codeAny (model P w) A (.call (.ref f) args) (CR CX outer P w H s Q E) s
theorem fn_ofR {CX : CXT} {P : Program} {w : World} {K : PySem.W.Frag} {mg : Str → Option Value} {base : Heap} {k : Nat} {f : Addr} {name qual : Str} {params : Arguments} {body : List Stmt} {scope : Scope} {dV kV doc pm cdv ct oc : Value} {an od : Option Addr}
    {osl : Array (Option Value)} {N ps : List Str} {Rw : List Env → Shared → Hp → List V → Prop} {sp : Sp} (lk : K.lookup f = some ⟨oc, od, .func (PySem.W.fnOf name qual params body scope dV kV doc pm an cdv ct), osl⟩) (hcd : PySem.W.codeIn K cdv qual = true) (S : FnScope N ps scope)
    (hnc : ∀ y ∈ scope.names, y.2 ≠ .cell) (hps : 1 ≤ ps.length) (len : ∀ vs H Q E, sp vs H Q E → vs.length = ps.length)
    (hbody : ∀ (A : Around) (outer : List Env) (s : Shared) (H : Hp) (vs : List V) (Q : VK) (E : XK), Room k (A.deeper (envOfC qual scope s.heap.objs.size f cdv)) → Rw outer s H vs → sp vs H Q E →
      ∃ t, PSsB (cxOf CX P w K mg base N qual scope f cdv A outer s H E) s.toks body t ∧ t { nx := fun _ H' => Q .non H', rt := Q } (start N vs) H) :
    FnOkR P w K mg base CX (k + 1) f (PySem.W.fnOf name qual params body scope dV kV doc pm an cdv ct) ps Rw sp := by
  refine ⟨len, fun A outer s H args us vs Q E hr e0 hb r hrw hsp => ?_⟩
  have hl := len _ _ _ _ hsp
  have hul : us.length = ps.length := by rw [← r.length, hl]
  have KX : K.In s.heap := e0.mod.kin.keeps fun b o e => (e0.bs b o e).1
  have lim : s.heap.NoLimit := e0.mod.nolimit.keeps fun b o e => (e0.bs b o e).1
  have hloc : ∀ y ∈ ps.zip us, scope.names.lookup y.1 = some .local := fun ⟨n, v⟩ hy => by
    rcases S.par n (List.of_mem_zip hy).1 with q | q
    · exact q
    · exact absurd rfl (hnc _ (PySem.mem_of_lookup q))
  refine codeAny_call_function hr.depth (KX _ _ lk) rfl S.co S.gen rfl (PySem.W.codeRec_of KX hcd) (hb _ _ _ _ ?_)
  refine wpAny_newFunctionEnv hnc hloc (fun h1 hns hsb => ?_) S.kind
  have hz : (ps.zip us).length = ps.length := by rw [List.length_zip, hul, Nat.min_self]
  have keep : ∀ b o, s.heap.get? b = some o → h1.get? b = some o := fun b o e => hsb.extBut b o (Nat.ne_of_lt (Heap.lt_size e)) (Heap.get?_push_of_some _ e)
  have hcl : cellsFrom (s.heap.objs.size + 1) scope.names [] = [] := cells_none _ _ _ hnc
  have hkl : ∀ y ∈ ps.zip us, (envOfC qual scope s.heap.objs.size f cdv).kindOf y.1 = some .local := fun y hy => by
    first
    | exact hloc y hy
    | (simp only [Env.kindOf]; exact hloc y hy)
    | (unfold Env.kindOf; rw [if_pos S.kind]; exact hloc y hy)
    | simpa [Env.kindOf, envOfC, newEnv, S.kind] using hloc y hy
  have hm : (bindL (envOfC qual scope s.heap.objs.size f cdv).kindOf (ps.zip us) fun _ => none) = fun x => (ps.zip us).reverse.lookup x := by
    funext y
    rw [bindL_loc _ _ hkl y]
    cases (ps.zip us).reverse.lookup y <;> rfl
  have x : InCallC s s.heap.objs.size (bindL (envOfC qual scope s.heap.objs.size f cdv).kindOf (ps.zip us) fun _ => none) (cellsFrom (s.heap.objs.size + 1) scope.names [])
      (bindC (envOfC qual scope s.heap.objs.size f cdv).kindOf (ps.zip us) fun _ => none) ({ s with heap := h1, toks := s.toks + (ps.zip us).length } : Shared) := by
    rw [hm, hcl]
    exact ⟨⟨⟨_, _, rfl⟩, hns, keep, Nat.le_refl _⟩, fun n c hc => absurd hc (by simp), .nil, fun n c hc => absurd hc (by simp)⟩
  have henv : newEnv scope s.heap.objs.size mainGlobals [] (qual ++ ".<locals>.") (some f) cdv none builtinsNs = envOfC qual scope s.heap.objs.size f cdv := by
    unfold envOfC
    rw [hcl] <;> rfl
  have hto : 1 ≤ ({ s with heap := h1, toks := s.toks + (ps.zip us).length } : Shared).toks := by
    show 1 ≤ s.toks + (ps.zip us).length
    omega
  have hto2 : s.toks ≤ ({ s with heap := h1, toks := s.toks + (ps.zip us).length } : Shared).toks := by
    show s.toks ≤ s.toks + (ps.zip us).length
    omega
  show ({ s with heap := h1, toks := s.toks + (ps.zip us).length } : Shared).heap.NoLimit ∧ codeAny (model P w) A (.func body (newEnv scope s.heap.objs.size mainGlobals [] (qual ++ ".<locals>.") (some f) cdv none builtinsNs)) _ ({ s with heap := h1, toks := s.toks + (ps.zip us).length } : Shared)
  rw [henv]
  generalize ({ s with heap := h1, toks := s.toks + (ps.zip us).length } : Shared) = s1 at x hto hto2 ⊢
  refine ⟨lim.keeps x.toInCall.keep, codeAny_func ?_⟩
  obtain ⟨t, ht, hq⟩ := hbody A outer s H vs Q E (hr.deeper _) hrw hsp
  have I : Inv (cxOf CX P w K mg base N qual scope f cdv A outer s H E) [] (start N vs) H s1 := inv_start S hr.hd e0 hl r x
  refine wpAny_mono (ht [] s1 (start N vs) H _ hto2 hto I hq) (fun fl s' hs => ?_) fun e s' hs => hs
  have fin : ∀ {σ' : St} {H' : Hp} {v : V} {u : Value}, Inv (cxOf CX P w K mg base N qual scope f cdv A outer s H E) [] σ' H' s' → RelV v u → Q v H' → CE outer P w H s Q u s' :=
    fun {σ' H' v u} J rv q => ⟨v, H', J.os, J.bare, J.base, J.hok, rv, q⟩
  cases fl with
  | ret u =>
    obtain ⟨v, σ', H', J, rv, q⟩ := hs
    exact fin J rv q
  | next =>
    obtain ⟨σ', H', J, q⟩ := hs
    exact fin (v := V.non) (u := Value.none) J rfl q
  | brk =>
    obtain ⟨_, _, _, q⟩ := hs
    exact False.elim q
  | cont =>
    obtain ⟨_, _, _, q⟩ := hs
    exact False.elim q
/-- what an object that is not ours was at the entry, it still is -/
theorem raw_keep {X : Cx} {pins : List (Addr × Obj)} {σ : St} {H : Hp} {s : Shared} {a : Addr} {o : Obj} (I : Inv X pins σ H s) (e : X.s_0.heap.get? a = some o) (n : X.H_0 a = none) (hf : a ∉ X.fs) (hx : X.ex = []) : s.heap.get? a = some o :=
  I.base.keep a o e n hf (by rw [hx]; exact List.not_mem_nil)
/-- o.replace("k", names[i]), the list's object known -/
theorem rep_item {X : Cx} {o : Expr} {to : TE} {pins : List (Addr × Obj)} {s : Shared} {σ : St} {H : Hp} {Q : VK} {b : Nat} {a : Addr} {ob : Obj} {its : Array Value} {n : Nat} {ip i : Nat} {px k w : Str} {t : Tok} {j0 j1 : Nat} {c0 c1 p2 q0 apos pos : Pos}
    (ho : ∀ (Q : VK), to σ H Q → wpAny (model X.prog X.w) X.A (eval o X.env) (EP X pins σ Q) X.xe s) (hb : b ≤ s.toks) (h1 : 1 ≤ s.toks) (hNp : X.N[ip]? = some px) (hvp : Vis X.env.scope px) (hσ : σ[ip]? = some (some (.ref a)))
    (e : X.s_0.heap.get? a = some ob) (nn : X.H_0 a = none) (hf : a ∉ X.fs) (hx : X.ex = []) (hc : ob.cls = .type "list") (hd : ob.data = .seq its n) (hi : its[i]? = some (.str w t)) (hi2 : i < 1000) (t0 : t ≠ 0) (tb : @LT.lt Nat _ t b) (hkw : (k == w) = false)
    (q : to σ H fun v H1 => ∃ x, v = .str x ∧ x.length + (x.length + 1) * w.length ≤ 16777216 ∧ Q (.str (Txt.replace x k w)) H1)
    (hst : starEach [.Constant (.str k) j0 c0, .Subscript (.Name px p2) (.Constant (.int (i : Int)) j1 c1) q0] X.env = [(false, eval (.Constant (.str k) j0 c0) X.env), (false, eval (.Subscript (.Name px p2) (.Constant (.int (i : Int)) j1 c1) q0) X.env)])
    (hbase : attributeBase o "replace" X.env (eval o X.env) = eval o X.env) (hline : (apos.endLine == pos.line) = true)
    (hdp : (px == ("__debug__" : Str)) = false) (hcp : (px == ("__classdict__" : Str)) = false) :
    wpAny (model X.prog X.w) X.A (eval (.Call (.Attribute o "replace" apos) [.Constant (.str k) j0 c0, .Subscript (.Name px p2) (.Constant (.int (i : Int)) j1 c1) q0] [] pos) X.env) (EP X pins σ Q) X.xe s := by
  refine PySem.Call_method2 hbase hst hline (PySem.wpAny_with_toks hb (PySem.wpAny_with_toks h1 (wpAny_mono (ho _ q) (fun v s1 qq k1 kb => ?_) (fun _ _ z _ _ => z))))
  obtain ⟨x, H1, I1, r1, x', rfl, hl, q1⟩ := qq
  obtain ⟨tx', rfl⟩ := r1
  have g : s1.heap.IsList a its := ⟨ob, raw_keep I1 e nn hf hx, hc, n, hd⟩
  refine ⟨"str", _, F.plainAttrs_str, F.slot_str_replace, F.type_str_replace, typeIs_str _ _ _, (fun _ e => nomatch e), Calls.callWith_builtin rfl (Calls.evalArgs_plain (Calls.spliced_cons (Calls.Constant_str ?_)))⟩
  have I2 : Inv X pins σ H1 { s1 with toks := s1.toks + 1 } := I1.tok _
  refine Calls.spliced_cons (raw_ix (its := its) (k := (i : Int)) (w := .str w t) hNp hvp I2 hσ g (by omega) (by omega) (by rw [Int.toNat_natCast]; exact hi) (fun k2 => Calls.spliced_nil ?_) (fun _ _ => rfl) hdp hcp)
  have hlt : @LT.lt Nat _ t s1.toks := Nat.lt_of_lt_of_le tb kb
  exact PySem.SC.replace (Nat.ne_of_gt k1) t0 (Nat.ne_of_gt hlt) hkw hl fun t' k3 => ⟨.str (Txt.replace x' k w), H1, I1.tok k3, ⟨t', rfl⟩, q1⟩
def tNm (i : Nat) : TE := fun σ H Q => ∃ v, σ[i]? = some (some v) ∧ Q v H
theorem pet_nm {X : Cx} {i : Nat} {x : Str} {pos : Pos} (hN : X.N[i]? = some x) (hv : Vis X.env.scope x) (hd : (x == ("__debug__" : Str)) = false) (hcd : (x == ("__classdict__" : Str)) = false) : PET X (.Name x pos) (tNm i) :=
  fun pins s σ H Q _ I ⟨v, hv0, q⟩ => raw_name hN hv I hv0 (fun u ru => ⟨v, H, I, ru, q⟩) hd hcd
/-- x, y, t by capitals, then these by three texts -/
def ren1 (x : Str) : Str := Txt.replace (Txt.replace (Txt.replace x "x" "X") "y" "Y") "t" "T"
def ren2 (x w0 w1 w2 : Str) : Str := Txt.replace (Txt.replace (Txt.replace x "X" w0) "Y" w1) "T" w2
theorem rep_small {x y z : Str} {n m : Nat} (hx : x.length ≤ n) (hz : z.length ≤ m) : (Txt.replace x y z).length ≤ n + (n + 1) * m ∧ x.length + (x.length + 1) * z.length ≤ n + (n + 1) * m := by
  have h := TK.replace_len x y z
  have h2 : (x.length + 1) * z.length ≤ (n + 1) * m := Nat.mul_le_mul (by omega) hz
  omega
/-- the list of three texts, raw -/
structure Raw3 (ob : Obj) (w0 w1 w2 : Str) (b : Nat) : Prop where
  cls : ob.cls = .type "list"
  dat : ∃ (t0 t1 t2 : Tok) (n : Nat), ob.data = .seq #[.str w0 t0, .str w1 t1, .str w2 t2] n ∧ (t0 ≠ 0 ∧ @LT.lt Nat _ t0 b) ∧ (t1 ≠ 0 ∧ @LT.lt Nat _ t1 b) ∧ (t2 ≠ 0 ∧ @LT.lt Nat _ t2 b)
  l : (w0.length ≤ 10 ∧ w1.length ≤ 10 ∧ w2.length ≤ 10) ∧ ("X" == w0) = false ∧ ("Y" == w1) = false ∧ ("T" == w2) = false
def tRen (a : Addr) (w0 w1 w2 : Str) : TS := fun D σ H => ∃ x, σ[0]? = some (some (.str x)) ∧ σ[1]? = some (some (.ref a)) ∧ x.length ≤ 100 ∧ D.rt (.str (ren2 (ren1 x) w0 w1 w2)) H
set_option maxHeartbeats 2000000 in
theorem ren_body {X : Cx} {b : Nat} {a : Addr} {ob : Obj} {w0 w1 w2 tn pn : Str} {j0 j1 j2 j3 j4 j5 k0 k1 k2 k3 k4 k5 : Nat} {a0 a1 a2 a3 a4 a5 c0 c1 c2 c3 c4 c5 d0 d1 d2 d3 d4 d5 r0 r1 r2 r3 r4 r5 n3 n4 n5 q3 q4 q5 m0 m1 mp p1 p2 : Pos}
    (nd : X.N.Nodup) (h0 : X.N[0]? = some tn) (h1 : X.N[1]? = some pn) (lx : Loc X.env.scope tn) (v0 : Vis X.env.scope tn) (v1 : Vis X.env.scope pn) (hfn : X.fn tn = true ∨ X.env.scope.names.lookup tn = some .local)
    (e : X.s_0.heap.get? a = some ob) (nn : X.H_0 a = none) (hfs : a ∉ X.fs) (hx : X.ex = []) (rw3 : Raw3 ob w0 w1 w2 b)
    (dt : (tn == ("__debug__" : Str)) = false) (ct : (tn == ("__classdict__" : Str)) = false) (dp : (pn == ("__debug__" : Str)) = false) (cp : (pn == ("__classdict__" : Str)) = false) (l0 : (a0.endLine == r0.line) = true) (l1 : (a1.endLine == r1.line) = true) (l2 : (a2.endLine == r2.line) = true) (l3 : (a3.endLine == r3.line) = true) (l4 : (a4.endLine == r4.line) = true) (l5 : (a5.endLine == r5.line) = true)
    (hsw : swapsWith (.Call (.Attribute (.Call (.Attribute (.Call (.Attribute (.Name tn m0) "replace" a0) [.Constant (.str "x") j0 c0, .Constant (.str "X") k0 d0] [] r0) "replace" a1) [.Constant (.str "y") j1 c1, .Constant (.str "Y") k1 d1] [] r1) "replace" a2) [.Constant (.str "t") j2 c2, .Constant (.str "T") k2 d2] [] r2) (some (.Name tn mp)) p1.line X.env = pure false) :
    PSsB X b [.Assign [.Name tn mp] (.Call (.Attribute (.Call (.Attribute (.Call (.Attribute (.Name tn m0) "replace" a0) [.Constant (.str "x") j0 c0, .Constant (.str "X") k0 d0] [] r0) "replace" a1) [.Constant (.str "y") j1 c1, .Constant (.str "Y") k1 d1] [] r1) "replace" a2) [.Constant (.str "t") j2 c2, .Constant (.str "T") k2 d2] [] r2) p1, .Return (some (.Call (.Attribute (.Call (.Attribute (.Call (.Attribute (.Name tn m1) "replace" a3) [.Constant (.str "X") j3 c3, .Subscript (.Name pn n3) (.Constant (.int (0 : Nat)) k3 d3) q3] [] r3) "replace" a4) [.Constant (.str "Y") j4 c4, .Subscript (.Name pn n4) (.Constant (.int (1 : Nat)) k4 d4) q4] [] r4) "replace" a5) [.Constant (.str "T") j5 c5, .Subscript (.Name pn n5) (.Constant (.int (2 : Nat)) k5 d5) q5] [] r5)) p2] (tRen a w0 w1 w2) := by
  intro pins s σ H D hb h1t I h
  obtain ⟨x, s0, s1, lx1, q⟩ := h
  obtain ⟨hc, ⟨t0, t1, t2, n, hd, ⟨z0, b0⟩, ⟨z1, b1⟩, ⟨z2, b2⟩⟩, ⟨⟨u0, u1, u2⟩, ne0, ne1, ne2⟩⟩ := rw3
  have L1 : ("X" : Str).length = 1 ∧ ("Y" : Str).length = 1 ∧ ("T" : Str).length = 1 := ⟨rfl, rfl, rfl⟩
  have y1 := rep_small (y := "x") (z := "X") lx1 (Nat.le_of_eq L1.1)
  have y2 := rep_small (y := "y") (z := "Y") y1.1 (Nat.le_of_eq L1.2.1)
  have y3 := rep_small (y := "t") (z := "T") y2.1 (Nat.le_of_eq L1.2.2)
  have y4 := rep_small (y := "X") (z := w0) y3.1 u0
  have y5 := rep_small (y := "Y") (z := w1) y4.1 u1
  have y6 := rep_small (y := "T") (z := w2) y5.1 u2
  have pe : PET X (.Call (.Attribute (.Call (.Attribute (.Call (.Attribute (.Name tn m0) "replace" a0) [.Constant (.str "x") j0 c0, .Constant (.str "X") k0 d0] [] r0) "replace" a1) [.Constant (.str "y") j1 c1, .Constant (.str "Y") k1 d1] [] r1) "replace" a2) [.Constant (.str "t") j2 c2, .Constant (.str "T") k2 d2] [] r2) (CwR.tReplC (CwR.tReplC (CwR.tReplC (tNm 0) "x" "X") "y" "Y") "t" "T") :=
    CwR.pet_replT (CwR.pet_replT (CwR.pet_replT (pet_nm h0 v0 dt ct) (by decide) rfl rfl l0) (by decide) rfl rfl l1) (by decide) rfl rfl l2
  refine wpAny_execs_cons (PySem.wpAny_with_toks hb (PySem.wpAny_with_toks h1t (wpAny_mono (pst_set (i := 0) nd h0 lx pe hsw hfn pins s σ H { D with nx := fun σ' H' => σ' = σ.set 0 (some (.str (ren1 x))) ∧ H' = H } h1t I ?_) (fun f s2 q2 k2 kb => ?_) (fun _ _ z _ _ => z))))
  · exact ⟨_, s0, x, rfl, by have := y1.2; omega, _, rfl, by have := y2.2; omega, _, rfl, by have := y3.2; omega, rfl, rfl⟩
  have hl0 : 0 < σ.length := (List.getElem?_eq_some_iff.mp s0).1
  cases f with
  | next =>
    obtain ⟨σ', H', I2, eσ, eH⟩ := q2
    have g0 : σ'[0]? = some (some (.str (ren1 x))) := by rw [eσ, List.getElem?_set_self hl0]
    have g1 : σ'[1]? = some (some (.ref a)) := by rw [eσ, List.getElem?_set_ne (by decide)]; exact s1
    have e1 : ∀ Q, tNm 0 σ' H' Q → wpAny (model X.prog X.w) X.A (eval (.Name tn m1) X.env) (EP X pins σ' Q) X.xe s2 := fun Q q => pet_nm h0 v0 dt ct pins s2 σ' H' Q k2 I2 q
    have e2 : ∀ Q, CwR.tReplC (tNm 0) "X" w0 σ' H' Q → wpAny (model X.prog X.w) X.A (eval (.Call (.Attribute (.Name tn m1) "replace" a3) [.Constant (.str "X") j3 c3, .Subscript (.Name pn n3) (.Constant (.int (0 : Nat)) k3 d3) q3] [] r3) X.env) (EP X pins σ' Q) X.xe s2 := fun Q q => rep_item (to := tNm 0) (i := 0) e1 kb k2 h1 v1 g1 e nn hfs hx hc hd rfl (by decide) z0 b0 ne0 q rfl rfl l3 dp cp
    have e3 : ∀ Q, CwR.tReplC (CwR.tReplC (tNm 0) "X" w0) "Y" w1 σ' H' Q → wpAny (model X.prog X.w) X.A (eval (.Call (.Attribute (.Call (.Attribute (.Name tn m1) "replace" a3) [.Constant (.str "X") j3 c3, .Subscript (.Name pn n3) (.Constant (.int (0 : Nat)) k3 d3) q3] [] r3) "replace" a4) [.Constant (.str "Y") j4 c4, .Subscript (.Name pn n4) (.Constant (.int (1 : Nat)) k4 d4) q4] [] r4) X.env) (EP X pins σ' Q) X.xe s2 := fun Q q => rep_item (to := CwR.tReplC (tNm 0) "X" w0) (i := 1) e2 kb k2 h1 v1 g1 e nn hfs hx hc hd rfl (by decide) z1 b1 ne1 q rfl rfl l4 dp cp
    have e4 : ∀ Q, CwR.tReplC (CwR.tReplC (CwR.tReplC (tNm 0) "X" w0) "Y" w1) "T" w2 σ' H' Q → wpAny (model X.prog X.w) X.A (eval (.Call (.Attribute (.Call (.Attribute (.Call (.Attribute (.Name tn m1) "replace" a3) [.Constant (.str "X") j3 c3, .Subscript (.Name pn n3) (.Constant (.int (0 : Nat)) k3 d3) q3] [] r3) "replace" a4) [.Constant (.str "Y") j4 c4, .Subscript (.Name pn n4) (.Constant (.int (1 : Nat)) k4 d4) q4] [] r4) "replace" a5) [.Constant (.str "T") j5 c5, .Subscript (.Name pn n5) (.Constant (.int (2 : Nat)) k5 d5) q5] [] r5) X.env) (EP X pins σ' Q) X.xe s2 := fun Q q => rep_item (to := CwR.tReplC (CwR.tReplC (tNm 0) "X" w0) "Y" w1) (i := 2) e3 kb k2 h1 v1 g1 e nn hfs hx hc hd rfl (by decide) z2 b2 ne2 q rfl rfl l5 dp cp
    refine wpAny_execs_cons (wpAny_Return_some (thn (e4 D.rt ⟨_, g0, ren1 x, rfl, Nat.le_trans y4.2 (by decide), _, rfl, Nat.le_trans y5.2 (by decide), _, rfl, Nat.le_trans y6.2 (by decide), by rw [eH]; exact q⟩) fun v s3 ⟨y, H1, I3, r1, q1⟩ => ⟨y, σ', H1, I3, r1, q1⟩))
  | ret v => exact q2
  | brk => exact q2
  | cont => exact q2
end DL
namespace DL
open PySem PySem.Spec L2
open PyProof.Rows hiding St
variable [HashW]
/-- texts whose tokens are not 0 and below b -/
inductive RawI (b : Nat) : List (List Nat) → List Value → Prop where
  | nil : RawI b [] []
  | cons {w : List Nat} {t : Tok} {ws : List (List Nat)} {us : List Value} : t ≠ 0 → @LT.lt Nat _ t b → RawI b ws us → RawI b (w :: ws) (.str (tx w) t :: us)
theorem RawI.mono {b c : Nat} (h : b ≤ c) : ∀ {ws : List (List Nat)} {us : List Value}, RawI b ws us → RawI c ws us
  | _, _, .nil => .nil
  | _, _, .cons h0 h1 r => .cons h0 (Nat.lt_of_lt_of_le h1 h) (r.mono h)
theorem RawI.len {b : Nat} : ∀ {ws : List (List Nat)} {us : List Value}, RawI b ws us → us.length = ws.length
  | _, _, .nil => rfl
  | _, _, .cons _ _ r => by rw [List.length_cons, List.length_cons, r.len]
theorem RawI.get {b : Nat} : ∀ {ws : List (List Nat)} {us : List Value} {i : Nat} {w : List Nat}, RawI b ws us → ws[i]? = some w → ∃ t, us[i]? = some (.str (tx w) t) ∧ t ≠ 0 ∧ @LT.lt Nat _ t b
  | _, _, i, w, .nil, h => by simp at h
  | _, _, 0, w, .cons (t := t) h0 h1 r, h => by
    simp at h; subst h
    exact ⟨t, by simp, h0, h1⟩
  | _, _, i + 1, w, .cons h0 h1 r, h => by
    simp at h
    obtain ⟨t, e, z⟩ := r.get h
    exact ⟨t, by simpa using e, z⟩
theorem RawI.erase {b : Nat} : ∀ {ws : List (List Nat)} {us : List Value} (i : Nat), RawI b ws us → RawI b (ws.eraseIdx i) (us.eraseIdx i)
  | _, _, i, .nil => by simpa using RawI.nil
  | _, _, 0, .cons h0 h1 r => by simpa using r
  | _, _, i + 1, .cons h0 h1 r => by simpa using RawI.cons h0 h1 (r.erase i)
theorem RawI.snoc {b : Nat} {w : List Nat} {t : Tok} (h0 : t ≠ 0) (h1 : @LT.lt Nat _ t b) : ∀ {ws : List (List Nat)} {us : List Value}, RawI b ws us → RawI b (ws ++ [w]) (us ++ [.str (tx w) t])
  | _, _, .nil => .cons h0 h1 .nil
  | _, _, .cons z0 z1 r => .cons z0 z1 (r.snoc h0 h1)
/-- a list's object -/
abbrev lobj (us : List Value) (n : Nat) : Obj := { cls := .type "list", dict := none, data := .seq us.toArray n, slots := #[] }
section
variable {X : Cx} {W : WX}
/-- the first pin is put off, its object changed, and pinned again -/
theorem _root_.L2.Inv.swap {pins : List (Addr × Obj)} {σ : St} {H : Hp} {s : Shared} {a : Addr} {o o' : Obj} {h' : Heap} {t' : Nat} (I : Inv X ((a, o) :: pins) σ H s) (hex : a ∈ X.ex ∨ X.s_0.heap.objs.size ≤ a) (hcl : ∀ x c, X.env.cells.lookup x = some c → c ≠ a)
    (hpn : ∀ p ∈ X.pn ++ pins, p.1 ≠ a) (k : ∀ b u, b ≠ a → s.heap.get? b = some u → h'.get? b = some u) (e : h'.get? a = some o') (d : ∀ v, o'.data ≠ .cell v) : Inv X ((a, o') :: pins) σ H { s with heap := h', toks := t' } := by
  obtain ⟨_, hn, hl, hf, _⟩ := I.pin (a, o) (List.mem_append_right _ List.mem_cons_self)
  have I1 : Inv X pins σ H s := I.pins_of fun p hp => I.pin p (List.mem_append_right _ (List.mem_cons_of_mem _ hp))
  have I2 : Inv X pins σ H { s with heap := h', toks := t' } := I1.turned k hn hl hex hcl hpn
  refine I2.pins_of fun p hp => ?_
  rcases List.mem_cons.mp hp with rfl | hp
  · exact ⟨e, hn, hl, hf, d⟩
  · exact I2.pin p (List.mem_append_right _ hp)
theorem _root_.L2.Inv.rot {pins : List (Addr × Obj)} {σ : St} {H : Hp} {s : Shared} {p q : Addr × Obj} (I : Inv X (p :: q :: pins) σ H s) : Inv X (q :: p :: pins) σ H s := I.pins_of fun z hz => I.pin z (List.mem_append_right _ (by
  rcases List.mem_cons.mp hz with rfl | hz
  · exact List.mem_cons_of_mem _ List.mem_cons_self
  · rcases List.mem_cons.mp hz with rfl | hz
    · exact List.mem_cons_self
    · exact List.mem_cons_of_mem _ (List.mem_cons_of_mem _ hz)))
/-- an object of our own, not tracked: what stays -/
structure OwnA (X : Cx) (a : Addr) : Prop where
  ex : a ∈ X.ex ∨ X.s_0.heap.objs.size ≤ a
  cl : ∀ x c, X.env.cells.lookup x = some c → c ≠ a
  pn : ∀ p ∈ X.pn, p.1 ≠ a
end
/-- the mirror of `for k in range(r): names.append(menu.pop(e))` -/
def goN (me : ME) (ik : Nat) (k : List (List Nat) → MST) : Nat → Nat → List (List Nat) → List (List Nat) → MST
  | 0, _, _, ns => k ns
  | r + 1, j, ws, ns => fun sd M => SRes.ofE (me (sd.set ik (some (.int (j : Nat)))) M) (sd.set ik (some (.int (j : Nat)))) fun d M1 => match d with
    | .int n => if 0 ≤ n then (match ws[n.toNat]? with
      | some w => goN me ik k r (j + 1) (ws.eraseIdx n.toNat) (ns ++ [w]) (sd.set ik (some (.int (j : Nat)))) M1
      | none => .stuck) else .stuck
    | _ => .stuck
section
variable {X : Cx} {W : WX}
/-- where the loop stands -/
structure PickSt (X : Cx) (W : WX) (pins : List (Addr × Obj)) (m nn : Addr) (im ina : Nat) (ws ns : List (List Nat)) (c : MST) (D0 : Ends) (σ : St) (H : Hp) (s : Shared) : Prop where
  ex : ∃ us n vs k, Inv X ((m, lobj us n) :: (nn, lobj vs k) :: pins) σ H s ∧ RawI s.toks ws us ∧ RawI s.toks ns vs
  l1 : ws.length ≤ 100
  l2 : ns.length ≤ 100
  one : 1 ≤ s.toks
  g1 : σ[im]? = some (some (.ref m))
  g2 : σ[ina]? = some (some (.ref nn))
  q : liftS X.K X.mg W c D0 σ H
/-- names.append(menu.pop(e)) -/
theorem pick_one {pins : List (Addr × Obj)} {m nn : Addr} {im ina : Nat} {xm xn : Str} {ed : Expr} {me : ME} {ws ns : List (List Nat)} {c1 c2 a1 a2 p1 p2 : Pos} {us vs : List Value} {n k : Nat} {s : Shared} {σ : St} {H : Hp} {sd : SD} {M : MS} {ro : Pl} {kk : Int → List Nat → MS → SRes} {D0 : Ends}
    (om : OwnA X m) (on : OwnA X nn) (hpm : ∀ p ∈ pins, p.1 ≠ m) (hpn : ∀ p ∈ pins, p.1 ≠ nn) (hmn : m ≠ nn) (hem : X.N[im]? = some xm) (hen : X.N[ina]? = some xn) (vm : Vis X.env.scope xm) (vn : Vis X.env.scope xn) (he : DE X W ed me)
    (I : Inv X ((m, lobj us n) :: (nn, lobj vs k) :: pins) σ H s) (r1 : RawI s.toks ws us) (r2 : RawI s.toks ns vs) (l1 : ws.length ≤ 100) (l2 : ns.length ≤ 100) (g1 : σ[im]? = some (some (.ref m))) (g2 : σ[ina]? = some (some (.ref nn)))
    (R : RelS X.K X.mg ro M H) (S : RepSt X.K X.mg ro H sd σ) (P : PostS X.K X.mg W ro H D0 (SRes.ofE (me sd M) sd fun d M1 => match d with
      | .int n => if 0 ≤ n then (match ws[n.toNat]? with
        | some w => kk n w M1
        | none => .stuck) else .stuck
      | _ => .stuck))
    {Q : Value → Shared → Prop} (fin : ∀ (d : Int) (w : List Nat) (us' vs' : List Value) (n' k' : Nat) (s' : Shared) (H' : Hp) (ro' : Pl) (M' : MS), s.toks ≤ s'.toks → ws[d.toNat]? = some w → Inv X ((m, lobj us' n') :: (nn, lobj vs' k') :: pins) σ H' s' → RawI s'.toks (ws.eraseIdx d.toNat) us' → RawI s'.toks (ns ++ [w]) vs' →
      RelS X.K X.mg ro' M' H' → RepSt X.K X.mg ro' H' sd σ → PostS X.K X.mg W ro' H' D0 (kk d w M') → Q .none s')
    (hs1 : starEach [.Call (.Attribute (.Name xm p2) "pop" a2) [ed] [] c2] X.env = [(false, eval (.Call (.Attribute (.Name xm p2) "pop" a2) [ed] [] c2) X.env)]) (hs2 : starEach [ed] X.env = [(false, eval ed X.env)])
    (hb1 : attributeBase (.Name xn p1) "append" X.env (eval (.Name xn p1) X.env) = eval (.Name xn p1) X.env) (hb2 : attributeBase (.Name xm p2) "pop" X.env (eval (.Name xm p2) X.env) = eval (.Name xm p2) X.env)
    (hl1 : (a1.endLine == c1.line) = true) (hl2 : (a2.endLine == c2.line) = true)
    (hdm : (xm == ("__debug__" : Str)) = false) (hcm : (xm == ("__classdict__" : Str)) = false) (hdn : (xn == ("__debug__" : Str)) = false) (hcn : (xn == ("__classdict__" : Str)) = false) :
    wpAny (model X.prog X.w) X.A (eval (.Call (.Attribute (.Name xn p1) "append" a1) [.Call (.Attribute (.Name xm p2) "pop" a2) [ed] [] c2] [] c1) X.env) Q X.xe s := by
  have e1 : s.heap.get? m = some (lobj us n) := (I.pin (m, lobj us n) (List.mem_append_right _ List.mem_cons_self)).1
  have e2 : s.heap.get? nn = some (lobj vs k) := (I.pin (nn, lobj vs k) (List.mem_append_right _ (List.mem_cons_of_mem _ List.mem_cons_self))).1
  refine wpAny_Call_method_late (trees := [(false, eval (.Call (.Attribute (.Name xm p2) "pop" a2) [ed] [] c2) X.env)]) hb1 (by rw [hs1]; rfl) hl1 (by rw [hs1]; rfl) (raw_name hen vn I g2 (fun u ru => ?_) hdn hcn)
  cases (show u = Value.ref nn from ru)
  refine ⟨"list", "list.append", F.plainAttrs_list, F.slot_list_append, F.type_list_append, ⟨_, e2, rfl⟩, (fun a ea => by cases ea; exact ⟨_, e2, rfl⟩), PySem.P.append_list ?_⟩
  refine wpAny_Call_method_late (trees := [(false, eval ed X.env)]) hb2 (by rw [hs2]; rfl) hl2 (by rw [hs2]; rfl) (raw_name hem vm I g1 (fun u ru => ?_) hdm hcm)
  cases (show u = Value.ref m from ru)
  refine ⟨"list", "list.pop", F.plainAttrs_list, F.slot_list_pop, F.type_list_pop, ⟨_, e1, rfl⟩, (fun a ea => by cases ea; exact ⟨_, e1, rfl⟩), PySem.P.pop_at_list ?_⟩
  refine PySem.wpAny_with_toks (Nat.le_refl _) (wpAny_mono (he.pe.run _ s σ H _ I ⟨ro, sd, M, R, S, PostS.ofE P S⟩) (fun v s1 ⟨y, H1, I1, ry, ro1, M1, d, R1, P1, rd, q1⟩ kt => ?_) (fun _ _ z _ => z))
  cases d <;> try exact q1.elim
  rename_i d
  cases (show y = V.int d from rd)
  obtain ⟨tu, rfl⟩ := ry
  have q1 : PostS X.K X.mg W ro1 H1 D0 (if 0 ≤ d then (match ws[d.toNat]? with
        | some w => kk d w M1
        | none => .stuck) else .stuck) := q1
  split at q1
  rotate_left
  · exact q1.elim
  rename_i h0
  cases hw : ws[d.toNat]? with
  | none => rw [hw] at q1; exact q1.elim
  | some w =>
    rw [hw] at q1
    have q1 : PostS X.K X.mg W ro1 H1 D0 (kk d w M1) := q1
    obtain ⟨t, hu, t0, tb⟩ := (r1.mono kt).get hw
    have hlt : d.toNat < ws.length := (List.getElem?_eq_some_iff.mp hw).1
    have hsz : us.length = ws.length := r1.len
    have hsz2 : vs.length = ns.length := r2.len
    have e1' : s1.heap.get? m = some (lobj us n) := (I1.pin (m, lobj us n) (List.mem_append_right _ List.mem_cons_self)).1
    have big : (100 : Nat) ≤ sizeLine := by decide
    have z1 : us.toArray.size ≤ sizeLine := by rw [List.size_toArray]; omega
    have z2 : vs.toArray.size ≤ sizeLine := by rw [List.size_toArray]; omega
    have si : seqIndex? d us.toArray.size = some d.toNat := by
      rw [List.size_toArray]
      unfold seqIndex?
      have : ¬ d < 0 := by omega
      simp [this]
      omega
    obtain ⟨n', I2⟩ : ∃ n', Inv X ((m, lobj (us.eraseIdx d.toNat) n') :: (nn, lobj vs k) :: pins) σ H1 { s1 with heap := s1.heap.update m (Obj.mapSeq fun xs => xs.eraseIdxIfInBounds d.toNat) } := by
      refine ⟨if ((us.eraseIdx d.toNat).toArray.size == us.toArray.size) = true then n else n + 1, ?_⟩
      refine I1.swap (t' := s1.toks) om.ex om.cl (fun p hp => ?_) (fun b u hb e => (Heap.get?_update_other s1.heap _ (Ne.symm hb)).trans e) ?_ (fun v z => by cases z)
      · rcases List.mem_append.mp hp with z | z
        · exact om.pn p z
        · rcases List.mem_cons.mp z with rfl | z
          · exact Ne.symm hmn
          · exact hpm p z
      · have q := PySem.IsL.update e1' (fun xs => xs.eraseIdxIfInBounds d.toNat)
        rw [List.eraseIdxIfInBounds_toArray] at q
        exact q
    have e2' := (I2.pin (nn, lobj vs k) (List.mem_append_right _ (List.mem_cons_of_mem _ List.mem_cons_self))).1
    refine ⟨us.toArray, n, d, tu, d.toNat, .str (tx w) t, z1, rfl, e1', fitsIndex_both (by omega) (by omega), si, by simpa using hu, vs.toArray, k, z2, e2', ?_⟩
    obtain ⟨k', I3⟩ : ∃ k', Inv X ((nn, lobj (vs ++ [.str (tx w) t]) k') :: (m, lobj (us.eraseIdx d.toNat) n') :: pins) σ H1 { s1 with heap := (s1.heap.update m (Obj.mapSeq fun xs => xs.eraseIdxIfInBounds d.toNat)).update nn (Obj.mapSeq fun xs => xs.push (.str (tx w) t)) } := by
      refine ⟨if ((vs ++ [Value.str (tx w) t]).toArray.size == vs.toArray.size) = true then k else k + 1, ?_⟩
      refine I2.rot.swap (t' := s1.toks) on.ex on.cl (fun p hp => ?_) (fun b u hb e => (Heap.get?_update_other _ _ (Ne.symm hb)).trans e) ?_ (fun v z => by cases z)
      · rcases List.mem_append.mp hp with z | z
        · exact on.pn p z
        · rcases List.mem_cons.mp z with rfl | z
          · exact hmn
          · exact hpn p z
      · have q := PySem.IsL.update e2' (fun xs => xs.push (.str (tx w) t))
        rw [List.push_toArray] at q
        exact q
    exact fin d w _ _ n' k' _ H1 ro1 M1 kt hw I3.rot ((r1.mono kt).erase _) ((r2.mono kt).snoc t0 tb) R1 (S.mono P1) q1
/-- where the loop ends -/
def PickEnd (X : Cx) (W : WX) (pins : List (Addr × Obj)) (m nn : Addr) (im ina : Nat) (kc : List (List Nat) → MST) (D0 : Ends) (f : Flow) (s' : Shared) : Prop := match f with
  | .next => ∃ σ' H' ws' ns', PickSt X W pins m nn im ina ws' ns' (kc ns') D0 σ' H' s'
  | _ => False
/-- for k in range(r): names.append(menu.pop(e)) -/
theorem for_pick {pins : List (Addr × Obj)} {m nn : Addr} {im ina ik : Nat} {xm xn xk : Str} {ed : Expr} {me : ME} {ws : List (List Nat)} {c1 c2 a1 a2 p1 p2 pk pr pr2 ep cr pos : Pos} {jr : Nat} {s : Shared} {σ : St} {H : Hp} {kc : List (List Nat) → MST} {D0 : Ends} {r : Nat} (cx : Ctx X W)
    (nd : X.N.Nodup) (om : OwnA X m) (on : OwnA X nn) (hpm : ∀ p ∈ pins, p.1 ≠ m) (hpn : ∀ p ∈ pins, p.1 ≠ nn) (hmn : m ≠ nn) (hem : X.N[im]? = some xm) (hen : X.N[ina]? = some xn) (hek : X.N[ik]? = some xk) (vm : Vis X.env.scope xm) (vn : Vis X.env.scope xn) (lk : Loc X.env.scope xk) (hfk : X.fn xk = true ∨ X.env.scope.names.lookup xk = some .local) (nkm : ik ≠ im) (nkn : ik ≠ ina) (he : DE X W ed me) (hr : r ≤ 50)
    (hg : Gl X "range") (hmr : X.mg "range" = none) (St : PickSt X W pins m nn im ina ws [] (goN me ik kc r 0 ws []) D0 σ H s)
    (hs1 : starEach [.Call (.Attribute (.Name xm p2) "pop" a2) [ed] [] c2] X.env = [(false, eval (.Call (.Attribute (.Name xm p2) "pop" a2) [ed] [] c2) X.env)]) (hs2 : starEach [ed] X.env = [(false, eval ed X.env)])
    (hb1 : attributeBase (.Name xn p1) "append" X.env (eval (.Name xn p1) X.env) = eval (.Name xn p1) X.env) (hb2 : attributeBase (.Name xm p2) "pop" X.env (eval (.Name xm p2) X.env) = eval (.Name xm p2) X.env)
    (hl1 : (a1.endLine == c1.line) = true) (hl2 : (a2.endLine == c2.line) = true)
    (hdm : (xm == ("__debug__" : Str)) = false) (hcm : (xm == ("__classdict__" : Str)) = false) (hdn : (xn == ("__debug__" : Str)) = false) (hcn : (xn == ("__classdict__" : Str)) = false)
    (hsr : starEach [.Constant (.int (r : Nat)) jr cr] X.env = [(false, eval (.Constant (.int (r : Nat)) jr cr) X.env)]) (hse : swapsWith (.Call (.Attribute (.Name xn p1) "append" a1) [.Call (.Attribute (.Name xm p2) "pop" a2) [ed] [] c2] [] c1) none ep.line X.env = pure false)
    (hsf : ∀ x, foldedSetIterable (.Call (.Name "range" pr) [.Constant (.int (r : Nat)) jr cr] [] pr2) X.env x = pure x) :
    wpAny (model X.prog X.w) X.A (exec (.For (.Name xk pk) (.Call (.Name "range" pr) [.Constant (.int (r : Nat)) jr cr] [] pr2) [.Expr (.Call (.Attribute (.Name xn p1) "append" a1) [.Call (.Attribute (.Name xm p2) "pop" a2) [ed] [] c2] [] c1) ep] [] pos) X.env) (PickEnd X W pins m nn im ina kc D0) X.xe s := by
  have hp := cx.po
  have hc := cx.calm
  obtain ⟨us, n, vs, k, I, r1, r2⟩ := St.ex
  have pa : PA X [.Constant (.int (r : Nat)) jr cr] (tCons (tC (.int (r : Nat))) tNil) := pa_cons pe_int pa_nil hsr
  refine wpAny_For (PySem.wpAny_with_toks (Nat.le_refl _) (wpAny_mono ((pi_range1 (tg := .Name xk pk) hg hmr pa hsr).run _ s σ H (fun J H1 => J = Itr 0 r ∧ H1 = H) I ⟨(r : Nat), rfl, by omega, by omega, by rw [Int.toNat_natCast], rfl⟩) (fun v s1 h1 k1 => ?_) (fun _ _ z _ => z))) hsf
  refine PySem.wpAny_with_toks (Nat.le_refl _) (wpAny_mono h1 (fun itv s2 h2 k2 => ?_) (fun _ _ z _ => z))
  obtain ⟨it, fp, tn, J, H2, e, I2, T, st2, f2, eJ, eH⟩ := h2
  subst e
  subst eJ
  subst eH
  have kk : s.toks ≤ s2.toks := Nat.le_trans k1 k2
  have ne1 : ∀ b ∈ fp, m ≠ b := fun b hb => (f2 b hb).2.2.2.2.2 (m, lobj us n) (List.mem_append_right _ List.mem_cons_self)
  have ne2 : ∀ b ∈ fp, nn ≠ b := fun b hb => (f2 b hb).2.2.2.2.2 (nn, lobj vs k) (List.mem_append_right _ (List.mem_cons_of_mem _ List.mem_cons_self))
  have stat : ∀ {H' : Hp} {o1 o2 : Obj}, (∀ b ∈ fp, H' b = none) → ∀ b ∈ fp, FpOk X ((m, o1) :: (nn, o2) :: pins) H' b := fun {H' o1 o2} hn b hb => by
    obtain ⟨g0, g1, g2, g3, g4, g5⟩ := f2 b hb
    refine ⟨hn b hb, g1, g2, g3, g4, fun p hp => ?_⟩
    rcases List.mem_append.mp hp with z | z
    · exact g5 p (List.mem_append_left _ z)
    · rcases List.mem_cons.mp z with rfl | z
      · exact ne1 b hb
      · rcases List.mem_cons.mp z with rfl | z
        · exact ne2 b hb
        · exact g5 p (List.mem_append_right _ (List.mem_cons_of_mem _ (List.mem_cons_of_mem _ z)))
  refine codeAny_forLoop_any (fun q s' => ∃ j σ' H' ws' ns', q + j = r ∧ ns'.length = j ∧ PickSt X W pins m nn im ina ws' ns' (goN me ik kc q j ws' ns') D0 σ' H' s' ∧ tn j s'.heap ∧ ∀ b ∈ fp, H' b = none) ?_ r
    ⟨0, σ, _, ws, [], rfl, rfl, ⟨⟨us, n, vs, k, I2, r1.mono kk, r2.mono kk⟩, St.l1, St.l2, Nat.le_trans St.one kk, St.g1, St.g2, St.q⟩, st2, fun b hb => (f2 b hb).1⟩
  rintro q s3 ⟨j, σ3, H3, ws3, ns3, hq, hns, St3, st3, fr3⟩
  obtain ⟨us3, n3, vs3, k3, I3, r13, r23⟩ := St3.ex
  cases q with
  | zero =>
    have ej : j = r := by omega
    refine wpAny_passesOwn hp (PySem.wpAny_with_toks (Nat.le_refl _) (wpAny_mono (T.done X rfl rfl rfl hc j _ s3 σ3 H3 X.xe I3 (stat fr3) st3 (by show r ≤ j; omega)) (fun r s4 ⟨hr, I4⟩ k4 => ?_) (fun _ _ z _ => z)))
    subst hr
    exact wpAny_execs_nil ⟨σ3, H3, ws3, ns3, ⟨⟨us3, n3, vs3, k3, I4, r13.mono k4, r23.mono k4⟩, St3.l1, St3.l2, Nat.le_trans St3.one k4, St3.g1, St3.g2, St3.q⟩⟩
  | succ q =>
    refine wpAny_passesOwn hp (PySem.wpAny_with_toks (Nat.le_refl _) (wpAny_mono (T.item X rfl rfl rfl hc j _ s3 σ3 H3 X.xe I3 (stat fr3) st3 (by show j < r; omega)) (fun rv s4 ⟨u, hr, h4⟩ k4 => ?_) (fun _ _ z _ => z)))
    subst hr
    refine wpAny_passesOwn hp (PySem.wpAny_with_toks (Nat.le_refl _) (wpAny_mono h4 (fun _ s5 ⟨x, H5, I5, r5, y5, st5, fr5⟩ k5 => ?_) (fun _ _ z _ => z)))
    obtain ⟨e5, ex⟩ := y5
    subst e5
    have ex : x = V.int (j : Nat) := by rw [ex, Int.zero_add]
    subst ex
    have I5' : L2.Inv X ((m, lobj us3 n3) :: (nn, lobj vs3 k3) :: (pins ++ pinsAt fp s5.heap)) σ3 H5 s5 := I5.pinned (stat fr5) (T.obj _ _ st5)
    refine wpAny_passesOwn hp (PySem.wpAny_with_toks (Nat.le_refl _) (wpAny_assign_Name (store_ok I5' nd hek lk r5 (fun s6 I6 k6 => ?_) hfk)))
    have ka : s3.toks ≤ s6.toks := Nat.le_trans k4 (Nat.le_trans k5 k6)
    have g1' : (σ3.set ik (some (V.int (j : Nat))))[im]? = some (some (.ref m)) := by rw [List.getElem?_set_ne nkm]; exact St3.g1
    have g2' : (σ3.set ik (some (V.int (j : Nat))))[ina]? = some (some (.ref nn)) := by rw [List.getElem?_set_ne nkn]; exact St3.g2
    obtain ⟨ro, sd, M, R, S, P⟩ := St3.q
    have l2 := St3.l2
    have hpm' : ∀ p ∈ pins ++ pinsAt fp s5.heap, p.1 ≠ m := fun p hp => (List.mem_append.mp hp).elim (hpm p) fun z => Ne.symm (ne1 _ (of_pinsAt z).1)
    have hpn' : ∀ p ∈ pins ++ pinsAt fp s5.heap, p.1 ≠ nn := fun p hp => (List.mem_append.mp hp).elim (hpn p) fun z => Ne.symm (ne2 _ (of_pinsAt z).1)
    refine wpAny_passesOwn hp (wpAny_execs_cons (wpAny_Expr_any (pick_one (kk := fun d w M1 => goN me ik kc q (j + 1) (ws3.eraseIdx d.toNat) (ns3 ++ [w]) (sd.set ik (some (.int (j : Nat)))) M1) om on hpm' hpn' hmn hem hen vm vn he I6 (r13.mono ka) (r23.mono ka) St3.l1 l2 g1' g2' R (S.set (i := ik) (d := .int (j : Nat)) (v := V.int (j : Nat)) rfl) P
      (fun d w us' vs' n' k' s7 H7 ro7 M7 k7 hw I7 r17 r27 R7 S7 P7 => ?_) hs1 hs2 hb1 hb2 hl1 hl2 hdm hcm hdn hcn) I3.quiet hse))
    have I8 : L2.Inv X ((m, lobj us' n') :: (nn, lobj vs' k') :: pins) (σ3.set ik (some (V.int (j : Nat)))) H7 s7 := I7.pins_of fun p hp => I7.pin p (List.mem_append_right _ (by
      rcases List.mem_cons.mp hp with rfl | hp
      · exact List.mem_cons_self
      · rcases List.mem_cons.mp hp with rfl | hp
        · exact List.mem_cons_of_mem _ List.mem_cons_self
        · exact List.mem_cons_of_mem _ (List.mem_cons_of_mem _ (List.mem_append_left _ hp))))
    have pinf : ∀ p ∈ pinsAt fp s5.heap, s7.heap.get? p.1 = some p.2 ∧ H7 p.1 = none := fun p hp => by
      have z := I7.pin p (List.mem_append_right _ (List.mem_cons_of_mem _ (List.mem_cons_of_mem _ (List.mem_append_right _ hp))))
      exact ⟨z.1, z.2.1⟩
    have lw : (ws3.eraseIdx d.toNat).length ≤ 100 := Nat.le_trans (List.length_eraseIdx_le ..) St3.l1
    refine wpAny_execs_nil ⟨q, Nat.lt_succ_self _, j + 1, _, H7, ws3.eraseIdx d.toNat, ns3 ++ [w], by omega, by rw [List.length_append, hns]; rfl, ⟨⟨us', n', vs', k', I8, r17, r27⟩, lw, by rw [List.length_append, hns]; show j + 1 ≤ 100; omega, Nat.le_trans St3.one (Nat.le_trans ka k7), g1', g2', ⟨ro7, _, M7, R7, S7, P7⟩⟩, T.keep _ _ _ st5 fun b hb o e => (pinf (b, o) (mem_pinsAt hb e)).1, fun b hb => ?_⟩
    obtain ⟨o, e, d⟩ := T.obj _ _ st5 b hb
    exact (pinf (b, o) (mem_pinsAt hb e)).2
end
end DL
namespace DL
open PySem PySem.Spec L2
open PyProof.Rows hiding St
variable [HashW]
/-- b tokens are out, the object at a is known, slot ina holds a -/
structure Gd (ina : Nat) (a : Addr) (ob : Obj) (b : Nat) (pins : List (Addr × Obj)) (s : Shared) (st : St) : Prop where
  one : 1 ≤ s.toks
  tok : b ≤ s.toks
  pin : (a, ob) ∈ pins
  slot : st[ina]? = some (some (V.ref a))
theorem Gd.mono {ina : Nat} {a : Addr} {ob : Obj} {b : Nat} {pins : List (Addr × Obj)} {s s' : Shared} {st : St} (g : Gd ina a ob b pins s st) (h : s.toks ≤ s'.toks) : Gd ina a ob b pins s' st := ⟨Nat.le_trans g.one h, Nat.le_trans g.tok h, g.pin, g.slot⟩
structure DEG (X : Cx) (W : WX) (ina : Nat) (a : Addr) (ob : Obj) (b : Nat) (e : Expr) (m : ME) : Prop where
  run : ∀ (pins : List (Addr × Obj)) (s : Shared) (st : St) (H : Hp) (Q : VK), Gd ina a ob b pins s st → Inv X pins st H s → liftE X.K X.mg W m st H Q → wpAny (model X.prog X.w) X.A (eval e X.env) (EP X pins st Q) X.xe s
structure DAG (X : Cx) (W : WX) (ina : Nat) (a : Addr) (ob : Obj) (b : Nat) (es : List Expr) (m : MA) : Prop where
  run : ∀ (pos : Pos) (pins : List (Addr × Obj)) (s : Shared) (st : St) (H : Hp) (Q : List V → Hp → Prop), Gd ina a ob b pins s st → Inv X pins st H s → liftA X.K X.mg W m st H Q → wpAny (model X.prog X.w) X.A (spliced (backTo pos (starEach es X.env))) (AP X pins st Q) X.xe s
structure DSsG (X : Cx) (W : WX) (ina : Nat) (a : Addr) (ob : Obj) (b : Nat) (ss : List Stmt) (m : MST) : Prop where
  run : ∀ (pins : List (Addr × Obj)) (s : Shared) (st : St) (H : Hp) (D : Ends), Gd ina a ob b pins s st → Inv X pins st H s → liftS X.K X.mg W m D st H → wpAny (model X.prog X.w) X.A (execs ss X.env) (SP X pins D) X.xe s
section
variable {X : Cx} {W : WX} {ina : Nat} {a : Addr} {ob : Obj} {b : Nat} {e : Expr} {es : List Expr} {m me : ME} {ms ma : MA} {pos : Pos}
theorem deg_of (h : DE X W e m) : DEG X W ina a ob b e m := ⟨fun pins s st H Q _ I q => h.pe.run pins s st H Q I q⟩
theorem dag_nil : DAG X W ina a ob b [] nilA := ⟨fun pos pins s st H Q _ I q => da_nil.pa.run pos pins s st H Q I q⟩
theorem dag_cons (ha : DEG X W ina a ob b e me) (hr : DAG X W ina a ob b es ms) (hs : starEach (e :: es) X.env = (false, eval e X.env) :: starEach es X.env := by rfl) : DAG X W ina a ob b (e :: es) (consA me ms) := by
  refine ⟨fun pos pins s st H Q g I q => ?_⟩
  obtain ⟨ro, sd, M, R, S, P⟩ := q
  have P : PostA X.K X.mg (fun c d H' => W c d st H') ro H Q (consA me ms sd M) := P
  rw [hs]
  show wpAny _ _ (spliced ((false, eval e X.env) :: backTo pos (starEach es X.env))) _ _ s
  refine Calls.spliced_cons (PySem.wpAny_with_toks (Nat.le_refl _) (wpAny_mono (ha.run pins s st H _ g I ⟨ro, sd, M, R, S, Post.bind P⟩) (fun v s1 ⟨y, H1, I1, r1, ro1, M1, d, R1, P1, rd, q1⟩ kt => ?_) (fun _ _ z _ => z)))
  refine thn (hr.run pos pins s1 st H1 _ (g.mono kt) I1 ⟨ro1, sd, M1, R1, S.mono P1, Post.bind q1⟩) fun us s2 ⟨xs, H2, I2, r2, ro2, M2, ds, R2, P2, rs, q2⟩ => ?_
  exact ⟨y :: xs, H2, I2, .cons r1 r2, (show PostA X.K X.mg (fun c d H' => W c d st H') ro2 H2 Q (.ok (d :: ds) M2) from q2) ro2 H2 _ R2 (Pres.refl _ _) ⟨y, xs, rfl, Rep.mono P2 d y rd, rs⟩⟩
theorem deg_lst (h : DAG X W ina a ob b es ms) : DEG X W ina a ob b (.List es pos) (lstE ms) := by
  refine ⟨fun pins s st H Q g I q => ?_⟩
  obtain ⟨ro, sd, M, R, S, P⟩ := q
  refine wpAny_List_spliced (thn (h.run pos pins s st H _ g I ⟨ro, sd, M, R, S, Post.bind P⟩) fun us s1 ⟨xs, H1, I1, r, ro1, M1, ds, R1, P1, r1, q1⟩ => ?_)
  split at q1
  · rename_i hl
    have z : xs.length ≤ sizeLine := by rw [← r1.len]; exact line_le hl
    refine ⟨by rw [← r.length]; exact z, ?_⟩
    have hf : H1 s1.heap.objs.size = none := I1.hok.fresh (Nat.le_refl _)
    refine ⟨.ref s1.heap.objs.size, upd H1 s1.heap.objs.size (.lst xs), I1.laid (t' := s1.toks) (fun b u e => Heap.get?_push_of_some _ e) (Nat.le_refl _) ?_, rfl, PostD.newL R1 r1 q1 _ hf⟩
    exact ⟨z, us, 0, r, Heap.get?_push_size _ rfl⟩
  · exact q1.elim
theorem deg_mk {k : Nat} {f : Addr} {fd : FuncData} {ps : List Str} {F : FM} {p : Pos} {dfl : List D} {C : String} {c : Addr} {fs : List String} {G : FM} (hG : MkAs X C F G) (ci : CInfo X.K X.mg C c fs) (Mk' : Mk X.K c f) (hF : DOk X.prog X.w X.K X.mg X.base k f fd ps F) (hr : Room (k + 1) X.A) (tk : Takes X W) (hg : Gl X (Str.ofString C)) (hd : Dfl X fd ps 0 dfl) (ha : DAG X W ina a ob b (e :: es) ma)
    (hps : 0 < ps.length := by decide) (hdb : (Str.ofString C == ("__debug__" : Str)) = false := by decide) (he : starEach (e :: es) X.env = (false, eval e X.env) :: starEach es X.env := by rfl) (hpl : (backTo pos (starEach es X.env)).any (·.1) = false := by rfl) :
    DEG X W ina a ob b (.Call (.Name (Str.ofString C) p) (e :: es) [] pos) (callE (ps.length - 1) G (· ++ dfl) ma) := by
  obtain ⟨dvs, dV, hb, hv, hdf⟩ := hd.ex
  refine ⟨fun pins s st H Q g I q => ?_⟩
  obtain ⟨ro, sd, M, R, S, P⟩ := q
  refine wpAny_Call_Name_kw (ld_glob I hg ci.mgC ?_ hdb)
  refine PySem.W.callWith_K (h₀ := X.base) I.ok.mod.kin Mk'.kp (thn (ha.run pos pins s st H _ g I ⟨ro, sd, M, R, S, Post.bind P⟩) fun us s1 ⟨vs, H1, I1, r, ro1, M1, ds, R1, P1, r1, q1⟩ => ⟨I1.kIn, ?_⟩) he hpl
  dsimp only at q1
  split at q1
  · rename_i hl
    have r2 := r.append hv
    have rs := r1.append (hdf ro1 H1)
    refine run_mk ci Mk' hF hr tk (fun self => ?_) I1 r2 R1 rs (by omega) rfl (hG _ _ _ _ _ _ R1 q1)
    have h3 := hb { s1 with heap := (s1.heap.push PySem.W.emptyDict).push (PySem.W.instObj c s1.heap.objs.size) } (self :: us) ((Inv.made (C := c) I1).kIn) (by
      rw [List.cons_append, List.length_cons, ← r2.length, ← rs.len]; omega)
    rw [List.cons_append] at h3
    exact h3
  · exact q1.elim
/-- a, b, .. = e, then the rest, the slot's list still known -/
theorem dssg_unp {tg : Expr} {g : MG} {ix : List Nat} {rest : List Stmt} {sb : MST} (he : DEG X W ina a ob b e m) (hg : DG X tg g ix) (hr : DSsG X W ina a ob b rest sb) (hin : ina ∉ ix) (hs : swapsWithSole [tg] e pos.line X.env = pure false := by rfl) (hw : swappedStores [tg] e X.env = pure none := by rfl)
    (h1 : (assignEach [tg] X.env).map (·.2) = [assign tg X.env] := by rfl) : DSsG X W ina a ob b (.Assign [tg] e pos :: rest) (seqS (unpS g m) sb) := by
  refine ⟨fun pins s st H D0 gd I q => ?_⟩
  obtain ⟨ro, sd, M, R, S, P⟩ := q
  have P1 := PostS.seq (x := unpS g m sd M) (k := sb) P
  refine wpAny_execs_cons (wpAny_Assign_stores (PySem.wpAny_with_toks (Nat.le_refl _) (wpAny_mono (he.run pins s st H _ gd I ⟨ro, sd, M, R, S, PostS.ofE P1 S⟩) (fun v s1 ⟨x, H1, I1, r1, ro1, M1, d, R1, P1', rd, q1⟩ kt => ?_) (fun _ _ z _ => z))) hs hw)
  rw [h1]
  split at q1
  · rename_i sd' e
    refine PySem.wpAny_with_toks (Nat.le_refl _) (wpAny_mono (hg.pg.run pins s1 st H1 x v (fun st' H' => H' = H1 ∧ RepSt X.K X.mg ro1 H1 sd' st' ∧ st'[ina]? = some (some (V.ref a))) I1 r1 ⟨ro1, sd, M1, d, R1, S.mono P1', rd, sd', e, fun st' S' hw => ⟨rfl, S', ?_⟩⟩) (fun _ s2 ⟨st2, H2, I2, e2, S2, g2⟩ k2 => ?_) (fun _ _ z _ => z))
    · have h := hw ix (fun _ z => z)
      have e1 := wipe_get st' ix ina
      have e2 := wipe_get st ix ina
      rw [if_neg (fun z => hin z.1)] at e1 e2
      rw [← e1, h, e2]
      exact gd.slot
    · subst e2
      obtain ⟨ro3, sd3, M3, R3, S3, P3, q3⟩ := q1 ro1 H2 st2 R1 (Pres.refl _ _) S2
      exact hr.run pins s2 st2 H2 D0 ⟨Nat.le_trans gd.one (Nat.le_trans kt k2), Nat.le_trans gd.tok (Nat.le_trans kt k2), gd.pin, g2⟩ I2 ⟨ro3, sd3, M3, R3, S3, q3⟩
  · exact q1.elim
/-- name = e, then the rest -/
theorem dssg_set {i : Nat} {x : Str} {pos' : Pos} {rest : List Stmt} {sb : MST} (he : DEG X W ina a ob b e m) (hr : DSs X W rest sb) (hN : X.N.Nodup) (hi : X.N[i]? = some x := by rfl) (hx : Loc X.env.scope x := by first | exact Or.inl rfl | exact Or.inr rfl) (hs : swapsWith e (some (.Name x pos')) pos.line X.env = pure false := by rfl)
    (hf : X.fn x = true ∨ X.env.scope.names.lookup x = some .local := by first | exact .inl rfl | exact .inr rfl | assumption) : DSsG X W ina a ob b (.Assign [.Name x pos'] e pos :: rest) (seqS (setS i m) sb) := by
  refine ⟨fun pins s st H D0 gd I q => ?_⟩
  obtain ⟨ro, sd, M, R, S, P⟩ := q
  have P1 := PostS.seq (x := setS i m sd M) (k := sb) P
  refine wpAny_execs_cons (wpAny_Assign_Name (thn (he.run pins s st H _ gd I ⟨ro, sd, M, R, S, PostS.ofE P1 S⟩) fun v s1 ⟨y, H1, I1, r1, ro1, M1, d, R1, P1', rd, q1⟩ => ?_) hs)
  refine store_ok I1 hN hi hx r1 (fun s2 I2 => ?_) hf
  obtain ⟨ro3, sd3, M3, R3, S3, P3, q3⟩ := q1 ro1 H1 _ R1 (Pres.refl _ _) ((S.mono P1').set rd)
  exact hr.ps.run pins s2 _ H1 D0 I2 ⟨ro3, sd3, M3, R3, S3, q3⟩
def RwR (a : Addr) (ob : Obj) (w0 w1 w2 : List Nat) (outer : List Env) (s : Shared) (H : Hp) (_ : List V) : Prop := s.heap.get? a = some ob ∧ H a = none ∧ a ∉ frs outer ∧ Raw3 ob (tx w0) (tx w1) (tx w2) s.toks
def spR (a : Addr) (w0 w1 w2 : List Nat) : Sp := fun vs H Q _ => ∃ x : List Nat, vs = [.str (tx x), .ref a] ∧ x.length ≤ 100 ∧ Q (.str (ren2 (ren1 (tx x)) (tx w0) (tx w1) (tx w2))) H
/-- f(x, names) -/
def renE (i : Nat) (w0 w1 w2 : List Nat) : ME := fun sd M => match sd[i]? with
  | some (some (.str x)) => if x.length ≤ 100 then .ok (.str (ren2 (ren1 (tx x)) (tx w0) (tx w1) (tx w2)).cps.toList) M else .stuck
  | _ => .stuck
theorem deg_ren {k i : Nat} {f : Addr} {fd : FuncData} {ps : List Str} {w0 w1 w2 : List Nat} {x y z : Str} {p p1 p2 : Pos} (hF : FnOkR X.prog X.w X.K X.mg X.base (L2.CX X.prog X.w) k f fd ps (RwR a ob w0 w1 w2) (spR a w0 w1 w2)) (hr : Room k X.A) (tk : Takes X W) (hg : Gl X x) (hm : X.mg x = some (.ref f)) (hk : PySem.W.keepIn X.K (.ref f) = true) (hd : Dfl X fd ps 0 [])
    (r3 : Raw3 ob (tx w0) (tx w1) (tx w2) b) (hps : ps.length = 2) (hi : X.N[i]? = some y := by rfl) (hj : X.N[ina]? = some z := by rfl)
    (vy : Vis X.env.scope y := by first | exact Or.inl rfl | exact Or.inr (Or.inl rfl) | exact Or.inr (Or.inr rfl)) (vz : Vis X.env.scope z := by first | exact Or.inl rfl | exact Or.inr (Or.inl rfl) | exact Or.inr (Or.inr rfl))
    (hdb : (x == ("__debug__" : Str)) = false := by decide) (dy : (y == ("__debug__" : Str)) = false := by decide) (cy : (y == ("__classdict__" : Str)) = false := by decide) (dz : (z == ("__debug__" : Str)) = false := by decide) (cz : (z == ("__classdict__" : Str)) = false := by decide)
    (he : starEach [.Name y p1, .Name z p2] X.env = (false, eval (.Name y p1) X.env) :: starEach [.Name z p2] X.env := by rfl) (he2 : starEach [.Name z p2] X.env = [(false, eval (.Name z p2) X.env)] := by rfl) :
    DEG X W ina a ob b (.Call (.Name x p) [.Name y p1, .Name z p2] [] pos) (renE i w0 w1 w2) := by
  obtain ⟨dvs, dV, hb, hv, hdf⟩ := hd.ex
  cases (show dvs = [] from hdf ⟨[], []⟩ (fun _ => none))
  cases hv
  refine ⟨fun pins s st H Q g I q => ?_⟩
  obtain ⟨ro, sd, M, R, S, P⟩ := q
  have P : PostD X.K X.mg (fun c d H' => W c d st H') ro H Q (renE i w0 w1 w2 sd M) := P
  unfold renE at P
  split at P
  rotate_left
  · exact P.elim
  rename_i t ht
  split at P
  rotate_left
  · exact P.elim
  rename_i hl
  obtain ⟨v, hv, rv⟩ := S.2 i _ ht
  cases (show v = V.str (tx t) from rv)
  refine wpAny_Call_Name_kw (ld_glob I hg hm ?_ hdb)
  refine PySem.W.callWith_K (h₀ := X.base) I.ok.mod.kin hk ?_ he (by rw [he2]; rfl)
  rw [he]
  show wpAny _ _ (spliced ((false, eval (.Name y p1) X.env) :: backTo pos (starEach [.Name z p2] X.env))) _ _ s
  refine Calls.spliced_cons (raw_name hi vy I hv (fun u ru => ?_) dy cy)
  rw [he2]
  show wpAny _ _ (spliced [(false, eval (.Name z p2) X.env)]) _ _ s
  refine Calls.spliced_cons (raw_name hj vz I g.slot (fun u2 ru2 => ?_) dz cz)
  refine Calls.spliced_nil ⟨I.kIn, ?_⟩
  obtain ⟨pe, pn, pl, pf, pd⟩ := I.pin (a, ob) (List.mem_append_right _ g.pin)
  have rw3 : RwR a ob w0 w1 w2 X.stack s H [.str (tx t), .ref a] := by
    refine ⟨pe, pn, fun z => ?_, r3.cls, ?_, r3.l⟩
    · rcases List.mem_cons.mp (I.stkSub a z) with z | z
      · exact pl z
      · exact pf z
    · obtain ⟨t0, t1, t2, n, hd, ⟨z0, b0⟩, ⟨z1, b1⟩, ⟨z2, b2⟩⟩ := r3.dat
      exact ⟨t0, t1, t2, n, hd, ⟨z0, Nat.lt_of_lt_of_le b0 g.tok⟩, ⟨z1, Nat.lt_of_lt_of_le b1 g.tok⟩, ⟨z2, Nat.lt_of_lt_of_le b2 g.tok⟩⟩
  have hb2 := hb s [u, u2] I.kIn (by rw [hps]; rfl)
  refine wpAny_call (codeAny_mono (hF.run X.A X.stack s H ⟨[u, u2], []⟩ [u, u2] [.str (tx t), .ref a] Q (WE W st) hr I.env0 hb2 (.cons ru (.cons ru2 .nil)) rw3 ⟨t, rfl, hl, ?_⟩) fun r s' hq => ?_)
  · exact (show PostD X.K X.mg (fun c d H' => W c d st H') ro H Q (.ok (.str (ren2 (ren1 (tx t)) (tx w0) (tx w1) (tx w2)).cps.toList) M) from P) ro H _ R (Pres.refl _ _) (by show _ = V.str (tx _); simp [tx])
  · cases r with
    | error e => exact passAt tk st pins H s e s' I hq
    | ok fl =>
      cases fl with
      | ret u => exact I.after hq
      | next => exact False.elim hq
      | brk => exact False.elim hq
      | cont => exact False.elim hq
end
/-- its promise -/
theorem renR_ok {P : Program} {w : World} {K : PySem.W.Frag} {mg : Str → Option Value} {base : Heap} {x qual : Str} {st : Stmt} {dvs : List V} {kws : List (Str × V)} {f : Addr} {fd : FuncData} {N ps : List Str} {k : Nat} {a : Addr} {ob : Obj} {w0 w1 w2 : List Nat} (Fn : FnP K x qual st dvs kws f fd) (S : FnScope N ps (defScope st)) (hnc : ∀ y ∈ (defScope st).names, y.2 ≠ .cell) (hps : ps.length = 2) (hN : 2 ≤ N.length)
    (hbody : ∀ (cdv : Value) (A : Around) (outer : List Env) (s : Shared) (H : Hp) (E : XK), s.heap.get? a = some ob → H a = none → a ∉ frs outer → Raw3 ob (tx w0) (tx w1) (tx w2) s.toks →
      PSsB (cxOf (L2.CX P w) P w K mg base N qual (defScope st) f cdv A outer s H E) s.toks (defBody st) (tRen a (tx w0) (tx w1) (tx w2))) : FnOkR P w K mg base (L2.CX P w) (k + 1) f fd ps (RwR a ob w0 w1 w2) (spR a w0 w1 w2) := by
  obtain ⟨⟨oc, od, dV, kV, doc, pm, an, cdv, ct, osl, rfl, lk, cd, _, _⟩, kp⟩ := Fn
  refine fn_ofR lk cd S hnc (by omega) (fun vs H Q E h => by obtain ⟨x, rfl, _⟩ := h; rw [hps]; rfl) fun A outer s H vs Q E hr h1 h2 => ?_
  obtain ⟨e, n, nf, r3⟩ := h1
  obtain ⟨x, rfl, hx, q⟩ := h2
  refine ⟨_, hbody cdv A outer s H E e n nf r3, tx x, ?_, ?_, by simpa [Str.length] using hx, q⟩
  · show (start N [V.str (tx x), V.ref a])[0]? = _
    rfl
  · rfl
end DL
namespace DL
open PySem PySem.Spec L2
open PyProof.Rows hiding St
variable [HashW]
theorem RawI.three {b : Nat} {w0 w1 w2 : List Nat} {us : List Value} (h : RawI b [w0, w1, w2] us) : ∃ (t0 t1 t2 : Tok), us = [.str (tx w0) t0, .str (tx w1) t1, .str (tx w2) t2] ∧ (t0 ≠ 0 ∧ @LT.lt Nat _ t0 b) ∧ (t1 ≠ 0 ∧ @LT.lt Nat _ t1 b) ∧ (t2 ≠ 0 ∧ @LT.lt Nat _ t2 b) := by
  cases h with
  | cons a1 b1 h => cases h with
    | cons a2 b2 h => cases h with
      | cons a3 b3 h => cases h; exact ⟨_, _, _, rfl, ⟨a1, b1⟩, ⟨a2, b2⟩, ⟨a3, b3⟩⟩
/-- three short names that are none of the capitals -/
def okN (w0 w1 w2 : List Nat) : Bool := decide (w0.length ≤ 10 ∧ w1.length ≤ 10 ∧ w2.length ≤ 10) && !(("X" : Str) == tx w0) && !(("Y" : Str) == tx w1) && !(("T" : Str) == tx w2)
def endK (kr : List Nat → List Nat → List Nat → MST) : List (List Nat) → MST
  | [w0, w1, w2] => if okN w0 w1 w2 = true then kr w0 w1 w2 else stuckS
  | _ => stuckS
/-- the mirror -/
def namedS (im ina ik : Nat) (ws : List (List Nat)) (me : ME) (kr : List Nat → List Nat → List Nat → MST) : MST := fun sd M => goN me ik (endK kr) 3 0 ws [] ((sd.set im none).set ina none) M
theorem endK_no {kr : List Nat → List Nat → List Nat → MST} {ns : List (List Nat)} {sd : SD} {M : MS} (h : ∀ w0 w1 w2, ns = [w0, w1, w2] → okN w0 w1 w2 = true → False) : endK kr ns sd M = .stuck := by
  unfold endK
  split
  · rename_i w0 w1 w2
    split
    · rename_i k; exact (h _ _ _ rfl k).elim
    · rfl
  · rfl
theorem okN_raw {w0 w1 w2 : List Nat} {b n : Nat} {us : List Value} (h : okN w0 w1 w2 = true) (r : RawI b [w0, w1, w2] us) : Raw3 (lobj us n) (tx w0) (tx w1) (tx w2) b := by
  obtain ⟨t0, t1, t2, rfl, z0, z1, z2⟩ := r.three
  unfold okN at h
  simp only [Bool.and_eq_true, decide_eq_true_eq, Bool.not_eq_true'] at h
  obtain ⟨⟨⟨l, n0⟩, n1⟩, n2⟩ := h
  exact ⟨rfl, ⟨t0, t1, t2, n, rfl, z0, z1, z2⟩, by simpa [Str.length] using l, n0, n1, n2⟩
section
variable {X : Cx} {W : WX}
theorem sp_drop {pins : List (Addr × Obj)} {p q : Addr × Obj} {D : Ends} {f : Flow} {s : Shared} (h : SP X (p :: q :: pins) D f s) : SP X pins D f s := by
  have k : ∀ {σ : St} {H : Hp}, Inv X (p :: q :: pins) σ H s → Inv X pins σ H s := fun I => I.pins_of fun z hz => I.pin z (List.mem_append_right _ (List.mem_cons_of_mem _ (List.mem_cons_of_mem _ hz)))
  cases f with
  | next => obtain ⟨σ', H', I, q⟩ := h; exact ⟨σ', H', k I, q⟩
  | brk => obtain ⟨σ', H', I, q⟩ := h; exact ⟨σ', H', k I, q⟩
  | cont => obtain ⟨σ', H', I, q⟩ := h; exact ⟨σ', H', k I, q⟩
  | ret v => obtain ⟨x, σ', H', I, r, q⟩ := h; exact ⟨x, σ', H', k I, r, q⟩
theorem dsst_named {im ina ik : Nat} {xm xn xk : Str} {ed : Expr} {me : ME} {a0 a1 a2 a3 a4 a5 : String} {j0 j1 j2 j3 j4 j5 jr : Nat} {c0 c1 c2 c3 c4 c5 lp lp2 pm pn ap1 ap2 e1 e2 g1 g2 p1 p2 pk pr pr2 ep cr pos : Pos} {rest : List Stmt} {kr : List Nat → List Nat → List Nat → MST} (cx : Ctx X W) (he : DE X W ed me)
    (hrest : ∀ (a : Addr) (ob : Obj) (b : Nat) (w0 w1 w2 : List Nat), Raw3 ob (tx w0) (tx w1) (tx w2) b → DSsG X W ina a ob b rest (kr w0 w1 w2))
    (nd : X.N.Nodup) (hg : Gl X "range") (hmr : X.mg "range" = none) (nmn : im ≠ ina) (nkm : ik ≠ im) (nkn : ik ≠ ina)
    (hem : X.N[im]? = some xm := by rfl) (hen : X.N[ina]? = some xn := by rfl) (hek : X.N[ik]? = some xk := by rfl)
    (lm : Loc X.env.scope xm := by first | exact Or.inl rfl | exact Or.inr rfl) (ln : Loc X.env.scope xn := by first | exact Or.inl rfl | exact Or.inr rfl) (lk : Loc X.env.scope xk := by first | exact Or.inl rfl | exact Or.inr rfl)
    (vm : Vis X.env.scope xm := by first | exact Or.inl rfl | exact Or.inr (Or.inl rfl) | exact Or.inr (Or.inr rfl)) (vn : Vis X.env.scope xn := by first | exact Or.inl rfl | exact Or.inr (Or.inl rfl) | exact Or.inr (Or.inr rfl))
    (hfm : X.fn xm = true ∨ X.env.scope.names.lookup xm = some .local := by first | exact .inl rfl | exact .inr rfl | assumption) (hfn : X.fn xn = true ∨ X.env.scope.names.lookup xn = some .local := by first | exact .inl rfl | exact .inr rfl | assumption) (hfk : X.fn xk = true ∨ X.env.scope.names.lookup xk = some .local := by first | exact .inl rfl | exact .inr rfl | assumption)
    (hdm : (xm == ("__debug__" : Str)) = false := by decide) (hcm : (xm == ("__classdict__" : Str)) = false := by decide) (hdn : (xn == ("__debug__" : Str)) = false := by decide) (hcn : (xn == ("__classdict__" : Str)) = false := by decide)
    (hst : starEach [.Constant (.str (Str.ofString a0)) j0 c0, .Constant (.str (Str.ofString a1)) j1 c1, .Constant (.str (Str.ofString a2)) j2 c2, .Constant (.str (Str.ofString a3)) j3 c3, .Constant (.str (Str.ofString a4)) j4 c4, .Constant (.str (Str.ofString a5)) j5 c5] X.env = [(false, eval (.Constant (.str (Str.ofString a0)) j0 c0) X.env), (false, eval (.Constant (.str (Str.ofString a1)) j1 c1) X.env), (false, eval (.Constant (.str (Str.ofString a2)) j2 c2) X.env), (false, eval (.Constant (.str (Str.ofString a3)) j3 c3) X.env), (false, eval (.Constant (.str (Str.ofString a4)) j4 c4) X.env), (false, eval (.Constant (.str (Str.ofString a5)) j5 c5) X.env)] := by rfl)
    (hst0 : starEach [] X.env = [] := by rfl)
    (hw1 : swapsWith (.List [.Constant (.str (Str.ofString a0)) j0 c0, .Constant (.str (Str.ofString a1)) j1 c1, .Constant (.str (Str.ofString a2)) j2 c2, .Constant (.str (Str.ofString a3)) j3 c3, .Constant (.str (Str.ofString a4)) j4 c4, .Constant (.str (Str.ofString a5)) j5 c5] lp) (some (.Name xm pm)) ap1.line X.env = pure false := by rfl)
    (hw2 : swapsWith (.List [] lp2) (some (.Name xn pn)) ap2.line X.env = pure false := by rfl)
    (hs1 : starEach [.Call (.Attribute (.Name xm p2) "pop" g2) [ed] [] e2] X.env = [(false, eval (.Call (.Attribute (.Name xm p2) "pop" g2) [ed] [] e2) X.env)] := by rfl) (hs2 : starEach [ed] X.env = [(false, eval ed X.env)] := by rfl)
    (hb1 : attributeBase (.Name xn p1) "append" X.env (eval (.Name xn p1) X.env) = eval (.Name xn p1) X.env := by rfl) (hb2 : attributeBase (.Name xm p2) "pop" X.env (eval (.Name xm p2) X.env) = eval (.Name xm p2) X.env := by rfl)
    (hl1 : (g1.endLine == e1.line) = true := by rfl) (hl2 : (g2.endLine == e2.line) = true := by rfl)
    (hsr : starEach [.Constant (.int (3 : Nat)) jr cr] X.env = [(false, eval (.Constant (.int (3 : Nat)) jr cr) X.env)] := by rfl) (hse : swapsWith (.Call (.Attribute (.Name xn p1) "append" g1) [.Call (.Attribute (.Name xm p2) "pop" g2) [ed] [] e2] [] e1) none ep.line X.env = pure false := by rfl)
    (hsf : ∀ x, foldedSetIterable (.Call (.Name "range" pr) [.Constant (.int (3 : Nat)) jr cr] [] pr2) X.env x = pure x := by intro _; rfl) :
    DSsT X W (.Assign [.Name xm pm] (.List [.Constant (.str (Str.ofString a0)) j0 c0, .Constant (.str (Str.ofString a1)) j1 c1, .Constant (.str (Str.ofString a2)) j2 c2, .Constant (.str (Str.ofString a3)) j3 c3, .Constant (.str (Str.ofString a4)) j4 c4, .Constant (.str (Str.ofString a5)) j5 c5] lp) ap1 ::
      .Assign [.Name xn pn] (.List [] lp2) ap2 ::
      .For (.Name xk pk) (.Call (.Name "range" pr) [.Constant (.int (3 : Nat)) jr cr] [] pr2) [.Expr (.Call (.Attribute (.Name xn p1) "append" g1) [.Call (.Attribute (.Name xm p2) "pop" g2) [ed] [] e2] [] e1) ep] [] pos :: rest)
      (namedS im ina ik [sL a0, sL a1, sL a2, sL a3, sL a4, sL a5] me kr) := by
  refine ⟨fun pins s st H D0 h0 I q => ?_⟩
  obtain ⟨ro, sd, M, R, S, P⟩ := q
  have h0 : (1 : Nat) ≤ s.toks := h0
  have ilm : im < st.length := by rw [I.len]; exact (List.getElem?_eq_some_iff.mp hem).1
  have iln : ina < st.length := by rw [I.len]; exact (List.getElem?_eq_some_iff.mp hen).1
  -- the menu
  refine wpAny_execs_cons (wpAny_Assign_Name (wpAny_List_spliced ?_) hw1)
  rw [hst]
  show wpAny _ _ (spliced [(false, eval (.Constant (.str (Str.ofString a0)) j0 c0) X.env), (false, eval (.Constant (.str (Str.ofString a1)) j1 c1) X.env), (false, eval (.Constant (.str (Str.ofString a2)) j2 c2) X.env), (false, eval (.Constant (.str (Str.ofString a3)) j3 c3) X.env), (false, eval (.Constant (.str (Str.ofString a4)) j4 c4) X.env), (false, eval (.Constant (.str (Str.ofString a5)) j5 c5) X.env)]) _ _ s
  refine Calls.spliced_cons (Calls.Constant_str ?_)
  refine Calls.spliced_cons (Calls.Constant_str ?_)
  refine Calls.spliced_cons (Calls.Constant_str ?_)
  refine Calls.spliced_cons (Calls.Constant_str ?_)
  refine Calls.spliced_cons (Calls.Constant_str ?_)
  refine Calls.spliced_cons (Calls.Constant_str ?_)
  refine Calls.spliced_nil ?_
  refine ⟨by show (6 : Nat) ≤ sizeLine; decide, ?_⟩
  have em : ∃ m, m = s.heap.objs.size := ⟨_, rfl⟩
  obtain ⟨m, em⟩ := em
  have I1 : Inv X ((m, lobj [.str (Str.ofString a0) s.toks, .str (Str.ofString a1) (s.toks + 1), .str (Str.ofString a2) (s.toks + 1 + 1), .str (Str.ofString a3) (s.toks + 1 + 1 + 1), .str (Str.ofString a4) (s.toks + 1 + 1 + 1 + 1), .str (Str.ofString a5) (s.toks + 1 + 1 + 1 + 1 + 1)] 0) :: pins) st H
      { s with heap := s.heap.push (lobj [.str (Str.ofString a0) s.toks, .str (Str.ofString a1) (s.toks + 1), .str (Str.ofString a2) (s.toks + 1 + 1), .str (Str.ofString a3) (s.toks + 1 + 1 + 1), .str (Str.ofString a4) (s.toks + 1 + 1 + 1 + 1), .str (Str.ofString a5) (s.toks + 1 + 1 + 1 + 1 + 1)] 0), toks := s.toks + 1 + 1 + 1 + 1 + 1 + 1 } := by
    have f := I.fpOk (b := m) (H' := H) (by rw [em]; exact Nat.le_refl _) (I.hok.fresh (by rw [em]; exact Nat.le_refl _))
    have J : Inv X pins st H { s with heap := s.heap.push (lobj [.str (Str.ofString a0) s.toks, .str (Str.ofString a1) (s.toks + 1), .str (Str.ofString a2) (s.toks + 1 + 1), .str (Str.ofString a3) (s.toks + 1 + 1 + 1), .str (Str.ofString a4) (s.toks + 1 + 1 + 1 + 1), .str (Str.ofString a5) (s.toks + 1 + 1 + 1 + 1 + 1)] 0), toks := s.toks + 1 + 1 + 1 + 1 + 1 + 1 } := I.kept fun b o e => Heap.get?_push_of_some _ e
    refine J.pins_of fun p hp => ?_
    rcases List.mem_cons.mp hp with rfl | hp
    · exact ⟨by rw [em]; exact Heap.get?_push_size _ rfl, f.1, f.2.1, f.2.2.1, fun v z => by cases z⟩
    · exact J.pin p (List.mem_append_right _ hp)
  have fm := I.fpOk (b := m) (H' := H) (by rw [em]; exact Nat.le_refl _) (I.hok.fresh (by rw [em]; exact Nat.le_refl _))
  have om : OwnA X m := ⟨fm.2.2.2.1, fm.2.2.2.2.1, fun p hp => fm.2.2.2.2.2 p (List.mem_append_left _ hp)⟩
  have hpm : ∀ p ∈ pins, p.1 ≠ m := fun p hp => fm.2.2.2.2.2 p (List.mem_append_right _ hp)
  have tsz : (tx (sL a0)) = Str.ofString a0 ∧ (tx (sL a1)) = Str.ofString a1 ∧ (tx (sL a2)) = Str.ofString a2 ∧ (tx (sL a3)) = Str.ofString a3 ∧ (tx (sL a4)) = Str.ofString a4 ∧ (tx (sL a5)) = Str.ofString a5 := ⟨tx_sL .., tx_sL .., tx_sL .., tx_sL .., tx_sL .., tx_sL ..⟩
  have raw : RawI (s.toks + 1 + 1 + 1 + 1 + 1 + 1) [sL a0, sL a1, sL a2, sL a3, sL a4, sL a5] [.str (Str.ofString a0) s.toks, .str (Str.ofString a1) (s.toks + 1), .str (Str.ofString a2) (s.toks + 1 + 1), .str (Str.ofString a3) (s.toks + 1 + 1 + 1), .str (Str.ofString a4) (s.toks + 1 + 1 + 1 + 1), .str (Str.ofString a5) (s.toks + 1 + 1 + 1 + 1 + 1)] := by
    obtain ⟨h0', h1', h2', h3', h4', h5'⟩ := tsz
    rw [← h0', ← h1', ← h2', ← h3', ← h4', ← h5']
    exact .cons (Nat.ne_of_gt h0) (show (s.toks : Nat) < s.toks + 6 by omega) (.cons (Nat.succ_ne_zero _) (show (s.toks + 1 : Nat) < s.toks + 6 by omega) (.cons (Nat.succ_ne_zero _) (show (s.toks + 1 + 1 : Nat) < s.toks + 6 by omega) (.cons (Nat.succ_ne_zero _) (show (s.toks + 1 + 1 + 1 : Nat) < s.toks + 6 by omega) (.cons (Nat.succ_ne_zero _) (show (s.toks + 1 + 1 + 1 + 1 : Nat) < s.toks + 6 by omega) (.cons (Nat.succ_ne_zero _) (show (s.toks + 1 + 1 + 1 + 1 + 1 : Nat) < s.toks + 6 by omega) .nil)))))
  show wpAny (model X.prog X.w) X.A (storeName X.env xm (.ref s.heap.objs.size)) _ _ ({ s with heap := s.heap.push (lobj [.str (Str.ofString a0) s.toks, .str (Str.ofString a1) (s.toks + 1), .str (Str.ofString a2) (s.toks + 1 + 1), .str (Str.ofString a3) (s.toks + 1 + 1 + 1), .str (Str.ofString a4) (s.toks + 1 + 1 + 1 + 1), .str (Str.ofString a5) (s.toks + 1 + 1 + 1 + 1 + 1)] 0), toks := s.toks + 1 + 1 + 1 + 1 + 1 + 1 } : Shared)
  rw [← em]
  refine PySem.wpAny_with_toks (n := s.toks + 1 + 1 + 1 + 1 + 1 + 1) (Nat.le_refl _) (store_ok I1 nd hem lm (v := V.ref m) rfl (fun s2 I2 k2 => ?_) hfm)
  have raw2 := raw.mono k2
  generalize ([.str (Str.ofString a0) s.toks, .str (Str.ofString a1) (s.toks + 1), .str (Str.ofString a2) (s.toks + 1 + 1), .str (Str.ofString a3) (s.toks + 1 + 1 + 1), .str (Str.ofString a4) (s.toks + 1 + 1 + 1 + 1), .str (Str.ofString a5) (s.toks + 1 + 1 + 1 + 1 + 1)] : List Value) = us at I2 raw2
  have k2' : s.toks ≤ s2.toks := Nat.le_trans (show (s.toks : Nat) ≤ s.toks + 6 by omega) k2
  clear raw I1
  -- the names
  refine wpAny_execs_cons (wpAny_Assign_Name (wpAny_List_spliced ?_) hw2)
  rw [hst0]
  refine Calls.spliced_nil ⟨Nat.zero_le _, ?_⟩
  have en : ∃ nn, nn = s2.heap.objs.size := ⟨_, rfl⟩
  obtain ⟨nn, en⟩ := en
  have fn := I2.fpOk (b := nn) (H' := H) (by rw [en]; exact Nat.le_refl _) (I2.hok.fresh (by rw [en]; exact Nat.le_refl _))
  have on : OwnA X nn := ⟨fn.2.2.2.1, fn.2.2.2.2.1, fun p hp => fn.2.2.2.2.2 p (List.mem_append_left _ hp)⟩
  have hpn : ∀ p ∈ pins, p.1 ≠ nn := fun p hp => fn.2.2.2.2.2 p (List.mem_append_right _ (List.mem_cons_of_mem _ hp))
  have hmn : m ≠ nn := fn.2.2.2.2.2 (m, lobj us 0) (List.mem_append_right _ List.mem_cons_self)
  have I3 : Inv X ((m, lobj us 0) :: (nn, lobj [] 0) :: pins) (st.set im (some (V.ref m))) H { s2 with heap := s2.heap.push (lobj [] 0) } := by
    have J : Inv X ((m, lobj us 0) :: pins) (st.set im (some (V.ref m))) H { s2 with heap := s2.heap.push (lobj [] 0) } := I2.kept (t' := s2.toks) fun b o e => Heap.get?_push_of_some _ e
    refine J.pins_of fun p hp => ?_
    rcases List.mem_cons.mp hp with rfl | hp
    · exact J.pin _ (List.mem_append_right _ List.mem_cons_self)
    · rcases List.mem_cons.mp hp with rfl | hp
      · exact ⟨by rw [en]; exact Heap.get?_push_size _ rfl, fn.1, fn.2.1, fn.2.2.1, fun v z => by cases z⟩
      · exact J.pin p (List.mem_append_right _ (List.mem_cons_of_mem _ hp))
  show wpAny (model X.prog X.w) X.A (storeName X.env xn (.ref s2.heap.objs.size)) _ _ ({ s2 with heap := s2.heap.push (lobj [] 0) } : Shared)
  rw [← en]
  refine PySem.wpAny_with_toks (n := s2.toks) (Nat.le_refl _) (store_ok I3 nd hen ln (v := V.ref nn) rfl (fun s4 I4 k4 => ?_) hfn)
  -- the loop
  have S2 : RepSt X.K X.mg ro H ((sd.set im none).set ina none) ((st.set im (some (V.ref m))).set ina (some (V.ref nn))) := S.unset.unset
  have PS0 : PickSt X W pins m nn im ina [sL a0, sL a1, sL a2, sL a3, sL a4, sL a5] [] (goN me ik (endK kr) 3 0 [sL a0, sL a1, sL a2, sL a3, sL a4, sL a5] []) D0 ((st.set im (some (V.ref m))).set ina (some (V.ref nn))) H s4 := by
    refine ⟨⟨us, 0, [], 0, I4, raw2.mono k4, .nil⟩, by show (6 : Nat) ≤ 100; omega, Nat.zero_le _, Nat.le_trans h0 (Nat.le_trans k2' k4), ?_, ?_, ro, _, M, R, S2, P⟩
    · rw [List.getElem?_set_ne (Ne.symm nmn), List.getElem?_set_self ilm]
    · rw [List.getElem?_set_self (by rw [List.length_set]; exact iln)]
  refine wpAny_execs_cons (thn (for_pick cx nd om on hpm hpn hmn hem hen hek vm vn lk hfk nkm nkn he (by omega) hg hmr PS0 hs1 hs2 hb1 hb2 hl1 hl2 hdm hcm hdn hcn hsr hse hsf) fun f s5 h5 => ?_)
  cases f with
  | next =>
    obtain ⟨σ5, H5, ws5, ns5, P5⟩ := h5
    obtain ⟨us5, n5, vs5, k5, I5, r15, r25⟩ := P5.ex
    obtain ⟨ro5, sd5, M5, R5, S5, q5⟩ := P5.q
    by_cases hx : ∃ w0 w1 w2, ns5 = [w0, w1, w2] ∧ okN w0 w1 w2 = true
    · obtain ⟨w0, w1, w2, rfl, hok⟩ := hx
      have q5 : PostS X.K X.mg W ro5 H5 D0 ((if okN w0 w1 w2 = true then kr w0 w1 w2 else stuckS) sd5 M5) := q5
      rw [if_pos hok] at q5
      have g : Gd ina nn (lobj vs5 k5) s5.toks ((m, lobj us5 n5) :: (nn, lobj vs5 k5) :: pins) s5 σ5 := ⟨P5.one, Nat.le_refl _, List.mem_cons_of_mem _ List.mem_cons_self, P5.g2⟩
      exact thn ((hrest nn _ s5.toks w0 w1 w2 (okN_raw hok r25)).run _ s5 σ5 H5 D0 g I5 ⟨ro5, sd5, M5, R5, S5, q5⟩) fun f s6 h6 => sp_drop h6
    · rw [endK_no (fun w0 w1 w2 e k => hx ⟨w0, w1, w2, e, k⟩)] at q5
      exact q5.elim
  | brk => exact h5.elim
  | cont => exact h5.elim
  | ret v => exact h5.elim
end
end DL
namespace Lk55
open PySem PySem.Spec L2 DL
open PyProof.Rows hiding St
variable [HashW]
def top (i : Nat) : Stmt := PySem.Challenge.pw_neededlaws_k55_known_least_rules.main.body.getD i (.Pass ⟨0, 0, 0, 0⟩)
abbrev s_l_draws : Stmt := top 32
abbrev s_l_cell : Stmt := top 31
abbrev s_l_pairs : Stmt := top 34
abbrev s_NoWayD_initD : Stmt := inClass (top 3) 0
abbrev s_expected : Stmt := top 27
abbrev s_end_of : Stmt := top 28
abbrev s_WayD_initD : Stmt := inClass (top 29) 0
abbrev s_l_renamed : Stmt := top 35
abbrev s_WayD_mulD : Stmt := inClass (top 29) 5
abbrev s_Way_flipped : Stmt := inClass (top 29) 10
abbrev s_RulesD_strD : Stmt := inClass (top 8) 9
abbrev s_Rules_within : Stmt := inClass (top 8) 10
abbrev s_RulesD_eqD : Stmt := inClass (top 8) 6
abbrev s_Family_above_another : Stmt := inClass (top 10) 8
abbrev s_Family_least : Stmt := inClass (top 10) 7
abbrev s_BadRuleD_initD : Stmt := inClass (top 5) 0
abbrev s_RulesD_initD : Stmt := inClass (top 8) 0
abbrev s_Rules_every : Stmt := inClass (top 8) 11
abbrev s_FamilyD_initD : Stmt := inClass (top 10) 0
abbrev s_RulesD_containsD : Stmt := inClass (top 8) 5
abbrev s_tree_form : Stmt := top 18
abbrev s_different : Stmt := top 12
abbrev s_beginning : Stmt := top 13
abbrev s_ending : Stmt := top 14
abbrev s_merged : Stmt := top 15
abbrev s_band_form : Stmt := top 16
abbrev s_word_form : Stmt := top 19
abbrev s_plain : Stmt := top 20
abbrev s_alike : Stmt := top 22
abbrev s_needed : Stmt := top 23
abbrev s_law : Stmt := top 36
abbrev csI : List String := ["Rules", "Family"]
abbrev tblI : List (TN × TN × Bool) := [((.c "Rules"), (.c "Rules"), true), ((.c "Family"), (.c "Family"), true)]
noncomputable def b_l_draws_1 : MST :=
  (ifS (valB (binE geD (appE absF (consA (nameE 0) nilA)) (binE powI (constE (.int 10)) (constE (.int 18))))) (seqS (exprS (bmE "list" appendF (nameE 2) (consA (binE modI (appE intF (consA (nameE 3) nilA)) (binE ixD (nameE 1) (nameE 4))) nilA)))
  (setS 3 (binE fdivI (nameE 3) (binE ixD (nameE 1) (nameE 4))))) (seqS (setS 5 (binE modI (appE intF (consA (binE mulD (binE addD (binE addD (nameE 3) (binE mulD (constE (.int 11)) (nameE 4))) (constE (.int 3))) (constE (.int 48271))) nilA)) (constE (.int 2147483647))))
  (seqS (setS 5 (binE modI (appE intF (consA (binE addD (binE addD (binE mulD (binE mulD (nameE 5) (nameE 5)) (constE (.int 16807))) (binE mulD (constE (.int 97)) (nameE 4))) (nameE 5)) nilA)) (constE (.int 2147483629))))
  (exprS (bmE "list" appendF (nameE 2) (consA (binE modI (binE fdivI (nameE 5) (constE (.int 5))) (binE ixD (nameE 1) (nameE 4))) nilA))))))
noncomputable def m_l_draws : MST :=
  (seqS (setS 2 (celE nilA))
  (seqS (setS 3 (appE absF (consA (nameE 0) nilA)))
  (seqS (forS (range1I (consA (appE lenF (consA (nameE 1) nilA)) nilA)) (nameG 4) b_l_draws_1)
  (retS (nameE 2)))))
noncomputable def F_l_draws : FM := runD 6 m_l_draws
noncomputable def m_l_cell : MST :=
  (seqS (ifS (valB (binE ltD (nameE 1) (appE lenF (consA (nameE 0) nilA)))) (retS (binE ixD (nameE 0) (nameE 1))) passS)
  (retS (constE (.int 0))))
noncomputable def F_l_cell : FM := runD 2 m_l_cell
noncomputable def m_l_pairs : MST :=
  (seqS (setS 0 (lstE (consA (tupE (consA (constE (.str (sL "((x y) t)"))) (consA (constE (.str (sL "(x (y t))"))) (consA (lstE (consA (constE (.str (sL "A"))) nilA)) nilA)))) (consA (tupE (consA (constE (.str (sL "(x y)"))) (consA (constE (.str (sL "(y x)"))) (consA (lstE (consA (constE (.str (sL "C"))) nilA)) nilA)))) (consA (tupE (consA (constE (.str (sL "(x x)"))) (consA (constE (.str (sL "x"))) (consA (lstE (consA (constE (.str (sL "I"))) nilA)) nilA)))) nilA)))))
  (seqS (setS 0 (binE addD (nameE 0) (lstE (consA (tupE (consA (constE (.str (sL "(x e)"))) (consA (constE (.str (sL "x"))) (consA (lstE (consA (constE (.str (sL "U"))) nilA)) nilA)))) (consA (tupE (consA (constE (.str (sL "((x z) y)"))) (consA (constE (.str (sL "z"))) (consA (lstE (consA (constE (.str (sL "Z"))) nilA)) nilA)))) (consA (tupE (consA (constE (.str (sL "((x x) x)"))) (consA (constE (.str (sL "(x (x x))"))) (consA (lstE (consA (constE (.str (sL "A"))) (consA (constE (.str (sL "C"))) (consA (constE (.str (sL "I"))) nilA)))) nilA)))) nilA))))))
  (seqS (setS 0 (binE addD (nameE 0) (lstE (consA (tupE (consA (constE (.str (sL "((x y) x)"))) (consA (constE (.str (sL "(x (y x))"))) (consA (lstE (consA (constE (.str (sL "A"))) (consA (constE (.str (sL "C"))) nilA))) nilA)))) (consA (tupE (consA (constE (.str (sL "((x y) (y x))"))) (consA (constE (.str (sL "(x y)"))) (consA (lstE (consA (constE (.str (sL "CI"))) nilA)) nilA)))) nilA)))))
  (seqS (setS 0 (binE addD (nameE 0) (lstE (consA (tupE (consA (constE (.str (sL "((x y) (x y))"))) (consA (constE (.str (sL "(x y)"))) (consA (lstE (consA (constE (.str (sL "I"))) nilA)) nilA)))) (consA (tupE (consA (constE (.str (sL "((x y) y)"))) (consA (constE (.str (sL "(x y)"))) (consA (lstE (consA (constE (.str (sL "AI"))) nilA)) nilA)))) nilA)))))
  (seqS (setS 0 (binE addD (nameE 0) (lstE (consA (tupE (consA (constE (.str (sL "((t y) x)"))) (consA (constE (.str (sL "(x (y t))"))) (consA (lstE (consA (constE (.str (sL "C"))) nilA)) nilA)))) (consA (tupE (consA (constE (.str (sL "((x y) t)"))) (consA (constE (.str (sL "((x t) y)"))) (consA (lstE (consA (constE (.str (sL "AC"))) nilA)) nilA)))) nilA)))))
  (seqS (setS 0 (binE addD (nameE 0) (lstE (consA (tupE (consA (constE (.str (sL "((x e) (e y))"))) (consA (constE (.str (sL "(x y)"))) (consA (lstE (consA (constE (.str (sL "U"))) nilA)) nilA)))) (consA (tupE (consA (constE (.str (sL "(e e)"))) (consA (constE (.str (sL "e"))) (consA (lstE (consA (constE (.str (sL "I"))) (consA (constE (.str (sL "U"))) nilA))) nilA)))) (consA (tupE (consA (constE (.str (sL "(z z)"))) (consA (constE (.str (sL "z"))) (consA (lstE (consA (constE (.str (sL "I"))) (consA (constE (.str (sL "Z"))) nilA))) nilA)))) nilA))))))
  (retS (binE addD (nameE 0) (lstE (consA (tupE (consA (constE (.str (sL "(z e)"))) (consA (constE (.str (sL "z"))) (consA (lstE (consA (constE (.str (sL "U"))) (consA (constE (.str (sL "Z"))) nilA))) nilA)))) nilA))))))))))
noncomputable def F_l_pairs : FM := runD 1 m_l_pairs
noncomputable def m_expected : MST :=
  (ifS (orB (valB (binE (eqD false) (nameE 1) (appE lenF (consA (nameE 0) nilA)))) (valB (binE (eqD true) (binE ixD (nameE 0) (nameE 1)) (nameE 2)))) stuckS passS)
noncomputable def F_expected : FM := runD 3 m_expected
noncomputable def t_end_of_1 (G : FM) : MB :=
  (andB (valB (binE ltD (binE addD (nameE 1) (nameE 4)) (appE lenF (consA (nameE 0) nilA)))) (andB (valB (binE (inD false) (binE ixD (nameE 0) (binE addD (nameE 1) (nameE 4))) (constE (.str (sL "abcdefghijklmnopqrstuvwxyz"))))) (valB (binE ltD (nameE 4) (constE (.int 6))))))
noncomputable def b_end_of_1 (G : FM) : MST :=
  (augS 4 iaddX (constE (.int 1)))
noncomputable def m_end_of (G : FM) : MST :=
  (seqS (ifS (valB (binE (eqD false) (nameE 1) (appE lenF (consA (nameE 0) nilA)))) stuckS passS)
  (seqS (ifS (valB (binE (eqD false) (binE ixD (nameE 0) (nameE 1)) (constE (.str (sL "("))))) (seqS (setS 2 (callE 2 G (· ++ []) (consA (nameE 0) (consA (binE addD (nameE 1) (constE (.int 1))) nilA))))
  (seqS (exprS (callE 3 F_expected (· ++ []) (consA (nameE 0) (consA (nameE 2) (consA (constE (.str (sL " "))) nilA)))))
  (seqS (setS 3 (callE 2 G (· ++ []) (consA (nameE 0) (consA (binE addD (nameE 2) (constE (.int 1))) nilA))))
  (seqS (exprS (callE 3 F_expected (· ++ []) (consA (nameE 0) (consA (nameE 3) (consA (constE (.str (sL ")"))) nilA)))))
  (retS (binE addD (nameE 3) (constE (.int 1)))))))) passS)
  (seqS (setS 4 (constE (.int 0)))
  (seqS (whileS 1000 (t_end_of_1 G) (b_end_of_1 G))
  (seqS (ifS (valB (binE (eqD false) (nameE 4) (constE (.int 0)))) stuckS passS)
  (retS (binE addD (nameE 1) (nameE 4))))))))
noncomputable def R_end_of : Nat → FM
  | 0 => fun _ _ => .stuck
  | d + 1 => runD 5 (m_end_of (R_end_of d))
noncomputable def F_end_of : FM := R_end_of 30
noncomputable def m_WayD_initD (G : FM) : MST :=
  (seqS (setS 2 (callE 2 F_end_of (· ++ []) (consA (nameE 1) (consA (constE (.int 0)) nilA))))
  (seqS (ifS (valB (binE ltD (nameE 2) (appE lenF (consA (nameE 1) nilA)))) stuckS passS)
  (seqS (setFldS ["Way"] "text" (nameE 0) (nameE 1))
  (seqS (setFldS ["Way"] "name" (nameE 0) (constE (.str (sL ""))))
  (seqS (setFldS ["Way"] "left" (nameE 0) (constE .non))
  (seqS (setFldS ["Way"] "right" (nameE 0) (constE .non))
  (ifS (valB (binE (eqD false) (binE ixD (nameE 1) (constE (.int 0))) (constE (.str (sL "("))))) (seqS (setS 3 (callE 2 F_end_of (· ++ []) (consA (nameE 1) (consA (constE (.int 1)) nilA))))
  (seqS (setFldS ["Way"] "left" (nameE 0) (callE 1 (mkT "Way" G) (· ++ []) (consA (slE (nameE 1) (soO (constE (.int 1))) (soO (nameE 3))) nilA)))
  (seqS (setFldS ["Way"] "right" (nameE 0) (callE 1 (mkT "Way" G) (· ++ []) (consA (slE (nameE 1) (soO (binE addD (nameE 3) (constE (.int 1)))) (soO (unE negI (constE (.int 1))))) nilA)))
  (setFldS ["Way"] "leaves" (nameE 0) (binE addD (unE (fldD ["Way"] "leaves") (unE (fldD ["Way"] "left") (nameE 0))) (unE (fldD ["Way"] "leaves") (unE (fldD ["Way"] "right") (nameE 0)))))))) (seqS (setFldS ["Way"] "name" (nameE 0) (nameE 1))
  (setFldS ["Way"] "leaves" (nameE 0) (tupE (consA (nameE 1) nilA)))))))))))
noncomputable def R_WayD_initD : Nat → FM
  | 0 => fun _ _ => .stuck
  | d + 1 => runD 4 (m_WayD_initD (R_WayD_initD d))
noncomputable def F_WayD_initD : FM := R_WayD_initD 30
noncomputable def m_l_renamed : MST :=
  (seqS stuckS
  stuckS)
noncomputable def F_l_renamed : FM := runD 2 m_l_renamed
noncomputable def m_WayD_mulD : MST :=
  (retS (callE 1 (mkT "Way" F_WayD_initD) (· ++ []) (consA (fstrE [(constE (.str (sL "("))), (fmtE (unE (fldD ["Way"] "text") (nameE 0))), (constE (.str (sL " "))), (fmtE (unE (fldD ["Way"] "text") (nameE 1))), (constE (.str (sL ")")))]) nilA)))
noncomputable def F_WayD_mulD : FM := runD 2 m_WayD_mulD
noncomputable def m_Way_flipped (G : FM) : MST :=
  (seqS (ifS (valB (binE isNF (unE (fldD ["Way"] "left") (nameE 0)) (constE .non))) (retS (nameE 0)) passS)
  (retS (binE (binO "Way" F_WayD_mulD) (methE "Way" "flipped" 1 G (· ++ []) (unE (fldD ["Way"] "right") (nameE 0)) nilA) (methE "Way" "flipped" 1 G (· ++ []) (unE (fldD ["Way"] "left") (nameE 0)) nilA))))
noncomputable def R_Way_flipped : Nat → FM
  | 0 => fun _ _ => .stuck
  | d + 1 => runD 1 (m_Way_flipped (R_Way_flipped d))
noncomputable def F_Way_flipped : FM := R_Way_flipped 30
noncomputable def m_RulesD_strD : MST :=
  (retS (appE strSF (consA (unE (fldD ["Rules"] "letters") (nameE 0)) nilA)))
noncomputable def F_RulesD_strD : FM := runD 1 m_RulesD_strD
noncomputable def e_Rules_within_1 : ME :=
  (binE (inD false) (nameE 2) (unE (fldD ["Rules"] "letters") (nameE 1)))
noncomputable def m_Rules_within : MST :=
  (retS (appE allF (consA (lcE (anyI (unE (fldD ["Rules"] "letters") (nameE 0))) (nameG 2) yesB e_Rules_within_1 [2]) nilA)))
noncomputable def F_Rules_within : FM := runD 3 m_Rules_within
noncomputable def m_RulesD_eqD : MST :=
  (retS (andE (appE (isiF csI (tblL tblI)) (consA (nameE 1) (consA (constE (.glo "Rules")) nilA))) (binE (eqD false) (unE (fldD ["Rules"] "letters") (nameE 0)) (unE (fldD ["Rules"] "letters") (nameE 1)))))
noncomputable def F_RulesD_eqD : FM := runD 2 m_RulesD_eqD
noncomputable def e_Family_above_another_1 : ME :=
  (andE (methE "Rules" "within" 2 F_Rules_within (· ++ []) (nameE 2) (consA (nameE 1) nilA)) (notE (binE (eqO "Rules" (okE "Rules" []) F_RulesD_eqD) (nameE 2) (nameE 1))))
noncomputable def m_Family_above_another : MST :=
  (retS (appE anyF (consA (lcE (anyI (unE (fldD ["Family"] "members") (nameE 0))) (nameG 2) yesB e_Family_above_another_1 [2]) nilA)))
noncomputable def F_Family_above_another : FM := runD 3 m_Family_above_another
noncomputable def t_Family_least_1 : MB :=
  (notB (truB (methE "Family" "above_another" 2 F_Family_above_another (· ++ []) (nameE 0) (consA (nameE 1) nilA))))
noncomputable def m_Family_least : MST :=
  (retS (lcE (anyI (unE (fldD ["Family"] "members") (nameE 0))) (nameG 1) t_Family_least_1 (nameE 1) [1]))
noncomputable def F_Family_least : FM := runD 2 m_Family_least
noncomputable def b_RulesD_initD_1 : MST :=
  (ifS (valB (binE (inD true) (nameE 2) (constE (.str (sL "ACIUZ"))))) stuckS passS)
noncomputable def t_RulesD_initD_1 : MB :=
  (valB (binE (inD false) (nameE 2) (nameE 1)))
noncomputable def m_RulesD_initD : MST :=
  (seqS (forS (anyI (nameE 1)) (nameG 2) b_RulesD_initD_1)
  (setFldS ["Rules"] "letters" (nameE 0) (bmE "str" joinF (constE (.str (sL ""))) (consA (lcE (anyI (constE (.str (sL "ACIUZ")))) (nameG 2) t_RulesD_initD_1 (nameE 2) [2]) nilA))))
noncomputable def F_RulesD_initD : FM := runD 3 m_RulesD_initD
noncomputable def e_Rules_every_1 : ME :=
  (binE addD (nameE 3) (nameE 2))
noncomputable def b_Rules_every_1 : MST :=
  (setS 1 (binE addD (nameE 1) (lcE (anyI (nameE 1)) (nameG 3) yesB e_Rules_every_1 [3])))
noncomputable def e_Rules_every_2 : ME :=
  (callE 1 (mkT "Rules" F_RulesD_initD) (· ++ []) (consA (nameE 3) nilA))
noncomputable def m_Rules_every : MST :=
  (seqS (setS 1 (lstE (consA (constE (.str (sL ""))) nilA)))
  (seqS (forS (anyI (constE (.str (sL "ACIUZ")))) (nameG 2) b_Rules_every_1)
  (retS (lcE (anyI (sortLenE 0 "Rules" "every" (nameE 1))) (nameG 3) yesB e_Rules_every_2 [3]))))
noncomputable def F_Rules_every : FM := runD 4 m_Rules_every
noncomputable def e_FamilyD_initD_1 : ME :=
  (methE "Rules" "within" 2 F_Rules_within (· ++ []) (nameE 3) (consA (nameE 2) nilA))
noncomputable def t_FamilyD_initD_1 : MB :=
  (truB (appE anyF (consA (lcE (anyI (nameE 1)) (nameG 3) yesB e_FamilyD_initD_1 [3]) nilA)))
noncomputable def m_FamilyD_initD : MST :=
  (setFldS ["Family"] "members" (nameE 0) (lcE (anyI (cmE0 "Rules" F_Rules_every)) (nameG 2) t_FamilyD_initD_1 (nameE 2) [2]))
noncomputable def F_FamilyD_initD : FM := vF 1 (runD 4 m_FamilyD_initD)
noncomputable def m_RulesD_containsD : MST :=
  (retS (andE (binE (eqD false) (appE lenF (consA (nameE 1) nilA)) (constE (.int 1))) (binE (inD false) (nameE 1) (unE (fldD ["Rules"] "letters") (nameE 0)))))
noncomputable def F_RulesD_containsD : FM := runD 2 m_RulesD_containsD
noncomputable def m_tree_form (G : FM) : MST :=
  (seqS (ifS (valB (binE isNF (unE (fldD ["Way"] "left") (nameE 0)) (constE .non))) (retS (unE (fldD ["Way"] "name") (nameE 0))) passS)
  (seqS (setS 2 (callE 2 G (· ++ []) (consA (unE (fldD ["Way"] "left") (nameE 0)) (consA (nameE 1) nilA))))
  (seqS (setS 3 (callE 2 G (· ++ []) (consA (unE (fldD ["Way"] "right") (nameE 0)) (consA (nameE 1) nilA))))
  (seqS (ifS (andB (valB (binE (inO "Rules" F_RulesD_containsD false) (constE (.str (sL "Z"))) (nameE 1))) (orB (valB (binE (eqD false) (nameE 2) (constE (.str (sL "z"))))) (valB (binE (eqD false) (nameE 3) (constE (.str (sL "z"))))))) (retS (constE (.str (sL "z")))) passS)
  (seqS (ifS (andB (valB (binE (inO "Rules" F_RulesD_containsD false) (constE (.str (sL "U"))) (nameE 1))) (valB (binE (eqD false) (nameE 2) (constE (.str (sL "e")))))) (retS (nameE 3)) passS)
  (seqS (ifS (andB (valB (binE (inO "Rules" F_RulesD_containsD false) (constE (.str (sL "U"))) (nameE 1))) (valB (binE (eqD false) (nameE 3) (constE (.str (sL "e")))))) (retS (nameE 2)) passS)
  (seqS (ifS (andB (valB (binE (inO "Rules" F_RulesD_containsD false) (constE (.str (sL "I"))) (nameE 1))) (valB (binE (eqD false) (nameE 2) (nameE 3)))) (retS (nameE 2)) passS)
  (seqS (ifS (andB (valB (binE (inO "Rules" F_RulesD_containsD false) (constE (.str (sL "C"))) (nameE 1))) (valB (binE ltD (nameE 3) (nameE 2)))) (retS (fstrE [(constE (.str (sL "("))), (fmtE (nameE 3)), (constE (.str (sL " "))), (fmtE (nameE 2)), (constE (.str (sL ")")))])) passS)
  (retS (fstrE [(constE (.str (sL "("))), (fmtE (nameE 2)), (constE (.str (sL " "))), (fmtE (nameE 3)), (constE (.str (sL ")")))]))))))))))
noncomputable def R_tree_form : Nat → FM
  | 0 => fun _ _ => .stuck
  | d + 1 => runD 4 (m_tree_form (R_tree_form d))
noncomputable def F_tree_form : FM := R_tree_form 30
noncomputable def m_different : MST :=
  (retS (lenZE (setR (nameE 0))))
noncomputable def F_different : FM := runD 1 m_different
noncomputable def b_beginning_1 : MST :=
  (seqS (dputS (nameE 2) (nameE 4) (constE (.bl true)))
  (ifS (valB (binE (eqD false) (appE lenX (consA (nameE 2) nilA)) (nameE 1))) (retS (tupE (consA (appE listF (consA (slE (nameE 0) noO (soO (nameE 3))) nilA)) (consA (nameE 4) nilA)))) passS))
noncomputable def m_beginning : MST :=
  (seqS (setS 1 (callE 1 F_different (· ++ []) (consA (nameE 0) nilA)))
  (seqS (setS 2 dicE)
  (seqS (forS (enumX (nameE 0)) (tupG [3, 4]) b_beginning_1)
  (retS (tupE (consA (lstE nilA) (consA (constE (.str (sL ""))) nilA)))))))
noncomputable def F_beginning : FM := clF (runD 5 m_beginning)
noncomputable def m_ending : MST :=
  (seqS (unpS (tupG [1, 2]) (callE 1 F_beginning (· ++ []) (consA (revAE (nameE 0)) nilA)))
  (retS (tupE (consA (nameE 2) (consA (revAE (nameE 1)) nilA)))))
noncomputable def F_ending : FM := runD 3 m_ending
noncomputable def b_merged_1 : MST :=
  (ifS (valB (binE (eqD false) (slE (nameE 0) (soO (binE subI (appE lenF (consA (nameE 0) nilA)) (nameE 2))) noO) (slE (nameE 1) noO (soO (nameE 2))))) (retS (binE addD (nameE 0) (slE (nameE 1) (soO (nameE 2)) noO))) passS)
noncomputable def m_merged : MST :=
  (seqS (forS (rev1I (binE addD (appE min2F (consA (appE lenF (consA (nameE 0) nilA)) (consA (appE lenF (consA (nameE 1) nilA)) nilA))) (constE (.int 1)))) (nameG 2) b_merged_1)
  (retS (binE addD (nameE 0) (nameE 1))))
noncomputable def F_merged : FM := runD 3 m_merged
noncomputable def m_band_form (G : FM) : MST :=
  (seqS (ifS (valB (binE (eqD false) (callE 1 F_different (· ++ []) (consA (nameE 0) nilA)) (constE (.int 1)))) (retS (lstE (consA (binE ixD (nameE 0) (constE (.int 0))) nilA))) passS)
  (seqS (unpS (tupG [1, 2]) (callE 1 F_beginning (· ++ []) (consA (nameE 0) nilA)))
  (seqS (unpS (tupG [3, 4]) (callE 1 F_ending (· ++ []) (consA (nameE 0) nilA)))
  (retS (callE 2 F_merged (· ++ []) (consA (binE addD (callE 1 G (· ++ []) (consA (nameE 1) nilA)) (lstE (consA (nameE 2) nilA))) (consA (binE addD (lstE (consA (nameE 3) nilA)) (callE 1 G (· ++ []) (consA (nameE 4) nilA))) nilA)))))))
noncomputable def R_band_form : Nat → FM
  | 0 => fun _ _ => .stuck
  | d + 1 => runD 5 (m_band_form (R_band_form d))
noncomputable def F_band_form : FM := R_band_form 30
noncomputable def t_word_form_1 : MB :=
  (valB (binE (eqD true) (nameE 2) (constE (.str (sL "e")))))
noncomputable def m_word_form : MST :=
  (seqS (ifS (andB (valB (binE (inO "Rules" F_RulesD_containsD false) (constE (.str (sL "Z"))) (nameE 1))) (valB (binE (inD false) (constE (.str (sL "z"))) (nameE 0)))) (retS (lstE (consA (constE (.str (sL "z"))) nilA))) passS)
  (seqS (ifS (valB (binE (inO "Rules" F_RulesD_containsD false) (constE (.str (sL "U"))) (nameE 1))) (seqS (setS 0 (lcE (anyI (nameE 0)) (nameG 2) t_word_form_1 (nameE 2) [2]))
  (ifS (valB (binE (eqD false) (nameE 0) (lstE nilA))) (retS (lstE (consA (constE (.str (sL "e"))) nilA))) passS)) passS)
  (seqS (ifS (andB (valB (binE (inO "Rules" F_RulesD_containsD false) (constE (.str (sL "C"))) (nameE 1))) (valB (binE (inO "Rules" F_RulesD_containsD false) (constE (.str (sL "I"))) (nameE 1)))) (retS (sortZE (setR (nameE 0)))) passS)
  (seqS (ifS (valB (binE (inO "Rules" F_RulesD_containsD false) (constE (.str (sL "C"))) (nameE 1))) (retS (appE sortedSF (consA (nameE 0) nilA))) passS)
  (seqS (ifS (valB (binE (inO "Rules" F_RulesD_containsD false) (constE (.str (sL "I"))) (nameE 1))) (retS (callE 1 F_band_form (· ++ []) (consA (nameE 0) nilA))) passS)
  (retS (nameE 0)))))))
noncomputable def F_word_form : FM := runD 3 m_word_form
noncomputable def m_plain : MST :=
  (seqS (ifS (valB (binE (inO "Rules" F_RulesD_containsD false) (constE (.str (sL "A"))) (nameE 1))) (retS (bmE "str" joinF (constE (.str (sL " "))) (consA (callE 2 F_word_form (· ++ []) (consA (appE listF (consA (unE (fldD ["Way"] "leaves") (nameE 0)) nilA)) (consA (nameE 1) nilA))) nilA))) passS)
  (retS (callE 2 F_tree_form (· ++ []) (consA (nameE 0) (consA (nameE 1) nilA)))))
noncomputable def F_plain : FM := runD 2 m_plain
noncomputable def e_alike_1 : ME :=
  (binE (eqD false) (callKE 2 1 1 F_plain (· ++ ·) (consA (nameE 4) nilA) (consA (nameE 1) nilA)) (nameE 3))
noncomputable def m_alike : MST :=
  (seqS (setS 3 (callKE 2 1 1 F_plain (· ++ ·) (consA (nameE 0) nilA) (consA (nameE 1) nilA)))
  (retS (appE allF (consA (lcE (anyI (nameE 2)) (nameG 4) yesB e_alike_1 [4]) nilA))))
noncomputable def F_alike : FG := gVK 1 (runD 5 m_alike)
noncomputable def t_needed_1 : MB :=
  (truB (callGE 1 F_alike (consA (nameE 0) (consA (nameE 1) nilA)) (consA (nameE 3) nilA)))
noncomputable def m_needed : MST :=
  (seqS (setS 2 (lcE (anyI (cmE0 "Rules" F_Rules_every)) (nameG 3) t_needed_1 (nameE 3) [3]))
  (retS (starE (mkT "Family" F_FamilyD_initD) (nameE 2))))
noncomputable def F_needed : FM := runD 4 m_needed
noncomputable def e_law_1 : ME :=
  (methE "Way" "flipped" 1 F_Way_flipped (· ++ []) (nameE 10) nilA)
noncomputable def e_law_2 : ME :=
  (appE (call1O "Rules" F_RulesD_strD isStrD) (consA (nameE 11) nilA))
noncomputable def r_law : MST :=
  (seqS (ifS (valB (binE (eqD false) (binE ixD (nameE 1) (constE (.int 1))) (constE (.int 1)))) (setS 9 (revAE (nameE 9))) passS)
  (seqS (ifS (valB (binE (eqD false) (binE ixD (nameE 1) (constE (.int 2))) (constE (.int 1)))) (setS 9 (lcE (anyI (nameE 9)) (nameG 10) yesB e_law_1 [10])) passS)
  (retS (binE (eqD false) (lcE (anyI (methE "Family" "least" 1 F_Family_least (· ++ []) (callE 2 F_needed (· ++ []) (consA (binE ixD (nameE 9) (constE (.int 0))) (consA (binE ixD (nameE 9) (constE (.int 1))) nilA))) nilA)) (nameG 11) yesB e_law_2 [11]) (nameE 8)))))
noncomputable def k_law (w0 w1 w2 : List Nat) : MST :=
  (seqS (unpS (tupG [6, 7, 8]) (binE ixD (callE 0 F_l_pairs (· ++ []) nilA) (binE ixD (nameE 1) (constE (.int 0)))))
  (seqS (setS 9 (lstE (consA (callE 1 (mkT "Way" F_WayD_initD) (· ++ []) (consA (renE 6 w0 w1 w2) nilA)) (consA (callE 1 (mkT "Way" F_WayD_initD) (· ++ []) (consA (renE 7 w0 w1 w2) nilA)) nilA)))) r_law))
noncomputable def m_law : MST :=
  (seqS (setS 1 (callE 2 F_l_draws (· ++ []) (consA (callE 2 F_l_cell (· ++ []) (consA (nameE 0) (consA (constE (.int 0)) nilA))) (consA (lstE (consA (constE (.int 16)) (consA (constE (.int 2)) (consA (constE (.int 2)) nilA)))) nilA))))
  (seqS (setS 2 (callE 2 F_l_draws (· ++ []) (consA (callE 2 F_l_cell (· ++ []) (consA (nameE 0) (consA (constE (.int 1)) nilA))) (consA (lstE (consA (constE (.int 6)) (consA (constE (.int 5)) (consA (constE (.int 4)) nilA)))) nilA))))
  (namedS 3 4 5 [sL "a", sL "b", sL "x", sL "y", sL "ab", sL "zz"] (binE ixD (nameE 2) (nameE 5)) k_law)))
noncomputable def F_law : FM := runD 12 m_law
structure Ad where
  f_l_draws : Addr
  d_l_draws : FuncData
  f_l_cell : Addr
  d_l_cell : FuncData
  f_l_pairs : Addr
  d_l_pairs : FuncData
  f_NoWayD_initD : Addr
  d_NoWayD_initD : FuncData
  f_expected : Addr
  d_expected : FuncData
  f_end_of : Addr
  d_end_of : FuncData
  f_WayD_initD : Addr
  d_WayD_initD : FuncData
  f_l_renamed : Addr
  d_l_renamed : FuncData
  f_WayD_mulD : Addr
  d_WayD_mulD : FuncData
  f_Way_flipped : Addr
  d_Way_flipped : FuncData
  f_RulesD_strD : Addr
  d_RulesD_strD : FuncData
  f_Rules_within : Addr
  d_Rules_within : FuncData
  f_RulesD_eqD : Addr
  d_RulesD_eqD : FuncData
  f_Family_above_another : Addr
  d_Family_above_another : FuncData
  f_Family_least : Addr
  d_Family_least : FuncData
  f_BadRuleD_initD : Addr
  d_BadRuleD_initD : FuncData
  f_RulesD_initD : Addr
  d_RulesD_initD : FuncData
  f_Rules_every : Addr
  d_Rules_every : FuncData
  f_FamilyD_initD : Addr
  d_FamilyD_initD : FuncData
  f_RulesD_containsD : Addr
  d_RulesD_containsD : FuncData
  f_tree_form : Addr
  d_tree_form : FuncData
  f_different : Addr
  d_different : FuncData
  f_beginning : Addr
  d_beginning : FuncData
  f_ending : Addr
  d_ending : FuncData
  f_merged : Addr
  d_merged : FuncData
  f_band_form : Addr
  d_band_form : FuncData
  f_word_form : Addr
  d_word_form : FuncData
  f_plain : Addr
  d_plain : FuncData
  f_alike : Addr
  d_alike : FuncData
  f_needed : Addr
  d_needed : FuncData
  f_law : Addr
  d_law : FuncData
  k_Rules_every : Addr
  t_Rules_every : Addr
  p_Rules_every : Addr
  c_BadRule : Addr
  c_Family : Addr
  c_NoWay : Addr
  c_Rules : Addr
  c_Way : Addr
  c_WayError : Addr
structure Fx (w : World) (K : PySem.W.Frag) (mg : Str → Option Value) (A : Ad) : Prop where
  hw : HwOk w
  n_abs : mg "abs" = none
  n_all : mg "all" = none
  n_any : mg "any" = none
  n_enumerate : mg "enumerate" = none
  n_int : mg "int" = none
  n_isinstance : mg "isinstance" = none
  n_len : mg "len" = none
  n_list : mg "list" = none
  n_min : mg "min" = none
  n_range : mg "range" = none
  n_reversed : mg "reversed" = none
  n_set : mg "set" = none
  n_sorted : mg "sorted" = none
  n_str : mg "str" = none
  s_LETTERS_rules : ∃ t, mg "LETTERS_rules" = some (.str (Str.ofString "ACIUZ") t)
  s_LETTERS_ways : ∃ t, mg "LETTERS_ways" = some (.str (Str.ofString "abcdefghijklmnopqrstuvwxyz") t)
  s_LONGEST_NAME : ∃ t, mg "LONGEST_NAME" = some (.int 6 t)
  F_l_draws : FnP K "_law_draws" "_law_draws" s_l_draws [] [] A.f_l_draws A.d_l_draws
  g_l_draws : mg "_law_draws" = some (.ref A.f_l_draws)
  F_l_cell : FnP K "_law_cell" "_law_cell" s_l_cell [] [] A.f_l_cell A.d_l_cell
  g_l_cell : mg "_law_cell" = some (.ref A.f_l_cell)
  F_l_pairs : FnP K "_law_pairs" "_law_pairs" s_l_pairs [] [] A.f_l_pairs A.d_l_pairs
  g_l_pairs : mg "_law_pairs" = some (.ref A.f_l_pairs)
  F_NoWayD_initD : FnP K "__init__" "NoWay.__init__" s_NoWayD_initD [] [] A.f_NoWayD_initD A.d_NoWayD_initD
  F_expected : FnP K "expected" "expected" s_expected [] [] A.f_expected A.d_expected
  g_expected : mg "expected" = some (.ref A.f_expected)
  F_end_of : FnP K "end_of" "end_of" s_end_of [] [] A.f_end_of A.d_end_of
  g_end_of : mg "end_of" = some (.ref A.f_end_of)
  F_WayD_initD : FnP K "__init__" "Way.__init__" s_WayD_initD [] [] A.f_WayD_initD A.d_WayD_initD
  F_l_renamed : FnP K "_law_renamed" "_law_renamed" s_l_renamed [] [] A.f_l_renamed A.d_l_renamed
  g_l_renamed : mg "_law_renamed" = some (.ref A.f_l_renamed)
  F_WayD_mulD : FnP K "__mul__" "Way.__mul__" s_WayD_mulD [] [] A.f_WayD_mulD A.d_WayD_mulD
  F_Way_flipped : FnP K "flipped" "Way.flipped" s_Way_flipped [] [] A.f_Way_flipped A.d_Way_flipped
  F_RulesD_strD : FnP K "__str__" "Rules.__str__" s_RulesD_strD [] [] A.f_RulesD_strD A.d_RulesD_strD
  F_Rules_within : FnP K "within" "Rules.within" s_Rules_within [] [] A.f_Rules_within A.d_Rules_within
  F_RulesD_eqD : FnP K "__eq__" "Rules.__eq__" s_RulesD_eqD [] [] A.f_RulesD_eqD A.d_RulesD_eqD
  F_Family_above_another : FnP K "above_another" "Family.above_another" s_Family_above_another [] [] A.f_Family_above_another A.d_Family_above_another
  F_Family_least : FnP K "least" "Family.least" s_Family_least [] [] A.f_Family_least A.d_Family_least
  F_BadRuleD_initD : FnP K "__init__" "BadRule.__init__" s_BadRuleD_initD [] [] A.f_BadRuleD_initD A.d_BadRuleD_initD
  F_RulesD_initD : FnP K "__init__" "Rules.__init__" s_RulesD_initD [(.str (Str.ofString ""))] [] A.f_RulesD_initD A.d_RulesD_initD
  F_Rules_every : FnP K "every" "Rules.every" s_Rules_every [] [] A.f_Rules_every A.d_Rules_every
  F_FamilyD_initD : FnP K "__init__" "Family.__init__" s_FamilyD_initD [] [] A.f_FamilyD_initD A.d_FamilyD_initD
  F_RulesD_containsD : FnP K "__contains__" "Rules.__contains__" s_RulesD_containsD [] [] A.f_RulesD_containsD A.d_RulesD_containsD
  F_tree_form : FnP K "tree_form" "tree_form" s_tree_form [] [] A.f_tree_form A.d_tree_form
  g_tree_form : mg "tree_form" = some (.ref A.f_tree_form)
  F_different : FnP K "different" "different" s_different [] [] A.f_different A.d_different
  g_different : mg "different" = some (.ref A.f_different)
  F_beginning : FnP K "beginning" "beginning" s_beginning [] [] A.f_beginning A.d_beginning
  g_beginning : mg "beginning" = some (.ref A.f_beginning)
  F_ending : FnP K "ending" "ending" s_ending [] [] A.f_ending A.d_ending
  g_ending : mg "ending" = some (.ref A.f_ending)
  F_merged : FnP K "merged" "merged" s_merged [] [] A.f_merged A.d_merged
  g_merged : mg "merged" = some (.ref A.f_merged)
  F_band_form : FnP K "band_form" "band_form" s_band_form [] [] A.f_band_form A.d_band_form
  g_band_form : mg "band_form" = some (.ref A.f_band_form)
  F_word_form : FnP K "word_form" "word_form" s_word_form [] [] A.f_word_form A.d_word_form
  g_word_form : mg "word_form" = some (.ref A.f_word_form)
  F_plain : FnP K "plain" "plain" s_plain [] [] A.f_plain A.d_plain
  g_plain : mg "plain" = some (.ref A.f_plain)
  F_alike : FnP K "alike" "alike" s_alike [] [] A.f_alike A.d_alike
  g_alike : mg "alike" = some (.ref A.f_alike)
  F_needed : FnP K "needed" "needed" s_needed [] [] A.f_needed A.d_needed
  g_needed : mg "needed" = some (.ref A.f_needed)
  F_law : FnP K "law" "law" s_law [] [] A.f_law A.d_law
  g_law : mg "law" = some (.ref A.f_law)
  bv_FamilyD_initD : BindV K A.d_FamilyD_initD ["self"] "sets"
  bv_alike : BindVK K A.d_alike ["first"] ["rules"] "others"
  b_Family_above_another_2 : DflK K mg A.d_Family_above_another ["self", "rules"] []
  b_Family_least_1 : DflK K mg A.d_Family_least ["self"] []
  b_RulesD_initD_2 : DflK K mg A.d_RulesD_initD ["self", "letters"] []
  b_Rules_within_2 : DflK K mg A.d_Rules_within ["self", "other"] []
  b_WayD_initD_2 : DflK K mg A.d_WayD_initD ["self", "text"] []
  b_Way_flipped_1 : DflK K mg A.d_Way_flipped ["self"] []
  b_l_cell_2 : DflK K mg A.d_l_cell ["_law_script", "_law_k"] []
  b_l_draws_2 : DflK K mg A.d_l_draws ["_law_cell_here", "_law_sizes"] []
  b_l_pairs_0 : DflK K mg A.d_l_pairs [] []
  b_l_renamed_2 : DflK K mg A.d_l_renamed ["_law_text", "_law_names"] []
  b_band_form_1 : DflK K mg A.d_band_form ["word"] []
  b_beginning_1 : DflK K mg A.d_beginning ["word"] []
  b_different_1 : DflK K mg A.d_different ["word"] []
  b_end_of_2 : DflK K mg A.d_end_of ["text", "at"] []
  b_ending_1 : DflK K mg A.d_ending ["word"] []
  b_expected_3 : DflK K mg A.d_expected ["text", "at", "sign"] []
  b_merged_2 : DflK K mg A.d_merged ["left", "right"] []
  b_needed_2 : DflK K mg A.d_needed ["first", "second"] []
  b_tree_form_2 : DflK K mg A.d_tree_form ["way", "rules"] []
  b_word_form_2 : DflK K mg A.d_word_form ["word", "rules"] []
  k_plain_1_rules : KwBK K mg A.d_plain ["way", "rules"] 1 ["rules"] (· ++ ·)
  bd_BadRuleD_initD : Binds K A.d_BadRuleD_initD ["self", "letter"] []
  bd_NoWayD_initD : Binds K A.d_NoWayD_initD ["self", "at"] []
  bd_RulesD_containsD : Binds K A.d_RulesD_containsD ["self", "letter"] []
  bd_RulesD_eqD : Binds K A.d_RulesD_eqD ["self", "other"] []
  bd_RulesD_strD : Binds K A.d_RulesD_strD ["self"] []
  bd_Rules_every : Binds K A.d_Rules_every ["cls"] []
  bd_WayD_mulD : Binds K A.d_WayD_mulD ["self", "other"] []
  g_BadRule : mg "BadRule" = some (.ref A.c_BadRule)
  g_Family : mg "Family" = some (.ref A.c_Family)
  g_NoWay : mg "NoWay" = some (.ref A.c_NoWay)
  g_Rules : mg "Rules" = some (.ref A.c_Rules)
  g_Way : mg "Way" = some (.ref A.c_Way)
  g_WayError : mg "WayError" = some (.ref A.c_WayError)
  ci_Family : CInfo K mg "Family" A.c_Family ["members"]
  ci_Rules : CInfo K mg "Rules" A.c_Rules ["letters"]
  ci_Way : CInfo K mg "Way" A.c_Way ["leaves", "left", "name", "right", "text"]
  mk_Family : Mk K A.c_Family A.f_FamilyD_initD
  mk_Rules : Mk K A.c_Rules A.f_RulesD_initD
  mk_Way : Mk K A.c_Way A.f_WayD_initD
  FC_Rules_every : FnC K "every" "Rules.every" s_Rules_every A.f_Rules_every A.d_Rules_every A.k_Rules_every
  it_Rules_every : IsTab K mg "Rules" "every" A.t_Rules_every
  cr_Rules : ClX.CRead K A.c_Rules (.type "type")
  cm_Rules_every : ClX.CMet K A.c_Rules (.type "type") "every" A.p_Rules_every A.f_Rules_every
  m_Family_above_another : Meth K A.c_Family "above_another" A.f_Family_above_another
  m_Family_least : Meth K A.c_Family "least" A.f_Family_least
  m_RulesD_containsD : Meth K A.c_Rules "__contains__" A.f_RulesD_containsD
  m_RulesD_eqD : Meth K A.c_Rules "__eq__" A.f_RulesD_eqD
  m_RulesD_strD : Meth K A.c_Rules "__str__" A.f_RulesD_strD
  m_Rules_within : Meth K A.c_Rules "within" A.f_Rules_within
  m_WayD_mulD : Meth K A.c_Way "__mul__" A.f_WayD_mulD
  m_Way_flipped : Meth K A.c_Way "flipped" A.f_Way_flipped
  sf_Way : PySem.W.selfFirst K A.c_Way = true
  er_Rules : EqRight K mg "Rules" A.c_Rules (okE "Rules" [])
  fs_Family__members : ∀ C, C ∈ ["Family"] → ∃ c fs, CInfo K mg C c fs ∧ "members" ∈ fs
  fs_Rules__letters : ∀ C, C ∈ ["Rules"] → ∃ c fs, CInfo K mg C c fs ∧ "letters" ∈ fs
  fs_Way__leaves : ∀ C, C ∈ ["Way"] → ∃ c fs, CInfo K mg C c fs ∧ "leaves" ∈ fs
  fs_Way__left : ∀ C, C ∈ ["Way"] → ∃ c fs, CInfo K mg C c fs ∧ "left" ∈ fs
  fs_Way__name : ∀ C, C ∈ ["Way"] → ∃ c fs, CInfo K mg C c fs ∧ "name" ∈ fs
  fs_Way__right : ∀ C, C ∈ ["Way"] → ∃ c fs, CInfo K mg C c fs ∧ "right" ∈ fs
  fs_Way__text : ∀ C, C ∈ ["Way"] → ∃ c fs, CInfo K mg C c fs ∧ "text" ∈ fs
  bx_WayError : BaseX K A.c_WayError
  ex_BadRule : ExC K mg "BadRule" A.c_BadRule A.f_BadRuleD_initD ["letter"]
  ex_NoWay : ExC K mg "NoWay" A.c_NoWay A.f_NoWayD_initD ["at"]
  tb_isi : TblOk K mg (tblL tblI)
  ic_isi : ∀ C c, C ∈ csI → mg (Str.ofString C) = some (.ref c) → IsC K c
section
variable {P : Program} {w : World} {K : PySem.W.Frag} {mg : Str → Option Value} {base : Heap} {A : Ad}
theorem sc_l_draws : FnScope ["_law_cell_here", "_law_sizes", "_law_drawn", "_law_left", "_law_at", "_law_mixed"] ["_law_cell_here", "_law_sizes"] (defScope s_l_draws) := ⟨rfl, rfl, rfl, by decide +kernel, rfl, by decide +kernel, by decide +kernel⟩
theorem ok_l_draws (T : Fx w K mg A) (TB : LamX.TabB base mg A.k_Rules_every A.t_Rules_every) : DOk P w K mg base 1 A.f_l_draws A.d_l_draws ["_law_cell_here", "_law_sizes"] F_l_draws := by
  have S := sc_l_draws
  refine funD_ok (st := s_l_draws) (N := ["_law_cell_here", "_law_sizes", "_law_drawn", "_law_left", "_law_at", "_law_mixed"]) (ps := ["_law_cell_here", "_law_sizes"]) (k := 0) (body := m_l_draws) T.F_l_draws S ?_
  intro cdv B outer s H E hr cx
  exact (dss_cons (ds_set (i := 2) (de_cel da_nil) S.nd)
    (dss_cons (ds_set (i := 3) (de_callB callS_abs rfl T.n_abs boot_abs (da_cons (de_name 0) da_nil)) S.nd)
    (dss_cons (ds_for cx (di_range1 rfl T.n_range (da_cons (de_callB callS_len rfl T.n_len boot_len (da_cons (de_name 1) da_nil)) da_nil)) (dg_name S.nd) (dss_one (ds_if (dt_cmp opS_ge (de_callB callS_abs rfl T.n_abs boot_abs (da_cons (de_name 0) da_nil)) (de_op opS_pow de_int de_int)) (dss_cons (ds_expr (de_bm mtS_append F.plainAttrs_list F.slot_list_append F.type_list_append (de_name 2) (da_cons (de_op opS_mod (de_callTy callS_int rfl T.n_int boot_int (da_cons (de_name 3) da_nil)) (de_ix ixS_any (de_name 1) (de_name 4))) da_nil)))
    (dss_one (ds_set (i := 3) (de_op opS_fdiv (de_name 3) (de_ix ixS_any (de_name 1) (de_name 4))) S.nd))) (dss_cons (ds_set (i := 5) (de_op opS_mod (de_callTy callS_int rfl T.n_int boot_int (da_cons (de_op opS_mul (de_op opS_add (de_op opS_add (de_name 3) (de_op opS_mul de_int (de_name 4))) de_int) de_int) da_nil)) de_int) S.nd)
    (dss_cons (ds_set (i := 5) (de_op opS_mod (de_callTy callS_int rfl T.n_int boot_int (da_cons (de_op opS_add (de_op opS_add (de_op opS_mul (de_op opS_mul (de_name 5) (de_name 5)) de_int) (de_op opS_mul de_int (de_name 4))) (de_name 5)) da_nil)) de_int) S.nd)
    (dss_one (ds_expr (de_bm mtS_append F.plainAttrs_list F.slot_list_append F.type_list_append (de_name 2) (da_cons (de_op opS_mod (de_op opS_fdiv (de_name 5) de_int) (de_ix ixS_any (de_name 1) (de_name 4))) da_nil)))))))))
    (dss_one (ds_ret (de_name 2))))))
theorem sc_l_cell : FnScope ["_law_script", "_law_k"] ["_law_script", "_law_k"] (defScope s_l_cell) := ⟨rfl, rfl, rfl, by decide +kernel, rfl, by decide +kernel, by decide +kernel⟩
theorem ok_l_cell (T : Fx w K mg A) (TB : LamX.TabB base mg A.k_Rules_every A.t_Rules_every) : DOk P w K mg base 1 A.f_l_cell A.d_l_cell ["_law_script", "_law_k"] F_l_cell := by
  have S := sc_l_cell
  refine funD_ok (st := s_l_cell) (N := ["_law_script", "_law_k"]) (ps := ["_law_script", "_law_k"]) (k := 0) (body := m_l_cell) T.F_l_cell S ?_
  intro cdv B outer s H E hr cx
  exact (dss_cons (ds_if (dt_cmp opS_lt (de_name 1) (de_callB callS_len rfl T.n_len boot_len (da_cons (de_name 0) da_nil))) (dss_one (ds_ret (de_ix ixS_any (de_name 0) (de_name 1)))) dss_nil)
    (dss_one (ds_ret de_int)))
theorem sc_l_pairs : FnScope ["_law_pairs_here"] [] (defScope s_l_pairs) := ⟨rfl, rfl, rfl, by decide +kernel, rfl, by decide +kernel, by decide +kernel⟩
theorem ok_l_pairs (T : Fx w K mg A) (TB : LamX.TabB base mg A.k_Rules_every A.t_Rules_every) : DOk P w K mg base 1 A.f_l_pairs A.d_l_pairs [] F_l_pairs := by
  have S := sc_l_pairs
  refine funD_ok (st := s_l_pairs) (N := ["_law_pairs_here"]) (ps := []) (k := 0) (body := m_l_pairs) T.F_l_pairs S ?_
  intro cdv B outer s H E hr cx
  exact (dss_cons (ds_set (i := 0) (de_lst (da_cons (de_tup (da_cons (de_str (s := "((x y) t)")) (da_cons (de_str (s := "(x (y t))")) (da_cons (de_lst (da_cons (de_str (s := "A")) da_nil)) da_nil)))) (da_cons (de_tup (da_cons (de_str (s := "(x y)")) (da_cons (de_str (s := "(y x)")) (da_cons (de_lst (da_cons (de_str (s := "C")) da_nil)) da_nil)))) (da_cons (de_tup (da_cons (de_str (s := "(x x)")) (da_cons (de_str (s := "x")) (da_cons (de_lst (da_cons (de_str (s := "I")) da_nil)) da_nil)))) da_nil)))) S.nd)
    (dss_cons (ds_set (i := 0) (de_op opS_add (de_name 0) (de_lst (da_cons (de_tup (da_cons (de_str (s := "(x e)")) (da_cons (de_str (s := "x")) (da_cons (de_lst (da_cons (de_str (s := "U")) da_nil)) da_nil)))) (da_cons (de_tup (da_cons (de_str (s := "((x z) y)")) (da_cons (de_str (s := "z")) (da_cons (de_lst (da_cons (de_str (s := "Z")) da_nil)) da_nil)))) (da_cons (de_tup (da_cons (de_str (s := "((x x) x)")) (da_cons (de_str (s := "(x (x x))")) (da_cons (de_lst (da_cons (de_str (s := "A")) (da_cons (de_str (s := "C")) (da_cons (de_str (s := "I")) da_nil)))) da_nil)))) da_nil))))) S.nd)
    (dss_cons (ds_set (i := 0) (de_op opS_add (de_name 0) (de_lst (da_cons (de_tup (da_cons (de_str (s := "((x y) x)")) (da_cons (de_str (s := "(x (y x))")) (da_cons (de_lst (da_cons (de_str (s := "A")) (da_cons (de_str (s := "C")) da_nil))) da_nil)))) (da_cons (de_tup (da_cons (de_str (s := "((x y) (y x))")) (da_cons (de_str (s := "(x y)")) (da_cons (de_lst (da_cons (de_str (s := "CI")) da_nil)) da_nil)))) da_nil)))) S.nd)
    (dss_cons (ds_set (i := 0) (de_op opS_add (de_name 0) (de_lst (da_cons (de_tup (da_cons (de_str (s := "((x y) (x y))")) (da_cons (de_str (s := "(x y)")) (da_cons (de_lst (da_cons (de_str (s := "I")) da_nil)) da_nil)))) (da_cons (de_tup (da_cons (de_str (s := "((x y) y)")) (da_cons (de_str (s := "(x y)")) (da_cons (de_lst (da_cons (de_str (s := "AI")) da_nil)) da_nil)))) da_nil)))) S.nd)
    (dss_cons (ds_set (i := 0) (de_op opS_add (de_name 0) (de_lst (da_cons (de_tup (da_cons (de_str (s := "((t y) x)")) (da_cons (de_str (s := "(x (y t))")) (da_cons (de_lst (da_cons (de_str (s := "C")) da_nil)) da_nil)))) (da_cons (de_tup (da_cons (de_str (s := "((x y) t)")) (da_cons (de_str (s := "((x t) y)")) (da_cons (de_lst (da_cons (de_str (s := "AC")) da_nil)) da_nil)))) da_nil)))) S.nd)
    (dss_cons (ds_set (i := 0) (de_op opS_add (de_name 0) (de_lst (da_cons (de_tup (da_cons (de_str (s := "((x e) (e y))")) (da_cons (de_str (s := "(x y)")) (da_cons (de_lst (da_cons (de_str (s := "U")) da_nil)) da_nil)))) (da_cons (de_tup (da_cons (de_str (s := "(e e)")) (da_cons (de_str (s := "e")) (da_cons (de_lst (da_cons (de_str (s := "I")) (da_cons (de_str (s := "U")) da_nil))) da_nil)))) (da_cons (de_tup (da_cons (de_str (s := "(z z)")) (da_cons (de_str (s := "z")) (da_cons (de_lst (da_cons (de_str (s := "I")) (da_cons (de_str (s := "Z")) da_nil))) da_nil)))) da_nil))))) S.nd)
    (dss_one (ds_ret (de_op opS_add (de_name 0) (de_lst (da_cons (de_tup (da_cons (de_str (s := "(z e)")) (da_cons (de_str (s := "z")) (da_cons (de_lst (da_cons (de_str (s := "U")) (da_cons (de_str (s := "Z")) da_nil))) da_nil)))) da_nil)))))))))))
theorem sc_expected : FnScope ["text", "at", "sign"] ["text", "at", "sign"] (defScope s_expected) := ⟨rfl, rfl, rfl, by decide +kernel, rfl, by decide +kernel, by decide +kernel⟩
theorem ok_expected (T : Fx w K mg A) (TB : LamX.TabB base mg A.k_Rules_every A.t_Rules_every) : DOk P w K mg base 1 A.f_expected A.d_expected ["text", "at", "sign"] F_expected := by
  have S := sc_expected
  refine funD_ok (st := s_expected) (N := ["text", "at", "sign"]) (ps := ["text", "at", "sign"]) (k := 0) (body := m_expected) T.F_expected S ?_
  intro cdv B outer s H E hr cx
  exact (dss_one (ds_if (DW.dt (dw_or (dt_cmp (opS_eq hr.units) (de_name 1) (de_callB callS_len rfl T.n_len boot_len (da_cons (de_name 0) da_nil))) (dw_or1 (dt_cmp (opS_ne hr.units) (de_ix ixS_any (de_name 0) (de_name 1)) (de_name 2))))) (dss_one ds_never) dss_nil))
theorem sc_end_of : FnScope ["text", "at", "middle", "last", "many"] ["text", "at"] (defScope s_end_of) := ⟨rfl, rfl, rfl, by decide +kernel, rfl, by decide +kernel, by decide +kernel⟩
theorem ok_end_of_r (T : Fx w K mg A) (TB : LamX.TabB base mg A.k_Rules_every A.t_Rules_every) : ∀ d : Nat, DOk P w K mg base (1 + 1 * d) A.f_end_of A.d_end_of ["text", "at"] (R_end_of d)
  | 0 => dok_stuck
  | d + 1 => by
    have ih : DOk P w K mg base (1 + 1 * d) A.f_end_of A.d_end_of ["text", "at"] (R_end_of d) := ok_end_of_r T TB d
    have S := sc_end_of
    refine FnOk.mono (j := 1 + 1 * d + 0 + 1) (funD_ok (st := s_end_of) (N := ["text", "at", "middle", "last", "many"]) (ps := ["text", "at"]) (k := 1 + 1 * d + 0) (body := m_end_of (R_end_of d)) T.F_end_of S ?_) (by omega)
    intro cdv B outer s H E hr cx
    exact (dss_cons (ds_if (dt_cmp (opS_eq hr.units) (de_name 1) (de_callB callS_len rfl T.n_len boot_len (da_cons (de_name 0) da_nil))) (dss_one ds_never) dss_nil)
      (dss_cons (ds_if (dt_cmp (opS_eq hr.units) (de_ix ixS_any (de_name 0) (de_name 1)) (de_str (s := "("))) (dss_cons (ds_set (i := 2) (de_call (x := "end_of") (ps := ["text", "at"]) (ih) (hr.mono (by omega)) cx.tk rfl T.g_end_of T.F_end_of.kp ⟨T.b_end_of_2⟩ (da_cons (de_name 0) (da_cons (de_op opS_add (de_name 1) de_int) da_nil))) S.nd)
      (dss_cons (ds_expr (de_call (x := "expected") (ps := ["text", "at", "sign"]) (ok_expected T TB) (hr.mono (by omega)) cx.tk rfl T.g_expected T.F_expected.kp ⟨T.b_expected_3⟩ (da_cons (de_name 0) (da_cons (de_name 2) (da_cons (de_str (s := " ")) da_nil)))))
      (dss_cons (ds_set (i := 3) (de_call (x := "end_of") (ps := ["text", "at"]) (ih) (hr.mono (by omega)) cx.tk rfl T.g_end_of T.F_end_of.kp ⟨T.b_end_of_2⟩ (da_cons (de_name 0) (da_cons (de_op opS_add (de_name 2) de_int) da_nil))) S.nd)
      (dss_cons (ds_expr (de_call (x := "expected") (ps := ["text", "at", "sign"]) (ok_expected T TB) (hr.mono (by omega)) cx.tk rfl T.g_expected T.F_expected.kp ⟨T.b_expected_3⟩ (da_cons (de_name 0) (da_cons (de_name 3) (da_cons (de_str (s := ")")) da_nil)))))
      (dss_one (ds_ret (de_op opS_add (de_name 3) de_int))))))) dss_nil)
      (dss_cons (ds_set (i := 4) de_int S.nd)
      (dss_cons (ds_while (n := 1000) cx (DW.dt (dw_and (dt_cmp opS_lt (de_op opS_add (de_name 1) (de_name 4)) (de_callB callS_len rfl T.n_len boot_len (da_cons (de_name 0) da_nil))) (dw_and (dt_cmp (opS_in (room65 hr)) (de_ix ixS_any (de_name 0) (de_op opS_add (de_name 1) (de_name 4))) (de_gstr' T.s_LETTERS_ways rfl)) (dw_and1 (dt_cmp opS_lt (de_name 4) (de_gint' T.s_LONGEST_NAME rfl)))))) (dss_one (ds_aug (i := 4) iopS_addX de_int S.nd)))
      (dss_cons (ds_if (dt_cmp (opS_eq hr.units) (de_name 4) de_int) (dss_one ds_never) dss_nil)
      (dss_one (ds_ret (de_op opS_add (de_name 1) (de_name 4)))))))))
theorem ok_end_of (T : Fx w K mg A) (TB : LamX.TabB base mg A.k_Rules_every A.t_Rules_every) : DOk P w K mg base 31 A.f_end_of A.d_end_of ["text", "at"] F_end_of := ok_end_of_r T TB 30
theorem sc_WayD_initD : FnScope ["self", "text", "end", "middle"] ["self", "text"] (defScope s_WayD_initD) := ⟨rfl, rfl, rfl, by decide +kernel, rfl, by decide +kernel, by decide +kernel⟩
theorem ok_WayD_initD_r (T : Fx w K mg A) (TB : LamX.TabB base mg A.k_Rules_every A.t_Rules_every) : ∀ d : Nat, DOk P w K mg base (31 + 2 * d) A.f_WayD_initD A.d_WayD_initD ["self", "text"] (R_WayD_initD d)
  | 0 => dok_stuck
  | d + 1 => by
    have ih : DOk P w K mg base (31 + 2 * d) A.f_WayD_initD A.d_WayD_initD ["self", "text"] (R_WayD_initD d) := ok_WayD_initD_r T TB d
    have S := sc_WayD_initD
    refine FnOk.mono (j := 31 + 2 * d + 1 + 1) (funD_ok (st := s_WayD_initD) (N := ["self", "text", "end", "middle"]) (ps := ["self", "text"]) (k := 31 + 2 * d + 1) (body := m_WayD_initD (R_WayD_initD d)) T.F_WayD_initD S ?_) (by omega)
    intro cdv B outer s H E hr cx
    exact (dss_cons (ds_set (i := 2) (de_call (x := "end_of") (ps := ["text", "at"]) (ok_end_of T TB) (hr.mono (by omega)) cx.tk rfl T.g_end_of T.F_end_of.kp ⟨T.b_end_of_2⟩ (da_cons (de_name 1) (da_cons de_int da_nil))) S.nd)
      (dss_cons (ds_if (dt_cmp opS_lt (de_name 2) (de_callB callS_len rfl T.n_len boot_len (da_cons (de_name 1) da_nil))) (dss_one ds_never) dss_nil)
      (dss_cons (ds_fld (cs := ["Way"]) (f := "text") T.fs_Way__text (de_name 0) (de_name 1) rfl)
      (dss_cons (ds_fld (cs := ["Way"]) (f := "name") T.fs_Way__name (de_name 0) (de_str (s := "")) rfl)
      (dss_cons (ds_fld (cs := ["Way"]) (f := "left") T.fs_Way__left (de_name 0) de_non rfl)
      (dss_cons (ds_fld (cs := ["Way"]) (f := "right") T.fs_Way__right (de_name 0) de_non rfl)
      (dss_one (ds_if (dt_cmp (opS_eq hr.units) (de_ix ixS_any (de_name 1) de_int) (de_str (s := "("))) (dss_cons (ds_set (i := 3) (de_call (x := "end_of") (ps := ["text", "at"]) (ok_end_of T TB) (hr.mono (by omega)) cx.tk rfl T.g_end_of T.F_end_of.kp ⟨T.b_end_of_2⟩ (da_cons (de_name 1) (da_cons de_int da_nil))) S.nd)
      (dss_cons (ds_fld (cs := ["Way"]) (f := "left") T.fs_Way__left (de_name 0) (de_mk (C := "Way") (ps := ["self", "text"]) mkAs_T T.ci_Way T.mk_Way (ih) (hr.mono (by omega)) cx.tk rfl ⟨T.b_WayD_initD_2⟩ (da_cons (de_sl (de_name 1) (do_some de_int) (do_some (de_name 3))) da_nil)) rfl)
      (dss_cons (ds_fld (cs := ["Way"]) (f := "right") T.fs_Way__right (de_name 0) (de_mk (C := "Way") (ps := ["self", "text"]) mkAs_T T.ci_Way T.mk_Way (ih) (hr.mono (by omega)) cx.tk rfl ⟨T.b_WayD_initD_2⟩ (da_cons (de_sl (de_name 1) (do_some (de_op opS_add (de_name 3) de_int)) (do_some (de_un unS_neg de_int))) da_nil)) rfl)
      (dss_one (ds_fld (cs := ["Way"]) (f := "leaves") T.fs_Way__leaves (de_name 0) (de_op opS_add (de_fld (cs := ["Way"]) (f := "leaves") (T.fs_Way__leaves) (de_fld (cs := ["Way"]) (f := "left") (T.fs_Way__left) (de_name 0))) (de_fld (cs := ["Way"]) (f := "leaves") (T.fs_Way__leaves) (de_fld (cs := ["Way"]) (f := "right") (T.fs_Way__right) (de_name 0)))) rfl))))) (dss_cons (ds_fld (cs := ["Way"]) (f := "name") T.fs_Way__name (de_name 0) (de_name 1) rfl)
      (dss_one (ds_fld (cs := ["Way"]) (f := "leaves") T.fs_Way__leaves (de_name 0) (de_tup (da_cons (de_name 1) da_nil)) rfl)))))))))))
theorem ok_WayD_initD (T : Fx w K mg A) (TB : LamX.TabB base mg A.k_Rules_every A.t_Rules_every) : DOk P w K mg base 91 A.f_WayD_initD A.d_WayD_initD ["self", "text"] F_WayD_initD := ok_WayD_initD_r T TB 30
theorem sc_l_renamed : FnScope ["_law_text", "_law_names"] ["_law_text", "_law_names"] (defScope s_l_renamed) := ⟨rfl, rfl, rfl, by decide +kernel, rfl, by decide +kernel, by decide +kernel⟩
theorem ok_l_renamed (T : Fx w K mg A) (a : Addr) (ob : Obj) (w0 w1 w2 : List Nat) : FnOkR P w K mg base (L2.CX P w) 1 A.f_l_renamed A.d_l_renamed ["_law_text", "_law_names"] (RwR a ob w0 w1 w2) (spR a w0 w1 w2) := by
  have S := sc_l_renamed
  refine renR_ok (st := s_l_renamed) (N := ["_law_text", "_law_names"]) (ps := ["_law_text", "_law_names"]) (k := 0) T.F_l_renamed S (by decide +kernel) rfl (by decide) ?_
  intro cdv B outer s H E e n nf r3
  exact ren_body S.nd rfl rfl (Or.inl rfl) (Or.inl rfl) (Or.inl rfl) (.inl rfl) e n nf rfl r3 (by decide) (by decide) (by decide) (by decide) rfl rfl rfl rfl rfl rfl rfl
theorem sc_WayD_mulD : FnScope ["self", "other"] ["self", "other"] (defScope s_WayD_mulD) := ⟨rfl, rfl, rfl, by decide +kernel, rfl, by decide +kernel, by decide +kernel⟩
theorem ok_WayD_mulD (T : Fx w K mg A) (TB : LamX.TabB base mg A.k_Rules_every A.t_Rules_every) : DOk P w K mg base 93 A.f_WayD_mulD A.d_WayD_mulD ["self", "other"] F_WayD_mulD := by
  have S := sc_WayD_mulD
  refine funD_ok (st := s_WayD_mulD) (N := ["self", "other"]) (ps := ["self", "other"]) (k := 92) (body := m_WayD_mulD) T.F_WayD_mulD S ?_
  intro cdv B outer s H E hr cx
  exact (dss_one (ds_ret (de_mk (C := "Way") (ps := ["self", "text"]) mkAs_T T.ci_Way T.mk_Way (ok_WayD_initD T TB) (hr.mono (by omega)) cx.tk rfl ⟨T.b_WayD_initD_2⟩ (da_cons (de_fstr (DJ.cons (de_str (s := "(")) (DJ.cons (de_fmt (de_fld (cs := ["Way"]) (f := "text") (T.fs_Way__text) (de_name 0))) (DJ.cons (de_str (s := " ")) (DJ.cons (de_fmt (de_fld (cs := ["Way"]) (f := "text") (T.fs_Way__text) (de_name 1))) (DJ.cons (de_str (s := ")")) DJ.nil)))))) da_nil))))
theorem sc_Way_flipped : FnScope ["self"] ["self"] (defScope s_Way_flipped) := ⟨rfl, rfl, rfl, by decide +kernel, rfl, by decide +kernel, by decide +kernel⟩
theorem ok_Way_flipped_r (T : Fx w K mg A) (TB : LamX.TabB base mg A.k_Rules_every A.t_Rules_every) : ∀ d : Nat, DOk P w K mg base (93 + 1 * d) A.f_Way_flipped A.d_Way_flipped ["self"] (R_Way_flipped d)
  | 0 => dok_stuck
  | d + 1 => by
    have ih : DOk P w K mg base (93 + 1 * d) A.f_Way_flipped A.d_Way_flipped ["self"] (R_Way_flipped d) := ok_Way_flipped_r T TB d
    have S := sc_Way_flipped
    refine FnOk.mono (j := 93 + 1 * d + 0 + 1) (funD_ok (st := s_Way_flipped) (N := ["self"]) (ps := ["self"]) (k := 93 + 1 * d + 0) (body := m_Way_flipped (R_Way_flipped d)) T.F_Way_flipped S ?_) (by omega)
    intro cdv B outer s H E hr cx
    exact (dss_cons (ds_if (dt_cmp opS_isNF (de_fld (cs := ["Way"]) (f := "left") (T.fs_Way__left) (de_name 0)) de_non) (dss_one (ds_ret (de_name 0))) dss_nil)
      (dss_one (ds_ret (de_op (opS_binO (C := "Way") (nm := "__mul__") rfl T.g_Way T.sf_Way T.m_WayD_mulD.at_ T.m_WayD_mulD.fn T.bd_WayD_mulD (ok_WayD_mulD T TB) (hr.mono (by omega))) (de_meth0 (C := "Way") (ps := ["self"]) T.ci_Way T.m_Way_flipped (ih) (hr.mono (by omega)) cx.tk ⟨T.b_Way_flipped_1⟩ (de_fld (cs := ["Way"]) (f := "right") (T.fs_Way__right) (de_name 0))) (de_meth0 (C := "Way") (ps := ["self"]) T.ci_Way T.m_Way_flipped (ih) (hr.mono (by omega)) cx.tk ⟨T.b_Way_flipped_1⟩ (de_fld (cs := ["Way"]) (f := "left") (T.fs_Way__left) (de_name 0)))))))
theorem ok_Way_flipped (T : Fx w K mg A) (TB : LamX.TabB base mg A.k_Rules_every A.t_Rules_every) : DOk P w K mg base 123 A.f_Way_flipped A.d_Way_flipped ["self"] F_Way_flipped := ok_Way_flipped_r T TB 30
theorem sc_RulesD_strD : FnScope ["self"] ["self"] (defScope s_RulesD_strD) := ⟨rfl, rfl, rfl, by decide +kernel, rfl, by decide +kernel, by decide +kernel⟩
theorem ok_RulesD_strD (T : Fx w K mg A) (TB : LamX.TabB base mg A.k_Rules_every A.t_Rules_every) : DOk P w K mg base 1 A.f_RulesD_strD A.d_RulesD_strD ["self"] F_RulesD_strD := by
  have S := sc_RulesD_strD
  refine funD_ok (st := s_RulesD_strD) (N := ["self"]) (ps := ["self"]) (k := 0) (body := m_RulesD_strD) T.F_RulesD_strD S ?_
  intro cdv B outer s H E hr cx
  exact (dss_one (ds_ret (de_callTy callS_strS rfl T.n_str boot_str (da_cons (de_fld (cs := ["Rules"]) (f := "letters") (T.fs_Rules__letters) (de_name 0)) da_nil))))
theorem sc_Rules_within : FnScope ["self", "other", "letter"] ["self", "other"] (defScope s_Rules_within) := ⟨rfl, rfl, rfl, by decide +kernel, rfl, by decide +kernel, by decide +kernel⟩
theorem ok_Rules_within (T : Fx w K mg A) (TB : LamX.TabB base mg A.k_Rules_every A.t_Rules_every) : DOk P w K mg base 1 A.f_Rules_within A.d_Rules_within ["self", "other"] F_Rules_within := by
  have S := sc_Rules_within
  refine funD_ok (st := s_Rules_within) (N := ["self", "other", "letter"]) (ps := ["self", "other"]) (k := 0) (body := m_Rules_within) T.F_Rules_within S ?_
  intro cdv B outer s H E hr cx
  exact (dss_one (ds_ret (de_callB (callS_all cx.calm) rfl T.n_all boot_all (da_cons (de_lc (own := [("letter", 2)]) cx.calm S.nd (di_any (de_fld (cs := ["Rules"]) (f := "letters") (T.fs_Rules__letters) (de_name 0))) (blkOk_by (by first | kernel_rfl | decide +kernel)) (by decide) (fun _ _ _ _ _ => (dg_name S.nd)) (fun _ _ _ _ _ => by exact dts_nil) (fun _ _ _ _ _ => by exact (de_cmp (opS_in (room65 hr)) (de_name 2) (de_fld (cs := ["Rules"]) (f := "letters") (T.fs_Rules__letters) (de_name 1))))) da_nil))))
theorem sc_RulesD_eqD : FnScope ["self", "other"] ["self", "other"] (defScope s_RulesD_eqD) := ⟨rfl, rfl, rfl, by decide +kernel, rfl, by decide +kernel, by decide +kernel⟩
theorem ok_RulesD_eqD (T : Fx w K mg A) (TB : LamX.TabB base mg A.k_Rules_every A.t_Rules_every) : DOk P w K mg base 1 A.f_RulesD_eqD A.d_RulesD_eqD ["self", "other"] F_RulesD_eqD := by
  have S := sc_RulesD_eqD
  refine funD_ok (st := s_RulesD_eqD) (N := ["self", "other"]) (ps := ["self", "other"]) (k := 0) (body := m_RulesD_eqD) T.F_RulesD_eqD S ?_
  intro cdv B outer s H E hr cx
  exact (dss_one (ds_ret (de_and (de_callB (callS_isi T.ic_isi T.tb_isi) rfl T.n_isinstance boot_isinstance (da_cons (de_name 1) (da_cons (de_glo rfl T.g_Rules) da_nil))) (de_one (de_cmp (opS_eq hr.units) (de_fld (cs := ["Rules"]) (f := "letters") (T.fs_Rules__letters) (de_name 0)) (de_fld (cs := ["Rules"]) (f := "letters") (T.fs_Rules__letters) (de_name 1)))))))
theorem sc_Family_above_another : FnScope ["self", "rules", "member"] ["self", "rules"] (defScope s_Family_above_another) := ⟨rfl, rfl, rfl, by decide +kernel, rfl, by decide +kernel, by decide +kernel⟩
theorem ok_Family_above_another (T : Fx w K mg A) (TB : LamX.TabB base mg A.k_Rules_every A.t_Rules_every) : DOk P w K mg base 2 A.f_Family_above_another A.d_Family_above_another ["self", "rules"] F_Family_above_another := by
  have S := sc_Family_above_another
  refine funD_ok (st := s_Family_above_another) (N := ["self", "rules", "member"]) (ps := ["self", "rules"]) (k := 1) (body := m_Family_above_another) T.F_Family_above_another S ?_
  intro cdv B outer s H E hr cx
  exact (dss_one (ds_ret (de_callB (callS_any cx.calm) rfl T.n_any boot_any (da_cons (de_lc (own := [("member", 2)]) cx.calm S.nd (di_any (de_fld (cs := ["Family"]) (f := "members") (T.fs_Family__members) (de_name 0))) (blkOk_by (by first | kernel_rfl | decide +kernel)) (by decide) (fun _ _ _ _ _ => (dg_name S.nd)) (fun _ _ _ _ _ => by exact dts_nil) (fun _ _ _ _ _ => by exact (de_and (de_meth (C := "Rules") (ps := ["self", "other"]) T.ci_Rules T.m_Rules_within (ok_Rules_within T TB) (hr.mono (by omega)) takes0 ⟨T.b_Rules_within_2⟩ (de_name 2) (da_cons (de_name 1) da_nil)) (de_one (de_not (de_cmp (opS_eqO (C := "Rules") T.g_Rules T.er_Rules T.m_RulesD_eqD.at_ T.m_RulesD_eqD.fn T.bd_RulesD_eqD (ok_RulesD_eqD T TB) (hr.mono (by omega))) (de_name 2) (de_name 1))))))) da_nil))))
theorem sc_Family_least : FnScope ["self", "rules"] ["self"] (defScope s_Family_least) := ⟨rfl, rfl, rfl, by decide +kernel, rfl, by decide +kernel, by decide +kernel⟩
theorem ok_Family_least (T : Fx w K mg A) (TB : LamX.TabB base mg A.k_Rules_every A.t_Rules_every) : DOk P w K mg base 3 A.f_Family_least A.d_Family_least ["self"] F_Family_least := by
  have S := sc_Family_least
  refine funD_ok (st := s_Family_least) (N := ["self", "rules"]) (ps := ["self"]) (k := 2) (body := m_Family_least) T.F_Family_least S ?_
  intro cdv B outer s H E hr cx
  exact (dss_one (ds_ret (de_lc (own := [("rules", 1)]) cx.calm S.nd (di_any (de_fld (cs := ["Family"]) (f := "members") (T.fs_Family__members) (de_name 0))) (blkOk_by (by first | kernel_rfl | decide +kernel)) (by decide) (fun _ _ _ _ _ => (dg_name S.nd)) (fun _ _ _ _ _ => by exact (dts_one (dt_not (dt_tru (de_meth (C := "Family") (ps := ["self", "rules"]) T.ci_Family T.m_Family_above_another (ok_Family_above_another T TB) (hr.mono (by omega)) takes0 ⟨T.b_Family_above_another_2⟩ (de_name 0) (da_cons (de_name 1) da_nil)))))) (fun _ _ _ _ _ => by exact (de_name 1)))))
theorem sc_RulesD_initD : FnScope ["self", "letters", "letter"] ["self", "letters"] (defScope s_RulesD_initD) := ⟨rfl, rfl, rfl, by decide +kernel, rfl, by decide +kernel, by decide +kernel⟩
theorem ok_RulesD_initD (T : Fx w K mg A) (TB : LamX.TabB base mg A.k_Rules_every A.t_Rules_every) : DOk P w K mg base 1 A.f_RulesD_initD A.d_RulesD_initD ["self", "letters"] F_RulesD_initD := by
  have S := sc_RulesD_initD
  refine funD_ok (st := s_RulesD_initD) (N := ["self", "letters", "letter"]) (ps := ["self", "letters"]) (k := 0) (body := m_RulesD_initD) T.F_RulesD_initD S ?_
  intro cdv B outer s H E hr cx
  exact (dss_cons (ds_for cx (di_any (de_name 1)) (dg_name S.nd) (dss_one (ds_if (dt_cmp (opS_notIn (room65 hr)) (de_name 2) (de_gstr' T.s_LETTERS_rules rfl)) (dss_one ds_never) dss_nil)))
    (dss_one (ds_fld (cs := ["Rules"]) (f := "letters") T.fs_Rules__letters (de_name 0) (de_bm mtS_join F.plainAttrs_str F.slot_str_join F.type_str_join (de_str (s := "")) (da_cons (de_lc (own := [("letter", 2)]) cx.calm S.nd (di_any (de_gstr' T.s_LETTERS_rules rfl)) (blkOk_by (by first | kernel_rfl | decide +kernel)) (by decide) (fun _ _ _ _ _ => (dg_name S.nd)) (fun _ _ _ _ _ => by exact (dts_one (dt_cmp (opS_in (room65 hr)) (de_name 2) (de_name 1)))) (fun _ _ _ _ _ => by exact (de_name 2))) da_nil)) rfl)))
theorem sc_Rules_every : FnScope ["cls", "rows", "letter", "row"] ["cls"] (defScope s_Rules_every) := ⟨rfl, rfl, rfl, by decide +kernel, rfl, by decide +kernel, by decide +kernel⟩
theorem ok_Rules_every (T : Fx w K mg A) (TB : LamX.TabB base mg A.k_Rules_every A.t_Rules_every) : DOk P w K mg base 3 A.f_Rules_every A.d_Rules_every ["cls"] F_Rules_every := by
  have S := sc_Rules_every
  refine funC_ok (st := s_Rules_every) (N := ["cls", "rows", "letter", "row"]) (ps := ["cls"]) (k := 2) (body := m_Rules_every) T.FC_Rules_every S ?_
  intro B outer s H E hr cx
  exact (dss_cons (ds_set (i := 1) (de_lst (da_cons (de_str (s := "")) da_nil)) S.nd)
    (dss_cons (ds_for cx (di_any (de_gstr' T.s_LETTERS_rules rfl)) (dg_name S.nd) (dss_one (ds_set (i := 1) (de_op opS_add (de_name 1) (de_lc (own := [("row", 3)]) cx.calm S.nd (di_any (de_name 1)) (blkOk_by (by first | kernel_rfl | decide +kernel)) (by decide) (fun _ _ _ _ _ => (dg_name S.nd)) (fun _ _ _ _ _ => by exact dts_nil) (fun _ _ _ _ _ => by exact (de_op opS_add (de_name 3) (de_name 2))))) S.nd)))
    (dss_one (ds_ret (de_lc (own := [("row", 3)]) cx.calm S.nd (di_any (de_sortLen (i := 0) (C := "Rules") (m := "every") (x := "row") ⟨⟨_, _, _, _, _, _, rfl⟩, rfl, rfl, rfl, by decide, rfl, rfl, by decide, fun _ _ _ _ _ _ => rfl⟩ (by decide) TB rfl (by kernel_rfl) T.it_Rules_every rfl T.n_sorted T.n_len hr (de_name 1))) (blkOk_by (by first | kernel_rfl | decide +kernel)) (by decide) (fun _ _ _ _ _ => (dg_name S.nd)) (fun _ _ _ _ _ => by exact dts_nil) (fun _ _ _ _ _ => by exact (de_mk (C := "Rules") (ps := ["self", "letters"]) mkAs_T T.ci_Rules T.mk_Rules (ok_RulesD_initD T TB) (hr.mono (by omega)) takes0 rfl ⟨T.b_RulesD_initD_2⟩ (da_cons (de_name 3) da_nil))))))))
theorem sc_FamilyD_initD : FnScope ["self", "sets", "rules", "part"] ["self", "sets"] (defScope s_FamilyD_initD) := ⟨rfl, rfl, rfl, by decide +kernel, rfl, by decide +kernel, by decide +kernel⟩
theorem ok_FamilyD_initD (T : Fx w K mg A) (TB : LamX.TabB base mg A.k_Rules_every A.t_Rules_every) : DOkV P w K mg base 4 A.f_FamilyD_initD F_FamilyD_initD := by
  have S := sc_FamilyD_initD
  refine funV_ok (st := s_FamilyD_initD) (N := ["self", "sets", "rules", "part"]) (ps := ["self"]) (pv := "sets") (k := 3) (body := m_FamilyD_initD) T.F_FamilyD_initD S T.bv_FamilyD_initD ?_
  intro cdv B outer s H E hr cx
  exact (dss_one (ds_fld (cs := ["Family"]) (f := "members") T.fs_Family__members (de_name 0) (de_lc (own := [("rules", 2)]) cx.calm S.nd (di_any (de_cmeth0 (C := "Rules") (m := "every") (ps := ["cls"]) rfl T.g_Rules T.cr_Rules T.cm_Rules_every (ok_Rules_every T TB) (hr.mono (by omega)) cx.tk rfl T.bd_Rules_every)) (blkOk_by (by first | kernel_rfl | decide +kernel)) (by decide) (fun _ _ _ _ _ => (dg_name S.nd)) (fun _ _ _ _ _ => by exact (dts_one (dt_tru (de_callB (callS_any cx.calm) rfl T.n_any boot_any (da_cons (de_lc (own := [("part", 3)]) cx.calm S.nd (di_any (de_name 1)) (blkOk_by (by first | kernel_rfl | decide +kernel)) (by decide) (fun _ _ _ _ _ => (dg_name S.nd)) (fun _ _ _ _ _ => by exact dts_nil) (fun _ _ _ _ _ => by exact (de_meth (C := "Rules") (ps := ["self", "other"]) T.ci_Rules T.m_Rules_within (ok_Rules_within T TB) (hr.mono (by omega)) takes0 ⟨T.b_Rules_within_2⟩ (de_name 3) (da_cons (de_name 2) da_nil)))) da_nil))))) (fun _ _ _ _ _ => by exact (de_name 2))) rfl))
theorem sc_RulesD_containsD : FnScope ["self", "letter"] ["self", "letter"] (defScope s_RulesD_containsD) := ⟨rfl, rfl, rfl, by decide +kernel, rfl, by decide +kernel, by decide +kernel⟩
theorem ok_RulesD_containsD (T : Fx w K mg A) (TB : LamX.TabB base mg A.k_Rules_every A.t_Rules_every) : DOk P w K mg base 1 A.f_RulesD_containsD A.d_RulesD_containsD ["self", "letter"] F_RulesD_containsD := by
  have S := sc_RulesD_containsD
  refine funD_ok (st := s_RulesD_containsD) (N := ["self", "letter"]) (ps := ["self", "letter"]) (k := 0) (body := m_RulesD_containsD) T.F_RulesD_containsD S ?_
  intro cdv B outer s H E hr cx
  exact (dss_one (ds_ret (de_and (de_cmp (opS_eq hr.units) (de_callB callS_len rfl T.n_len boot_len (da_cons (de_name 1) da_nil)) de_int) (de_one (de_cmp (opS_in (room65 hr)) (de_name 1) (de_fld (cs := ["Rules"]) (f := "letters") (T.fs_Rules__letters) (de_name 0)))))))
theorem sc_tree_form : FnScope ["way", "rules", "first", "second"] ["way", "rules"] (defScope s_tree_form) := ⟨rfl, rfl, rfl, by decide +kernel, rfl, by decide +kernel, by decide +kernel⟩
theorem ok_tree_form_r (T : Fx w K mg A) (TB : LamX.TabB base mg A.k_Rules_every A.t_Rules_every) : ∀ d : Nat, DOk P w K mg base (1 + 1 * d) A.f_tree_form A.d_tree_form ["way", "rules"] (R_tree_form d)
  | 0 => dok_stuck
  | d + 1 => by
    have ih : DOk P w K mg base (1 + 1 * d) A.f_tree_form A.d_tree_form ["way", "rules"] (R_tree_form d) := ok_tree_form_r T TB d
    have S := sc_tree_form
    refine FnOk.mono (j := 1 + 1 * d + 0 + 1) (funD_ok (st := s_tree_form) (N := ["way", "rules", "first", "second"]) (ps := ["way", "rules"]) (k := 1 + 1 * d + 0) (body := m_tree_form (R_tree_form d)) T.F_tree_form S ?_) (by omega)
    intro cdv B outer s H E hr cx
    exact (dss_cons (ds_if (dt_cmp opS_isNF (de_fld (cs := ["Way"]) (f := "left") (T.fs_Way__left) (de_name 0)) de_non) (dss_one (ds_ret (de_fld (cs := ["Way"]) (f := "name") (T.fs_Way__name) (de_name 0)))) dss_nil)
      (dss_cons (ds_set (i := 2) (de_call (x := "tree_form") (ps := ["way", "rules"]) (ih) (hr.mono (by omega)) cx.tk rfl T.g_tree_form T.F_tree_form.kp ⟨T.b_tree_form_2⟩ (da_cons (de_fld (cs := ["Way"]) (f := "left") (T.fs_Way__left) (de_name 0)) (da_cons (de_name 1) da_nil))) S.nd)
      (dss_cons (ds_set (i := 3) (de_call (x := "tree_form") (ps := ["way", "rules"]) (ih) (hr.mono (by omega)) cx.tk rfl T.g_tree_form T.F_tree_form.kp ⟨T.b_tree_form_2⟩ (da_cons (de_fld (cs := ["Way"]) (f := "right") (T.fs_Way__right) (de_name 0)) (da_cons (de_name 1) da_nil))) S.nd)
      (dss_cons (ds_if (DW.dt (dw_and (dt_cmp (opS_inO (C := "Rules") false T.g_Rules T.m_RulesD_containsD.at_ T.m_RulesD_containsD.fn T.bd_RulesD_containsD (ok_RulesD_containsD T TB) (hr.mono (by omega))) (de_str (s := "Z")) (de_name 1)) (dw_and1 (DW.dt (dw_or (dt_cmp (opS_eq hr.units) (de_name 2) (de_str (s := "z"))) (dw_or1 (dt_cmp (opS_eq hr.units) (de_name 3) (de_str (s := "z"))))))))) (dss_one (ds_ret (de_str (s := "z")))) dss_nil)
      (dss_cons (ds_if (DW.dt (dw_and (dt_cmp (opS_inO (C := "Rules") false T.g_Rules T.m_RulesD_containsD.at_ T.m_RulesD_containsD.fn T.bd_RulesD_containsD (ok_RulesD_containsD T TB) (hr.mono (by omega))) (de_str (s := "U")) (de_name 1)) (dw_and1 (dt_cmp (opS_eq hr.units) (de_name 2) (de_str (s := "e")))))) (dss_one (ds_ret (de_name 3))) dss_nil)
      (dss_cons (ds_if (DW.dt (dw_and (dt_cmp (opS_inO (C := "Rules") false T.g_Rules T.m_RulesD_containsD.at_ T.m_RulesD_containsD.fn T.bd_RulesD_containsD (ok_RulesD_containsD T TB) (hr.mono (by omega))) (de_str (s := "U")) (de_name 1)) (dw_and1 (dt_cmp (opS_eq hr.units) (de_name 3) (de_str (s := "e")))))) (dss_one (ds_ret (de_name 2))) dss_nil)
      (dss_cons (ds_if (DW.dt (dw_and (dt_cmp (opS_inO (C := "Rules") false T.g_Rules T.m_RulesD_containsD.at_ T.m_RulesD_containsD.fn T.bd_RulesD_containsD (ok_RulesD_containsD T TB) (hr.mono (by omega))) (de_str (s := "I")) (de_name 1)) (dw_and1 (dt_cmp (opS_eq hr.units) (de_name 2) (de_name 3))))) (dss_one (ds_ret (de_name 2))) dss_nil)
      (dss_cons (ds_if (DW.dt (dw_and (dt_cmp (opS_inO (C := "Rules") false T.g_Rules T.m_RulesD_containsD.at_ T.m_RulesD_containsD.fn T.bd_RulesD_containsD (ok_RulesD_containsD T TB) (hr.mono (by omega))) (de_str (s := "C")) (de_name 1)) (dw_and1 (dt_cmp opS_lt (de_name 3) (de_name 2))))) (dss_one (ds_ret (de_fstr (DJ.cons (de_str (s := "(")) (DJ.cons (de_fmt (de_name 3)) (DJ.cons (de_str (s := " ")) (DJ.cons (de_fmt (de_name 2)) (DJ.cons (de_str (s := ")")) DJ.nil)))))))) dss_nil)
      (dss_one (ds_ret (de_fstr (DJ.cons (de_str (s := "(")) (DJ.cons (de_fmt (de_name 2)) (DJ.cons (de_str (s := " ")) (DJ.cons (de_fmt (de_name 3)) (DJ.cons (de_str (s := ")")) DJ.nil))))))))))))))))
theorem ok_tree_form (T : Fx w K mg A) (TB : LamX.TabB base mg A.k_Rules_every A.t_Rules_every) : DOk P w K mg base 31 A.f_tree_form A.d_tree_form ["way", "rules"] F_tree_form := ok_tree_form_r T TB 30
theorem sc_different : FnScope ["word"] ["word"] (defScope s_different) := ⟨rfl, rfl, rfl, by decide +kernel, rfl, by decide +kernel, by decide +kernel⟩
theorem ok_different (T : Fx w K mg A) (TB : LamX.TabB base mg A.k_Rules_every A.t_Rules_every) : DOk P w K mg base 1 A.f_different A.d_different ["word"] F_different := by
  have S := sc_different
  refine funD_ok (st := s_different) (N := ["word"]) (ps := ["word"]) (k := 0) (body := m_different) T.F_different S ?_
  intro cdv B outer s H E hr cx
  exact (dss_one (ds_ret (de_lenZ rfl T.n_len (dz_set cx.calm rfl T.n_set (de_name 0)))))
theorem sc_beginning : FnScope ["word", "many", "met", "at", "letter"] ["word"] (defScope s_beginning) := ⟨rfl, rfl, rfl, by decide +kernel, rfl, by decide +kernel, by decide +kernel⟩
theorem ok_beginning (T : Fx w K mg A) (TB : LamX.TabB base mg A.k_Rules_every A.t_Rules_every) : DOk P w K mg base 2 A.f_beginning A.d_beginning ["word"] F_beginning := by
  have S := sc_beginning
  refine DOk.close (funD_ok (st := s_beginning) (N := ["word", "many", "met", "at", "letter"]) (ps := ["word"]) (k := 1) (body := m_beginning) T.F_beginning S ?_)
  intro cdv B outer s H E hr cx
  exact (dss_cons (ds_set (i := 1) (de_call (x := "different") (ps := ["word"]) (ok_different T TB) (hr.mono (by omega)) cx.tk rfl T.g_different T.F_different.kp ⟨T.b_different_1⟩ (da_cons (de_name 0) da_nil)) S.nd)
    (dss_cons (ds_set (i := 2) de_dic S.nd)
    (dss_cons (ds_for cx (di_enumX rfl T.n_enumerate (de_name 0)) (dg_tup cx.calm (dgs_cons (dgs_cons dgs_nil S.nd) S.nd)) (dss_cons (ds_dput (Nat.lt_of_le_of_lt (Nat.add_le_add_left (by decide) _) (room65 hr)) (de_name 2) (de_name 4) de_bl)
    (dss_one (ds_if (dt_cmp (opS_eq hr.units) (de_callB callS_lenX rfl T.n_len boot_len (da_cons (de_name 2) da_nil)) (de_name 1)) (dss_one (ds_ret (de_tup (da_cons (de_callTy callS_list rfl T.n_list boot_list (da_cons (de_sl (de_name 0) do_none (do_some (de_name 3))) da_nil)) (da_cons (de_name 4) da_nil))))) dss_nil))))
    (dss_one (ds_ret (de_tup (da_cons (de_lst da_nil) (da_cons (de_str (s := "")) da_nil))))))))
theorem sc_ending : FnScope ["word", "p", "a"] ["word"] (defScope s_ending) := ⟨rfl, rfl, rfl, by decide +kernel, rfl, by decide +kernel, by decide +kernel⟩
theorem ok_ending (T : Fx w K mg A) (TB : LamX.TabB base mg A.k_Rules_every A.t_Rules_every) : DOk P w K mg base 3 A.f_ending A.d_ending ["word"] F_ending := by
  have S := sc_ending
  refine funD_ok (st := s_ending) (N := ["word", "p", "a"]) (ps := ["word"]) (k := 2) (body := m_ending) T.F_ending S ?_
  intro cdv B outer s H E hr cx
  exact (dss_cons (ds_unp (de_call (x := "beginning") (ps := ["word"]) (ok_beginning T TB) (hr.mono (by omega)) cx.tk rfl T.g_beginning T.F_beginning.kp ⟨T.b_beginning_1⟩ (da_cons (de_revA (de_name 0)) da_nil)) (dg_tup cx.calm (dgs_cons (dgs_cons dgs_nil S.nd) S.nd)))
    (dss_one (ds_ret (de_tup (da_cons (de_name 2) (da_cons (de_revA (de_name 1)) da_nil))))))
theorem sc_merged : FnScope ["left", "right", "k"] ["left", "right"] (defScope s_merged) := ⟨rfl, rfl, rfl, by decide +kernel, rfl, by decide +kernel, by decide +kernel⟩
theorem ok_merged (T : Fx w K mg A) (TB : LamX.TabB base mg A.k_Rules_every A.t_Rules_every) : DOk P w K mg base 1 A.f_merged A.d_merged ["left", "right"] F_merged := by
  have S := sc_merged
  refine funD_ok (st := s_merged) (N := ["left", "right", "k"]) (ps := ["left", "right"]) (k := 0) (body := m_merged) T.F_merged S ?_
  intro cdv B outer s H E hr cx
  exact (dss_cons (ds_for cx (di_rev1 rfl T.n_reversed rfl T.n_range (de_op opS_add (de_callB (callS_min2 cx.calm) rfl T.n_min boot_min (da_cons (de_callB callS_len rfl T.n_len boot_len (da_cons (de_name 0) da_nil)) (da_cons (de_callB callS_len rfl T.n_len boot_len (da_cons (de_name 1) da_nil)) da_nil))) de_int)) (dg_name S.nd) (dss_one (ds_if (dt_cmp (opS_eq hr.units) (de_sl (de_name 0) (do_some (de_op opS_sub (de_callB callS_len rfl T.n_len boot_len (da_cons (de_name 0) da_nil)) (de_name 2))) do_none) (de_sl (de_name 1) do_none (do_some (de_name 2)))) (dss_one (ds_ret (de_op opS_add (de_name 0) (de_sl (de_name 1) (do_some (de_name 2)) do_none)))) dss_nil)))
    (dss_one (ds_ret (de_op opS_add (de_name 0) (de_name 1)))))
theorem sc_band_form : FnScope ["word", "p", "a", "b", "s"] ["word"] (defScope s_band_form) := ⟨rfl, rfl, rfl, by decide +kernel, rfl, by decide +kernel, by decide +kernel⟩
theorem ok_band_form_r (T : Fx w K mg A) (TB : LamX.TabB base mg A.k_Rules_every A.t_Rules_every) : ∀ d : Nat, DOk P w K mg base (3 + 1 * d) A.f_band_form A.d_band_form ["word"] (R_band_form d)
  | 0 => dok_stuck
  | d + 1 => by
    have ih : DOk P w K mg base (3 + 1 * d) A.f_band_form A.d_band_form ["word"] (R_band_form d) := ok_band_form_r T TB d
    have S := sc_band_form
    refine FnOk.mono (j := 3 + 1 * d + 0 + 1) (funD_ok (st := s_band_form) (N := ["word", "p", "a", "b", "s"]) (ps := ["word"]) (k := 3 + 1 * d + 0) (body := m_band_form (R_band_form d)) T.F_band_form S ?_) (by omega)
    intro cdv B outer s H E hr cx
    exact (dss_cons (ds_if (dt_cmp (opS_eq hr.units) (de_call (x := "different") (ps := ["word"]) (ok_different T TB) (hr.mono (by omega)) cx.tk rfl T.g_different T.F_different.kp ⟨T.b_different_1⟩ (da_cons (de_name 0) da_nil)) de_int) (dss_one (ds_ret (de_lst (da_cons (de_ix ixS_any (de_name 0) de_int) da_nil)))) dss_nil)
      (dss_cons (ds_unp (de_call (x := "beginning") (ps := ["word"]) (ok_beginning T TB) (hr.mono (by omega)) cx.tk rfl T.g_beginning T.F_beginning.kp ⟨T.b_beginning_1⟩ (da_cons (de_name 0) da_nil)) (dg_tup cx.calm (dgs_cons (dgs_cons dgs_nil S.nd) S.nd)))
      (dss_cons (ds_unp (de_call (x := "ending") (ps := ["word"]) (ok_ending T TB) (hr.mono (by omega)) cx.tk rfl T.g_ending T.F_ending.kp ⟨T.b_ending_1⟩ (da_cons (de_name 0) da_nil)) (dg_tup cx.calm (dgs_cons (dgs_cons dgs_nil S.nd) S.nd)))
      (dss_one (ds_ret (de_call (x := "merged") (ps := ["left", "right"]) (ok_merged T TB) (hr.mono (by omega)) cx.tk rfl T.g_merged T.F_merged.kp ⟨T.b_merged_2⟩ (da_cons (de_op opS_add (de_call (x := "band_form") (ps := ["word"]) (ih) (hr.mono (by omega)) cx.tk rfl T.g_band_form T.F_band_form.kp ⟨T.b_band_form_1⟩ (da_cons (de_name 1) da_nil)) (de_lst (da_cons (de_name 2) da_nil))) (da_cons (de_op opS_add (de_lst (da_cons (de_name 3) da_nil)) (de_call (x := "band_form") (ps := ["word"]) (ih) (hr.mono (by omega)) cx.tk rfl T.g_band_form T.F_band_form.kp ⟨T.b_band_form_1⟩ (da_cons (de_name 4) da_nil))) da_nil))))))))
theorem ok_band_form (T : Fx w K mg A) (TB : LamX.TabB base mg A.k_Rules_every A.t_Rules_every) : DOk P w K mg base 33 A.f_band_form A.d_band_form ["word"] F_band_form := ok_band_form_r T TB 30
theorem sc_word_form : FnScope ["word", "rules", "leaf"] ["word", "rules"] (defScope s_word_form) := ⟨rfl, rfl, rfl, by decide +kernel, rfl, by decide +kernel, by decide +kernel⟩
theorem ok_word_form (T : Fx w K mg A) (TB : LamX.TabB base mg A.k_Rules_every A.t_Rules_every) : DOk P w K mg base 34 A.f_word_form A.d_word_form ["word", "rules"] F_word_form := by
  have S := sc_word_form
  refine funD_ok (st := s_word_form) (N := ["word", "rules", "leaf"]) (ps := ["word", "rules"]) (k := 33) (body := m_word_form) T.F_word_form S ?_
  intro cdv B outer s H E hr cx
  exact (dss_cons (ds_if (DW.dt (dw_and (dt_cmp (opS_inO (C := "Rules") false T.g_Rules T.m_RulesD_containsD.at_ T.m_RulesD_containsD.fn T.bd_RulesD_containsD (ok_RulesD_containsD T TB) (hr.mono (by omega))) (de_str (s := "Z")) (de_name 1)) (dw_and1 (dt_cmp (opS_in (room65 hr)) (de_str (s := "z")) (de_name 0))))) (dss_one (ds_ret (de_lst (da_cons (de_str (s := "z")) da_nil)))) dss_nil)
    (dss_cons (ds_if (dt_cmp (opS_inO (C := "Rules") false T.g_Rules T.m_RulesD_containsD.at_ T.m_RulesD_containsD.fn T.bd_RulesD_containsD (ok_RulesD_containsD T TB) (hr.mono (by omega))) (de_str (s := "U")) (de_name 1)) (dss_cons (ds_setLc (i := 0) (own := [("leaf", 2)]) cx.calm S.nd (di_any (de_name 0)) (blkOk_by (by first | kernel_rfl | decide +kernel)) (by decide) (fun _ _ _ _ _ => (dg_name S.nd)) (fun _ _ _ _ _ => by exact (dts_one (dt_cmp (opS_ne hr.units) (de_name 2) (de_str (s := "e"))))) (fun _ _ _ _ _ => by exact (de_name 2)) rfl rfl (sw_true rfl rfl rfl (by decide +kernel)))
    (dss_one (ds_if (dt_cmp (opS_eq hr.units) (de_name 0) (de_lst da_nil)) (dss_one (ds_ret (de_lst (da_cons (de_str (s := "e")) da_nil)))) dss_nil))) dss_nil)
    (dss_cons (ds_if (DW.dt (dw_and (dt_cmp (opS_inO (C := "Rules") false T.g_Rules T.m_RulesD_containsD.at_ T.m_RulesD_containsD.fn T.bd_RulesD_containsD (ok_RulesD_containsD T TB) (hr.mono (by omega))) (de_str (s := "C")) (de_name 1)) (dw_and1 (dt_cmp (opS_inO (C := "Rules") false T.g_Rules T.m_RulesD_containsD.at_ T.m_RulesD_containsD.fn T.bd_RulesD_containsD (ok_RulesD_containsD T TB) (hr.mono (by omega))) (de_str (s := "I")) (de_name 1))))) (dss_one (ds_ret (de_sortZ cx.calm rfl T.n_sorted (dz_set cx.calm rfl T.n_set (de_name 0))))) dss_nil)
    (dss_cons (ds_if (dt_cmp (opS_inO (C := "Rules") false T.g_Rules T.m_RulesD_containsD.at_ T.m_RulesD_containsD.fn T.bd_RulesD_containsD (ok_RulesD_containsD T TB) (hr.mono (by omega))) (de_str (s := "C")) (de_name 1)) (dss_one (ds_ret (de_callB callS_sortedS rfl T.n_sorted boot_sorted (da_cons (de_name 0) da_nil)))) dss_nil)
    (dss_cons (ds_if (dt_cmp (opS_inO (C := "Rules") false T.g_Rules T.m_RulesD_containsD.at_ T.m_RulesD_containsD.fn T.bd_RulesD_containsD (ok_RulesD_containsD T TB) (hr.mono (by omega))) (de_str (s := "I")) (de_name 1)) (dss_one (ds_ret (de_call (x := "band_form") (ps := ["word"]) (ok_band_form T TB) (hr.mono (by omega)) cx.tk rfl T.g_band_form T.F_band_form.kp ⟨T.b_band_form_1⟩ (da_cons (de_name 0) da_nil)))) dss_nil)
    (dss_one (ds_ret (de_name 0))))))))
theorem sc_plain : FnScope ["way", "rules"] ["way", "rules"] (defScope s_plain) := ⟨rfl, rfl, rfl, by decide +kernel, rfl, by decide +kernel, by decide +kernel⟩
theorem ok_plain (T : Fx w K mg A) (TB : LamX.TabB base mg A.k_Rules_every A.t_Rules_every) : DOk P w K mg base 35 A.f_plain A.d_plain ["way", "rules"] F_plain := by
  have S := sc_plain
  refine funD_ok (st := s_plain) (N := ["way", "rules"]) (ps := ["way", "rules"]) (k := 34) (body := m_plain) T.F_plain S ?_
  intro cdv B outer s H E hr cx
  exact (dss_cons (ds_if (dt_cmp (opS_inO (C := "Rules") false T.g_Rules T.m_RulesD_containsD.at_ T.m_RulesD_containsD.fn T.bd_RulesD_containsD (ok_RulesD_containsD T TB) (hr.mono (by omega))) (de_str (s := "A")) (de_name 1)) (dss_one (ds_ret (de_bm mtS_join F.plainAttrs_str F.slot_str_join F.type_str_join (de_str (s := " ")) (da_cons (de_call (x := "word_form") (ps := ["word", "rules"]) (ok_word_form T TB) (hr.mono (by omega)) cx.tk rfl T.g_word_form T.F_word_form.kp ⟨T.b_word_form_2⟩ (da_cons (de_callTy callS_list rfl T.n_list boot_list (da_cons (de_fld (cs := ["Way"]) (f := "leaves") (T.fs_Way__leaves) (de_name 0)) da_nil)) (da_cons (de_name 1) da_nil))) da_nil)))) dss_nil)
    (dss_one (ds_ret (de_call (x := "tree_form") (ps := ["way", "rules"]) (ok_tree_form T TB) (hr.mono (by omega)) cx.tk rfl T.g_tree_form T.F_tree_form.kp ⟨T.b_tree_form_2⟩ (da_cons (de_name 0) (da_cons (de_name 1) da_nil))))))
theorem sc_alike : FnScope ["first", "rules", "others", "form", "other"] ["first", "rules", "others"] (defScope s_alike) := ⟨rfl, rfl, rfl, by decide +kernel, rfl, by decide +kernel, by decide +kernel⟩
theorem ok_alike (T : Fx w K mg A) (TB : LamX.TabB base mg A.k_Rules_every A.t_Rules_every) : DOkG P w K mg base 36 A.f_alike ["rules"] F_alike := by
  have S := sc_alike
  refine funVK_ok (st := s_alike) (N := ["first", "rules", "others", "form", "other"]) (ps := ["first"]) (ks := ["rules"]) (pv := "others") (k := 35) (body := m_alike) T.F_alike S T.bv_alike ?_
  intro cdv B outer s H E hr cx
  exact (dss_cons (ds_set (i := 3) (de_callK (x := "plain") (ps := ["way", "rules"]) (np := 1) (ks := ["rules"]) (gD := (· ++ ·)) (ok_plain T TB) (hr.mono (by omega)) cx.tk rfl T.g_plain T.F_plain.kp ⟨T.k_plain_1_rules⟩ (da_cons (de_name 0) da_nil) (dk_cons (de_name 1) dk_nil)) S.nd)
    (dss_one (ds_ret (de_callB (callS_all cx.calm) rfl T.n_all boot_all (da_cons (de_lc (own := [("other", 4)]) cx.calm S.nd (di_any (de_name 2)) (blkOk_by (by first | kernel_rfl | decide +kernel)) (by decide) (fun _ _ _ _ _ => (dg_name S.nd)) (fun _ _ _ _ _ => by exact dts_nil) (fun _ _ _ _ _ => by exact (de_cmp (opS_eq hr.units) (de_callK (x := "plain") (ps := ["way", "rules"]) (np := 1) (ks := ["rules"]) (gD := (· ++ ·)) (ok_plain T TB) (hr.mono (by omega)) takes0 rfl T.g_plain T.F_plain.kp ⟨T.k_plain_1_rules⟩ (da_cons (de_name 4) da_nil) (dk_cons (de_name 1) dk_nil)) (de_name 3)))) da_nil)))))
theorem sc_needed : FnScope ["first", "second", "sets", "rules"] ["first", "second"] (defScope s_needed) := ⟨rfl, rfl, rfl, by decide +kernel, rfl, by decide +kernel, by decide +kernel⟩
theorem ok_needed (T : Fx w K mg A) (TB : LamX.TabB base mg A.k_Rules_every A.t_Rules_every) : DOk P w K mg base 37 A.f_needed A.d_needed ["first", "second"] F_needed := by
  have S := sc_needed
  refine funD_ok (st := s_needed) (N := ["first", "second", "sets", "rules"]) (ps := ["first", "second"]) (k := 36) (body := m_needed) T.F_needed S ?_
  intro cdv B outer s H E hr cx
  exact (dss_cons (ds_setLc (i := 2) (own := [("rules", 3)]) cx.calm S.nd (di_any (de_cmeth0 (C := "Rules") (m := "every") (ps := ["cls"]) rfl T.g_Rules T.cr_Rules T.cm_Rules_every (ok_Rules_every T TB) (hr.mono (by omega)) cx.tk rfl T.bd_Rules_every)) (blkOk_by (by first | kernel_rfl | decide +kernel)) (by decide) (fun _ _ _ _ _ => (dg_name S.nd)) (fun _ _ _ _ _ => by exact (dts_one (dt_tru (de_callG (x := "alike") (ks := ["rules"]) (ok_alike T TB) (hr.mono (by omega)) takes0 rfl T.g_alike T.F_alike.kp (da_cons (de_name 0) (da_cons (de_name 1) da_nil)) (dk_cons (by exact (de_name 3)) dk_nil))))) (fun _ _ _ _ _ => by exact (de_name 3)) rfl rfl (sw_true rfl rfl rfl (by decide +kernel)))
    (dss_one (ds_ret (de_mkS (C := "Family") mkAs_T T.ci_Family T.mk_Family (ok_FamilyD_initD T TB) (hr.mono (by omega)) cx.tk rfl (de_name 2)))))
theorem sc_law : FnScope ["_law_script", "_law_head", "_law_drawn", "_law_menu", "_law_names", "_law_k", "_law_first", "_law_second", "_law_least", "_law_ways", "_law_way", "_law_rules"] ["_law_script"] (defScope s_law) := ⟨rfl, rfl, rfl, by decide +kernel, rfl, by decide +kernel, by decide +kernel⟩
theorem ok_law (T : Fx w K mg A) (TB : LamX.TabB base mg A.k_Rules_every A.t_Rules_every) : DOk P w K mg base 124 A.f_law A.d_law ["_law_script"] F_law := by
  have S := sc_law
  refine funT_ok (st := s_law) (N := ["_law_script", "_law_head", "_law_drawn", "_law_menu", "_law_names", "_law_k", "_law_first", "_law_second", "_law_least", "_law_ways", "_law_way", "_law_rules"]) (ps := ["_law_script"]) (k := 123) (body := m_law) T.F_law S (by decide +kernel) (by decide) ?_
  intro cdv B outer s H E hr cx
  exact (dss_consT (DS.t (ds_set (i := 1) (de_call (x := "_law_draws") (ps := ["_law_cell_here", "_law_sizes"]) (ok_l_draws T TB) (hr.mono (by omega)) cx.tk rfl T.g_l_draws T.F_l_draws.kp ⟨T.b_l_draws_2⟩ (da_cons (de_call (x := "_law_cell") (ps := ["_law_script", "_law_k"]) (ok_l_cell T TB) (hr.mono (by omega)) cx.tk rfl T.g_l_cell T.F_l_cell.kp ⟨T.b_l_cell_2⟩ (da_cons (de_name 0) (da_cons de_int da_nil))) (da_cons (de_lst (da_cons de_int (da_cons de_int (da_cons de_int da_nil)))) da_nil))) S.nd))
    (dss_consT (DS.t (ds_set (i := 2) (de_call (x := "_law_draws") (ps := ["_law_cell_here", "_law_sizes"]) (ok_l_draws T TB) (hr.mono (by omega)) cx.tk rfl T.g_l_draws T.F_l_draws.kp ⟨T.b_l_draws_2⟩ (da_cons (de_call (x := "_law_cell") (ps := ["_law_script", "_law_k"]) (ok_l_cell T TB) (hr.mono (by omega)) cx.tk rfl T.g_l_cell T.F_l_cell.kp ⟨T.b_l_cell_2⟩ (da_cons (de_name 0) (da_cons de_int da_nil))) (da_cons (de_lst (da_cons de_int (da_cons de_int (da_cons de_int da_nil)))) da_nil))) S.nd))
    (dsst_named cx (de_ix ixS_any (de_name 2) (de_name 5)) (fun a ob b w0 w1 w2 r3 => dssg_unp (deg_of (de_ix ixS_any (de_call0 (x := "_law_pairs") (ps := []) (ok_l_pairs T TB) (hr.mono (by omega)) cx.tk rfl T.g_l_pairs T.F_l_pairs.kp ⟨T.b_l_pairs_0⟩) (de_ix ixS_any (de_name 1) de_int))) (dg_tup cx.calm (dgs_cons (dgs_cons (dgs_cons dgs_nil S.nd) S.nd) S.nd))
      (dssg_set (i := 9) (deg_lst (dag_cons (deg_mk (C := "Way") (ps := ["self", "text"]) mkAs_T T.ci_Way T.mk_Way (ok_WayD_initD T TB) (hr.mono (by omega)) cx.tk rfl ⟨T.b_WayD_initD_2⟩ (dag_cons (deg_ren (i := 6) (x := "_law_renamed") (ps := ["_law_text", "_law_names"]) (ok_l_renamed T a ob w0 w1 w2) (hr.mono (by omega)) cx.tk rfl T.g_l_renamed T.F_l_renamed.kp ⟨T.b_l_renamed_2⟩ r3 rfl) dag_nil)) (dag_cons (deg_mk (C := "Way") (ps := ["self", "text"]) mkAs_T T.ci_Way T.mk_Way (ok_WayD_initD T TB) (hr.mono (by omega)) cx.tk rfl ⟨T.b_WayD_initD_2⟩ (dag_cons (deg_ren (i := 7) (x := "_law_renamed") (ps := ["_law_text", "_law_names"]) (ok_l_renamed T a ob w0 w1 w2) (hr.mono (by omega)) cx.tk rfl T.g_l_renamed T.F_l_renamed.kp ⟨T.b_l_renamed_2⟩ r3 rfl) dag_nil)) dag_nil)))
       
    (dss_cons (ds_if (dt_cmp (opS_eq hr.units) (de_ix ixS_any (de_name 1) de_int) de_int) (dss_one (ds_set (i := 9) (de_revA (de_name 9)) S.nd)) dss_nil)
    (dss_cons (ds_if (dt_cmp (opS_eq hr.units) (de_ix ixS_any (de_name 1) de_int) de_int) (dss_one (ds_setLc (i := 9) (own := [("_law_way", 10)]) cx.calm S.nd (di_any (de_name 9)) (blkOk_by (by first | kernel_rfl | decide +kernel)) (by decide) (fun _ _ _ _ _ => (dg_name S.nd)) (fun _ _ _ _ _ => by exact dts_nil) (fun _ _ _ _ _ => by exact (de_meth0 (C := "Way") (ps := ["self"]) T.ci_Way T.m_Way_flipped (ok_Way_flipped T TB) (hr.mono (by omega)) takes0 ⟨T.b_Way_flipped_1⟩ (de_name 10))) rfl rfl (sw_true rfl rfl rfl (by decide +kernel)))) dss_nil)
    (dss_one (ds_ret (de_cmp (opS_eq hr.units) (de_lc (own := [("_law_rules", 11)]) cx.calm S.nd (di_any (de_meth0 (C := "Family") (ps := ["self"]) T.ci_Family T.m_Family_least (ok_Family_least T TB) (hr.mono (by omega)) cx.tk ⟨T.b_Family_least_1⟩ (de_call (x := "needed") (ps := ["first", "second"]) (ok_needed T TB) (hr.mono (by omega)) cx.tk rfl T.g_needed T.F_needed.kp ⟨T.b_needed_2⟩ (da_cons (de_ix ixS_any (de_name 9) de_int) (da_cons (de_ix ixS_any (de_name 9) de_int) da_nil))))) (blkOk_by (by first | kernel_rfl | decide +kernel)) (by decide) (fun _ _ _ _ _ => (dg_name S.nd)) (fun _ _ _ _ _ => by exact dts_nil) (fun _ _ _ _ _ => by exact (de_callTy (callS_strO (C := "Rules") T.g_Rules T.m_RulesD_strD.at_ T.m_RulesD_strD.fn T.bd_RulesD_strD (ok_RulesD_strD T TB) (hr.mono (by omega))) rfl T.n_str boot_str (da_cons (de_name 11) da_nil)))) (de_name 8))))))
       S.nd) (by decide)) S.nd rfl T.n_range (by decide) (by decide) (by decide))))
end
end Lk55
namespace Lk55
open PySem PySem.Spec L2 DL
open PyProof.Rows hiding St
theorem cell_run (ns : List Int) (k : Int) (hk : 0 ≤ k) (M : MS) : ∃ c, F_l_cell [.flst (ns.map D.int), .int k] M = .ok (.int c) M := by
  unfold F_l_cell
  rw [runD_ap]
  by_cases h : k < ns.length
  · obtain ⟨j, rfl⟩ : ∃ j : Nat, k = (j : Int) := ⟨k.toNat, by omega⟩
    have hj : j < ns.length := by omega
    refine ⟨ns[j], ?_⟩
    have e : ixD (.flst (ns.map D.int)) (.int (j : Int)) M = .ok (.int ns[j]) M := ixD_flst (atI_of (by simp [List.getElem?_eq_getElem hj]))
    simp [m_l_cell, startD, hj, e]
  · refine ⟨0, ?_⟩
    simp [m_l_cell, startD, h]
theorem get_last {M : MS} {o : MO} : (M ++ [o])[M.length]? = some o := by simp
theorem set_last {M : MS} {o o' : MO} : (M ++ [o]).set M.length o' = M ++ [o'] := by simp
/-- the draws for sizes -/
def DrawsOk (sizes xs : List Int) : Prop := xs.length = sizes.length ∧ ∀ (i : Nat) (x s : Int), xs[i]? = some x → sizes[i]? = some s → 0 ≤ x ∧ x < s
theorem draws_run {M : MS} {c : Int} {sizes : List Int} (hl : sizes.length ≤ 1000) (hs : ∀ s, s ∈ sizes → 0 < s ∧ s < 1073741824) :
    ∃ xs, F_l_draws [.int c, .lst (sizes.map D.int)] M = .ok (.cell M.length) (M ++ [.lst (xs.map D.int)]) ∧ DrawsOk sizes xs := by
  have key : ∃ sd' M', forGo (fun _ => True) (nameG 4) b_l_draws_1 (intsI (rangeN 0 (sizes.length : Int))).ds [some (.int c), some (.lst (sizes.map D.int)), some (.cell M.length), some (.int (if c < 0 then -c else c)), none, none] (M ++ [.lst []]) = .nx sd' M' ∧
      ∃ (xs : List Int) (left : Int) (o4 o5 : Option D), sd' = [some (.int c), some (.lst (sizes.map D.int)), some (.cell M.length), some (.int left), o4, o5] ∧ M' = M ++ [.lst (xs.map D.int)] ∧ xs.length = 0 + (intsI (rangeN 0 (sizes.length : Int))).ds.length ∧ ∀ (i : Nat) (x s : Int), xs[i]? = some x → sizes[i]? = some s → 0 ≤ x ∧ x < s := by
    refine forGo_go (chk := fun _ => True) (g := nameG 4) (body := b_l_draws_1) (fun k sd M' => ∃ (xs : List Int) (left : Int) (o4 o5 : Option D), sd = [some (.int c), some (.lst (sizes.map D.int)), some (.cell M.length), some (.int left), o4, o5] ∧ M' = M ++ [.lst (xs.map D.int)] ∧ xs.length = k ∧ ∀ (i : Nat) (x s : Int), xs[i]? = some x → sizes[i]? = some s → 0 ≤ x ∧ x < s) _ 0 _ _ ⟨[], _, _, _, rfl, rfl, rfl, fun i x s h => by simp at h⟩ (fun i d sd M' hi hI => ?_) (fun _ _ _ => trivial)
    obtain ⟨xs, left, o4, o5, rfl, rfl, hxl, hx⟩ := hI
    rw [Nat.zero_add] at hxl
    obtain ⟨rfl, hi2⟩ := get_rangeN hi
    rw [Int.zero_add]
    have hi3 : i < sizes.length := by omega
    obtain ⟨s0, s1⟩ := hs sizes[i] (List.getElem_mem hi3)
    have e1 : ixD (.lst (sizes.map D.int)) (.int (i : Int)) (M ++ [.lst (xs.map D.int)]) = .ok (.int sizes[i]) (M ++ [.lst (xs.map D.int)]) := ixD_lst (atI_of (by simp [List.getElem?_eq_getElem hi3]))
    have ap : ∀ y : Int, appendF (.cell M.length) [.int y] (M ++ [.lst (xs.map D.int)]) = .ok .non (M ++ [.lst ((xs ++ [y]).map D.int)]) := fun y => by
      unfold appendF
      simp only [get_last]
      rw [if_pos (by rw [List.length_map]; omega), set_last, List.map_append]
      rfl
    have hq : ∀ y : Int, 0 ≤ y ∧ y < sizes[i] → ∀ (j : Nat) (x s : Int), (xs ++ [y])[j]? = some x → sizes[j]? = some s → 0 ≤ x ∧ x < s := fun y hy j x s h1 h2 => by
      by_cases hj : j < xs.length
      · rw [List.getElem?_append_left hj] at h1
        exact hx j x s h1 h2
      · rw [List.getElem?_append_right (by omega)] at h1
        have hj0 : j - xs.length = 0 := by
          by_cases z : j - xs.length = 0
          · exact z
          · rw [List.getElem?_eq_none (by simp; omega)] at h1; cases h1
        rw [hj0] at h1
        have hx1 : y = x := by simpa using h1
        have hj1 : j = i := by omega
        subst hj1
        rw [List.getElem?_eq_getElem hi3] at h2
        cases h2
        subst hx1
        exact hy
    have tyv : ∀ L : List D, tyvD (M ++ [.lst L]) "list" (.cell M.length) = true := fun L => by unfold tyvD; simp
    refine ⟨trivial, _, rfl, ?_⟩
    have big : ((10 : Int) ^ (18 : Int).toNat) = 1000000000000000000 := by decide
    by_cases hc : (1000000000000000000 : Int) ≤ (if c < 0 then -c else c)
    · refine ⟨[some (.int c), some (.lst (sizes.map D.int)), some (.cell M.length), some (.int (left / sizes[i])), some (.int (i : Int)), o5], M ++ [.lst ((xs ++ [left % sizes[i]]).map D.int)], .inl ?_, xs ++ [left % sizes[i]], _, _, _, rfl, rfl, by simp [hxl], hq _ ⟨Int.emod_nonneg _ (by omega), Int.emod_lt_of_pos _ s0⟩⟩
      have e2 : ixD (.lst (sizes.map D.int)) (.int (i : Int)) (M ++ [.lst ((xs ++ [left % sizes[i]]).map D.int)]) = .ok (.int sizes[i]) (M ++ [.lst ((xs ++ [left % sizes[i]]).map D.int)]) := ixD_lst (atI_of (by simp [List.getElem?_eq_getElem hi3]))
      have a1 := ap (left % sizes[i])
      have t1 := tyv (xs.map D.int)
      generalize M ++ [.lst ((xs ++ [left % sizes[i]]).map D.int)] = MB at *
      generalize M ++ [.lst (xs.map D.int)] = MA at *
      generalize sizes.map D.int = sz at *
      simp [b_l_draws_1, powI_int, big, hc, bmK_ap t1, e1, a1, e2, modI_int s0, fdivI_int ⟨s0, s1⟩]
    · generalize hm1 : ((left + 11 * (i : Int) + 3) * 48271) % 2147483647 = m1
      have b1 : 0 ≤ m1 ∧ m1 < 2147483647 := by rw [← hm1]; exact ⟨Int.emod_nonneg _ (by decide), Int.emod_lt_of_pos _ (by decide)⟩
      generalize hm2 : (m1 * m1 * 16807 + 97 * (i : Int) + m1) % 2147483629 = m2
      refine ⟨[some (.int c), some (.lst (sizes.map D.int)), some (.cell M.length), some (.int left), some (.int (i : Int)), some (.int m2)], M ++ [.lst ((xs ++ [m2 / 5 % sizes[i]]).map D.int)], .inl ?_, xs ++ [m2 / 5 % sizes[i]], _, _, _, rfl, rfl, by simp [hxl], hq _ ⟨Int.emod_nonneg _ (by omega), Int.emod_lt_of_pos _ s0⟩⟩
      have a1 := ap (m2 / 5 % sizes[i])
      have t1 := tyv (xs.map D.int)
      generalize M ++ [.lst ((xs ++ [m2 / 5 % sizes[i]]).map D.int)] = MB at *
      generalize M ++ [.lst (xs.map D.int)] = MA at *
      generalize sizes.map D.int = sz at *
      simp [b_l_draws_1, powI_int, big, hc, bmK_ap t1, e1, a1, modI_int, fdivI_int, mulD_int (i := 11) (j := (i : Int)) (M := MA) (.inl ⟨by decide, by decide⟩), mulD_int (j := 48271) (M := MA) (.inr ⟨by decide, by decide⟩), hm1, mulD_int (i := m1) (j := m1) (M := MA) (.inr ⟨by omega, by omega⟩), mulD_int (j := 16807) (M := MA) (.inr ⟨by decide, by decide⟩), mulD_int (i := 97) (j := (i : Int)) (M := MA) (.inl ⟨by decide, by decide⟩), hm2, s0]
  obtain ⟨sd', M', e, xs, left, o4, o5, rfl, rfl, hxl, hx⟩ := key
  rw [Nat.zero_add, show (intsI (rangeN 0 (sizes.length : Int))).ds.length = sizes.length by rw [len_rangeN]; omega] at hxl
  refine ⟨xs, ?_, hxl, hx⟩
  unfold F_l_draws
  rw [runD_ap]
  have hr : r1K [.int (sizes.length : Int)] (M ++ [.lst []]) = .ok (intsI (rangeN 0 (sizes.length : Int))) (M ++ [.lst []]) := r1K_ap (by omega)
  simp [m_l_draws, startD, celK_ap, hr, e]
theorem DrawsOk.get {sizes xs : List Int} (h : DrawsOk sizes xs) (i : Nat) (s : Int) (hs : sizes[i]? = some s) : ∃ x, xs[i]? = some x ∧ 0 ≤ x ∧ x < s := by
  have hi : i < xs.length := by rw [h.1]; exact (List.getElem?_eq_some_iff.mp hs).1
  exact ⟨xs[i], List.getElem?_eq_getElem hi, h.2 i _ s (List.getElem?_eq_getElem hi) hs⟩
theorem DrawsOk.ix {sizes xs : List Int} (h : DrawsOk sizes xs) {M : MS} {n : Nat} (hm : M[n]? = some (.lst (xs.map D.int))) (i : Nat) (s : Int) (hs : sizes[i]? = some s) : ∃ x, xs[i]? = some x ∧ ixD (.cell n) (.int (i : Int)) M = .ok (.int x) M ∧ 0 ≤ x ∧ x < s := by
  obtain ⟨x, h1, h2, h3⟩ := h.get i s hs
  exact ⟨x, h1, ixD_cell hm (atI_of (by rw [List.getElem?_map, h1]; rfl)), h2, h3⟩
section
variable {sd : SD} {M : MS} {ta tb : MB} {p q : Bool} {a : ME} {d : D} {r st : MST}
theorem andB_ok (h1 : ta sd M = .ok p M) (h2 : tb sd M = .ok q M) : andB ta tb sd M = .ok (p && q) M := by
  rw [andB_ap, h1, Res.bind_ok]
  cases p
  · rfl
  · rw [andBK_t, h2]; rfl
theorem orB_ok (h1 : ta sd M = .ok p M) (h2 : tb sd M = .ok q M) : orB ta tb sd M = .ok (p || q) M := by
  rw [orB_ap, h1, Res.bind_ok]
  cases p
  · rw [orBK_f, h2]; rfl
  · rfl
theorem ifret (h1 : ta sd M = .ok p M) (h2 : p = true → a sd M = .ok d M) : seqS (ifS ta (retS a) passS) r sd M = if p = true then .ret d M else r sd M := by
  rw [seqS_ap, ifS_ap, h1]
  cases p
  · rfl
  · rw [if_pos rfl]
    show ((retS a sd M).seq r) = _
    rw [retS_ap, h2 rfl]
    rfl
end
inductive T where
  | leaf (w : List Nat)
  | node (l r : T)
def T.d : T → D
  | .leaf w => .str w
  | .node l r => .tup [l.d, r.d]
def T.ws : T → List (List Nat)
  | .leaf w => [w]
  | .node l r => l.ws ++ r.ws
def T.txt : T → List Nat
  | .leaf w => w
  | .node l r => 40 :: (l.txt ++ (32 :: (r.txt ++ [41])))
def T.depth : T → Nat
  | .leaf _ => 0
  | .node l r => max l.depth r.depth + 1
/-- a leaf's word -/
def okW (w : List Nat) : Prop := 1 ≤ w.length ∧ w.length ≤ 6 ∧ ∀ c, c ∈ w → 97 ≤ c ∧ c ≤ 122
def T.ok : T → Prop
  | .leaf w => okW w
  | .node l r => l.ok ∧ r.ok
theorem T.ws_pos : ∀ t : T, 1 ≤ t.ws.length
  | .leaf _ => by simp [T.ws]
  | .node l r => by have := T.ws_pos l; simp [T.ws]; omega
theorem T.depth_lt : ∀ t : T, t.depth < t.ws.length
  | .leaf _ => by simp [T.ws, T.depth]
  | .node l r => by
    have h1 := T.depth_lt l
    have h2 := T.depth_lt r
    have h3 := T.ws_pos l
    have h4 := T.ws_pos r
    simp [T.ws, T.depth]
    omega
theorem T.txt_len : ∀ t : T, t.ok → t.txt.length + 3 ≤ 9 * t.ws.length ∧ 1 ≤ t.txt.length
  | .leaf w, h => by
    obtain ⟨h1, h2, _⟩ := h
    simp [T.txt, T.ws]; omega
  | .node l r, h => by
    have h1 := T.txt_len l h.1
    have h2 := T.txt_len r h.2
    simp [T.txt, T.ws]
    omega
theorem T.ok_ws : ∀ t : T, t.ok → ∀ w, w ∈ t.ws → okW w
  | .leaf w, h, v, hv => by simp [T.ws] at hv; rw [hv]; exact h
  | .node l r, h, v, hv => by
    rcases List.mem_append.mp hv with hv | hv
    · exact T.ok_ws l h.1 v hv
    · exact T.ok_ws r h.2 v hv
theorem sLo : sL "(" = [40] := by decide +kernel
theorem sLc : sL ")" = [41] := by decide +kernel
theorem sLs : sL " " = [32] := by decide +kernel
theorem sLa : sL "abcdefghijklmnopqrstuvwxyz" = [97, 98, 99, 100, 101, 102, 103, 104, 105, 106, 107, 108, 109, 110, 111, 112, 113, 114, 115, 116, 117, 118, 119, 120, 121, 122] := by decide +kernel
theorem mem_az (c : Nat) : c ∈ sL "abcdefghijklmnopqrstuvwxyz" ↔ 97 ≤ c ∧ c ≤ 122 := by
  rw [sLa]
  simp only [List.mem_cons, List.not_mem_nil, or_false]
  omega
/-- what may stand behind a way -/
def Stop (rest : List Nat) : Prop := rest = [] ∨ ∃ c r, rest = c :: r ∧ (c = 32 ∨ c = 41)
theorem ix_at {M : MS} {x : List Nat} {i : Nat} {c : Nat} (hx : x.length ≤ 1000000) (h : x[i]? = some c) : ixD (.str x) (.int (i : Int)) M = .ok (.str [c]) M := ixD_str hx (atI_of h)
theorem app_at {pre w rest : List Nat} {j : Nat} (h : j < w.length) : (pre ++ w ++ rest)[pre.length + j]? = some w[j] := by
  rw [List.append_assoc, List.getElem?_append_right (by omega), List.getElem?_append_left (by omega)]
  simp
theorem app_end {pre w rest : List Nat} : (pre ++ w ++ rest)[pre.length + w.length]? = rest[0]? := by
  rw [List.append_assoc, List.getElem?_append_right (by omega), List.getElem?_append_right (by omega)]
  simp
/-- the letters of a name are counted -/
theorem name_loop {M : MS} {G : FM} {pre w rest : List Nat} {o2 o3 : Option D} (hw : okW w) (hs : Stop rest) (hl : (pre ++ w ++ rest).length ≤ 100000) : ∀ (k j n : Nat), k + j = w.length → k < n →
    whileGo (t_end_of_1 G) (b_end_of_1 G) n [some (.str (pre ++ w ++ rest)), some (.int (pre.length : Int)), o2, o3, some (.int (j : Int))] M = .nx [some (.str (pre ++ w ++ rest)), some (.int (pre.length : Int)), o2, o3, some (.int (w.length : Int))] M
  | 0, j, n + 1, hj, _ => by
    have hj : j = w.length := by omega
    subst hj
    refine whileGo_f ?_
    rcases hs with rfl | ⟨c, r, rfl, hc⟩
    · have h1 : ¬ ((pre.length : Int) + (w.length : Int) < ((pre ++ w ++ ([] : List Nat)).length : Int)) := by simp
      generalize hX : pre ++ w ++ ([] : List Nat) = X at *
      simp [t_end_of_1, lenF_str (show X.length ≤ 1000000 by omega), h1]
    · have e1 : ixD (.str (pre ++ w ++ c :: r)) (.int ((pre.length : Int) + (w.length : Int))) M = .ok (.str [c]) M := by
        rw [show (pre.length : Int) + (w.length : Int) = ((pre.length + w.length : Nat) : Int) by omega]
        exact ix_at (by omega) (by rw [app_end]; rfl)
      have h1 : ((pre.length : Int) + (w.length : Int) < ((pre ++ w ++ c :: r).length : Int)) := by simp; omega
      have h2 : ¬ c ∈ sL "abcdefghijklmnopqrstuvwxyz" := by rw [mem_az]; omega
      generalize hX : pre ++ w ++ c :: r = X at *
      simp [t_end_of_1, lenF_str (show X.length ≤ 1000000 by omega), h1, e1, subIn_one, h2]
  | k + 1, j, n + 1, hj, hn => by
    have hjl : j < w.length := by omega
    have ih := name_loop (M := M) (G := G) (pre := pre) (w := w) (rest := rest) (o2 := o2) (o3 := o3) hw hs hl k (j + 1) n (by omega) (by omega)
    have e1 : ixD (.str (pre ++ w ++ rest)) (.int ((pre.length : Int) + (j : Int))) M = .ok (.str [w[j]]) M := by
      rw [show (pre.length : Int) + (j : Int) = ((pre.length + j : Nat) : Int) by omega]
      exact ix_at (by omega) (app_at hjl)
    have h1 : ((pre.length : Int) + (j : Int) < ((pre ++ w ++ rest).length : Int)) := by simp; omega
    have h2 : w[j] ∈ sL "abcdefghijklmnopqrstuvwxyz" := by rw [mem_az]; exact hw.2.2 _ (List.getElem_mem hjl)
    have h3 : (j : Int) < 6 := by have := hw.2.1; omega
    rw [whileGo_t (sd2 := [some (.str (pre ++ w ++ rest)), some (.int (pre.length : Int)), o2, o3, some (.int ((j + 1 : Nat) : Int))]) (M1 := M) (M2 := M) ?_ ?_]
    · exact ih
    · generalize hX : pre ++ w ++ rest = X at *
      simp [t_end_of_1, lenF_str (show X.length ≤ 1000000 by omega), h1, e1, subIn_one, h2, h3]
    · simp [b_end_of_1]
theorem leaf_head {w : List Nat} (h : okW w) : ∃ c r, w = c :: r ∧ 97 ≤ c ∧ c ≤ 122 := by
  cases w with
  | nil => have := h.1; simp at this
  | cons c r => exact ⟨c, r, rfl, h.2.2 c List.mem_cons_self⟩
theorem exp_run {M : MS} {x : List Nat} {i c : Nat} (hx : x.length ≤ 100000) (h : x[i]? = some c) : F_expected [.str x, .int (i : Int), .str [c]] M = .ok .non M := by
  have hi := (List.getElem?_eq_some_iff.mp h).1
  have e1 := ix_at (M := M) (show x.length ≤ 1000000 by omega) h
  have h1 : ((i : Int) == (x.length : Int)) = false := by simp; omega
  unfold F_expected
  rw [runD_ap]
  simp [m_expected, startD, lenF_str (show x.length ≤ 1000000 by omega), h1, e1]
/-- end_of -/
theorem end_run {M : MS} : ∀ (d : Nat) (t : T), t.ok → t.depth < d → ∀ (pre rest : List Nat), (pre ++ t.txt ++ rest).length ≤ 100000 → Stop rest →
    R_end_of d [.str (pre ++ t.txt ++ rest), .int (pre.length : Int)] M = .ok (.int ((pre.length + t.txt.length : Nat) : Int)) M
  | 0, _, _, h, _, _, _, _ => absurd h (by omega)
  | d + 1, .leaf w, h, _, pre, rest, hl, hs => by
    have hw : okW w := h
    obtain ⟨c, r, hcr, hc1, hc2⟩ := leaf_head hw
    have hl : (pre ++ w ++ rest).length ≤ 100000 := hl
    have loop := name_loop (M := M) (G := R_end_of d) (pre := pre) (w := w) (rest := rest) (o2 := none) (o3 := none) hw hs hl w.length 0 1000 (by omega) (by have := hw.2.1; omega)
    have hpos := hw.1
    have e1 : ixD (.str (pre ++ w ++ rest)) (.int (pre.length : Int)) M = .ok (.str [c]) M := by
      have := app_at (pre := pre) (w := w) (rest := rest) (j := 0) (by omega)
      rw [Nat.add_zero] at this
      refine ix_at (by omega) (this.trans ?_)
      subst hcr
      rfl
    have h1 : ((pre.length : Int) == ((pre ++ w ++ rest).length : Int)) = false := by simp; omega
    have h2 : ([c] == [40]) = false := by simp; omega
    have h3 : ((w.length : Int) == 0) = false := by simp only [beq_eq_false_iff_ne, ne_eq]; omega
    show runD 5 (m_end_of (R_end_of d)) [.str (pre ++ w ++ rest), .int (pre.length : Int)] M = .ok (.int ((pre.length + w.length : Nat) : Int)) M
    rw [runD_ap]
    generalize hX : pre ++ w ++ rest = X at *
    have loop : whileGo (t_end_of_1 (R_end_of d)) (b_end_of_1 (R_end_of d)) 1000 [some (.str X), some (.int (pre.length : Int)), none, none, some (.int 0)] M = .nx [some (.str X), some (.int (pre.length : Int)), none, none, some (.int (w.length : Int))] M := loop
    simp [m_end_of, startD, lenF_str (show X.length ≤ 1000000 by omega), h1, sLo, e1, h2, whileS_ap, loop, h3]
  | d + 1, .node l r, h, hd, pre, rest, hl, hs => by
    have hdl : l.depth < d := by simp [T.depth] at hd; omega
    have hdr : r.depth < d := by simp [T.depth] at hd; omega
    obtain ⟨X, hX⟩ : ∃ X, X = pre ++ (T.node l r).txt ++ rest := ⟨_, rfl⟩
    rw [← hX] at hl ⊢
    have x1 : X = (pre ++ [40]) ++ l.txt ++ (32 :: (r.txt ++ (41 :: rest))) := by rw [hX]; simp [T.txt]
    have x2 : X = (pre ++ [40] ++ l.txt ++ [32]) ++ r.txt ++ (41 :: rest) := by rw [hX]; simp [T.txt]
    have hXl : X.length = pre.length + l.txt.length + r.txt.length + 3 + rest.length := by rw [hX]; simp [T.txt]; omega
    have e1 := end_run (M := M) d l h.1 hdl (pre ++ [40]) (32 :: (r.txt ++ (41 :: rest))) (by rw [← x1]; exact hl) (.inr ⟨_, _, rfl, .inl rfl⟩)
    rw [← x1] at e1
    have e2 := end_run (M := M) d r h.2 hdr (pre ++ [40] ++ l.txt ++ [32]) (41 :: rest) (by rw [← x2]; exact hl) (.inr ⟨_, _, rfl, .inr rfl⟩)
    rw [← x2] at e2
    have g0 : X[pre.length]? = some 40 := by rw [hX]; simp [T.txt]
    have g1 : X[(pre ++ [40]).length + l.txt.length]? = some 32 := by rw [x1, app_end]; rfl
    have g2 : X[(pre ++ [40] ++ l.txt ++ [32]).length + r.txt.length]? = some 41 := by rw [x2, app_end]; rfl
    have f0 := ix_at (M := M) (show X.length ≤ 1000000 by omega) g0
    have f1 := exp_run (M := M) hl g1
    have f2 := exp_run (M := M) hl g2
    have h1 : ((pre.length : Int) == (X.length : Int)) = false := by simp; omega
    have i1 : (((pre ++ [40]).length : Nat) : Int) = (pre.length : Int) + 1 := by simp
    have i2 : (((pre ++ [40] ++ l.txt ++ [32]).length : Nat) : Int) = (((pre ++ [40]).length + l.txt.length : Nat) : Int) + 1 := by simp; omega
    have i3 : ((pre.length + (T.node l r).txt.length : Nat) : Int) = (((pre ++ [40] ++ l.txt ++ [32]).length + r.txt.length : Nat) : Int) + 1 := by simp [T.txt]; omega
    rw [i1] at e1
    rw [i2] at e2
    rw [i3]
    generalize (((pre ++ [40]).length + l.txt.length : Nat) : Int) = k1 at *
    generalize (((pre ++ [40] ++ l.txt ++ [32]).length + r.txt.length : Nat) : Int) = k2 at *
    show runD 5 (m_end_of (R_end_of d)) [.str X, .int (pre.length : Int)] M = _
    rw [runD_ap]
    simp [m_end_of, startD, lenF_str (show X.length ≤ 1000000 by omega), h1, sLo, sLs, sLc, f0, callK_ap, e1, f1, e2, f2]
/-- the way of a tree -/
def T.w : T → D
  | .leaf v => .obj "Way" ["text", "name", "left", "right", "leaves"] [.str v, .str v, .non, .non, .tup [.str v]]
  | .node l r => .obj "Way" ["text", "name", "left", "right", "leaves"] [.str (T.node l r).txt, .str [], l.w, r.w, .tup ((T.node l r).ws.map D.str)]
theorem T.w_text : ∀ t : T, ∃ n l r, t.w = .obj "Way" ["text", "name", "left", "right", "leaves"] [.str t.txt, n, l, r, .tup (t.ws.map D.str)]
  | .leaf v => ⟨_, _, _, rfl⟩
  | .node l r => ⟨_, _, _, rfl⟩
theorem T.w_ncs {n : Nat} : ∀ t : T, nc n t.w = true
  | .leaf v => by simp [T.w, nc, ncs]
  | .node l r => by
    have h1 := T.w_ncs (n := n) l
    have h2 := T.w_ncs (n := n) r
    have h3 : ∀ xs : List (List Nat), ncs n (xs.map D.str) = true := fun xs => by
      induction xs with
      | nil => simp [ncs]
      | cons x xs ih => simp [ncs, nc, ih]
    simp [T.w, nc, ncs, h1, h2, h3]
theorem list6 {M : MS} {o : MO} : (M ++ [o])[M.length]? = some o := by simp
set_option maxHeartbeats 2000000 in
theorem way_leaf {G : FM} {w : List Nat} (h : okW w) (hl : w.length ≤ 90000) (M : MS) : mkT "Way" (runD 4 (m_WayD_initD G)) [.str w] M = .ok (T.leaf w).w M := by
  have hw : okW w := h
  have hd30 : (T.leaf w).depth < 30 := by simp [T.depth]
  obtain ⟨c, r, hcr, hc1, hc2⟩ := leaf_head hw
  refine mkT_of (ns := ["text", "name", "left", "right", "leaves"]) ?_ (by have := T.w_ncs (n := M.length) (T.leaf w); simpa [T.w, nc] using this)
  rw [runD_ap]
  have e1 := end_run (M := M ++ [.obj "Way" [] []]) 30 (.leaf w) hw hd30 [] [] (by simp [T.txt]; omega) (.inl rfl)
  simp only [List.nil_append, List.append_nil, T.txt, List.length_nil, Nat.zero_add] at e1
  have e1 : F_end_of [.str w, .int 0] (M ++ [.obj "Way" [] []]) = .ok (.int (w.length : Int)) (M ++ [.obj "Way" [] []]) := e1
  have s1 : ∀ v : D, sfK2 ["Way"] "text" [some (.cell M.length), some (.str w), some (.int (w.length : Int)), none] v (.cell M.length) (M ++ [.obj "Way" [] []]) = .nx [some (.cell M.length), some (.str w), some (.int (w.length : Int)), none] (M ++ [.obj "Way" ["text"] [v]]) := fun v => by
    rw [sfK2_cell list6 (by simp)]; simp [putN]
  have s2 : ∀ a v : D, sfK2 ["Way"] "name" [some (.cell M.length), some (.str w), some (.int (w.length : Int)), none] v (.cell M.length) (M ++ [.obj "Way" ["text"] [a]]) = .nx [some (.cell M.length), some (.str w), some (.int (w.length : Int)), none] (M ++ [.obj "Way" ["text", "name"] [a, v]]) := fun a v => by
    rw [sfK2_cell list6 (by simp)]; simp [putN]
  have s3 : ∀ a b v : D, sfK2 ["Way"] "left" [some (.cell M.length), some (.str w), some (.int (w.length : Int)), none] v (.cell M.length) (M ++ [.obj "Way" ["text", "name"] [a, b]]) = .nx [some (.cell M.length), some (.str w), some (.int (w.length : Int)), none] (M ++ [.obj "Way" ["text", "name", "left"] [a, b, v]]) := fun a b v => by
    rw [sfK2_cell list6 (by simp)]; simp [putN]
  have s4 : ∀ a b c' v : D, sfK2 ["Way"] "right" [some (.cell M.length), some (.str w), some (.int (w.length : Int)), none] v (.cell M.length) (M ++ [.obj "Way" ["text", "name", "left"] [a, b, c']]) = .nx [some (.cell M.length), some (.str w), some (.int (w.length : Int)), none] (M ++ [.obj "Way" ["text", "name", "left", "right"] [a, b, c', v]]) := fun a b c' v => by
    rw [sfK2_cell list6 (by simp)]; simp [putN]
  have s5 : ∀ a b c' d' v : D, sfK2 ["Way"] "name" [some (.cell M.length), some (.str w), some (.int (w.length : Int)), none] v (.cell M.length) (M ++ [.obj "Way" ["text", "name", "left", "right"] [a, b, c', d']]) = .nx [some (.cell M.length), some (.str w), some (.int (w.length : Int)), none] (M ++ [.obj "Way" ["text", "name", "left", "right"] [a, v, c', d']]) := fun a b c' d' v => by
    rw [sfK2_cell list6 (by simp)]; simp [putN]
  have s6 : ∀ a b c' d' v : D, sfK2 ["Way"] "leaves" [some (.cell M.length), some (.str w), some (.int (w.length : Int)), none] v (.cell M.length) (M ++ [.obj "Way" ["text", "name", "left", "right"] [a, b, c', d']]) = .nx [some (.cell M.length), some (.str w), some (.int (w.length : Int)), none] (M ++ [.obj "Way" ["text", "name", "left", "right", "leaves"] [a, b, c', d', v]]) := fun a b c' d' v => by
    rw [sfK2_cell list6 (by simp)]; simp [putN]
  have g0 : ∀ M1 : MS, ixD (.str w) (.int 0) M1 = .ok (.str [c]) M1 := fun M1 => by subst hcr; exact ix_at (i := 0) (by omega) rfl
  have h2 : ([c] == [40]) = false := by simp; omega
  simp [m_WayD_initD, startD, callK_ap, e1, lenF_str (show w.length ≤ 1000000 by omega), s1, s2, s3, s4, s5, s6, g0, sLo, h2, tupK_ap]
set_option maxHeartbeats 4000000 in
theorem way_node {G : FM} {l r : T} (h : (T.node l r).ok) (hl : (T.node l r).txt.length ≤ 90000) (hn : (T.node l r).ws.length ≤ 1000) (hd30 : (T.node l r).depth < 30) (i1 : ∀ M : MS, mkT "Way" G [.str l.txt] M = .ok l.w M) (i2 : ∀ M : MS, mkT "Way" G [.str r.txt] M = .ok r.w M) (M : MS) :
    mkT "Way" (runD 4 (m_WayD_initD G)) [.str (T.node l r).txt] M = .ok (T.node l r).w M := by
  have dl30 : l.depth < 30 := by simp [T.depth] at hd30; omega
  have dr30 : r.depth < 30 := by simp [T.depth] at hd30; omega
  have hl2 : l.txt.length + r.txt.length + 3 ≤ 90000 := by simp [T.txt] at hl; omega
  have hn2 : l.ws.length + r.ws.length ≤ 1000 := by simpa [T.ws] using hn
  obtain ⟨ln, ll, lr, hlw⟩ := l.w_text
  obtain ⟨rn, rl, rr, hrw⟩ := r.w_text
  refine mkT_of (ns := ["text", "name", "left", "right", "leaves"]) ?_ (by have := T.w_ncs (n := M.length) (T.node l r); simpa [T.w, nc] using this)
  obtain ⟨X, hX⟩ : ∃ X, X = (T.node l r).txt := ⟨_, rfl⟩
  rw [← hX] at hl ⊢
  rw [runD_ap]
  have hXl : X.length = l.txt.length + r.txt.length + 3 := by rw [hX]; simp [T.txt]; omega
  have e1 := end_run (M := M ++ [.obj "Way" [] []]) 30 (.node l r) h hd30 [] [] (by rw [List.nil_append, List.append_nil, ← hX]; omega) (.inl rfl)
  simp only [List.nil_append, List.append_nil, List.length_nil, Nat.zero_add, ← hX] at e1
  have e1 : F_end_of [.str X, .int 0] (M ++ [.obj "Way" [] []]) = .ok (.int (X.length : Int)) (M ++ [.obj "Way" [] []]) := e1
  have e2 := fun M1 : MS => end_run (M := M1) 30 l h.1 dl30 [40] (32 :: (r.txt ++ [41])) (by simp; omega) (.inr ⟨_, _, rfl, .inl rfl⟩)
  have x1 : [40] ++ l.txt ++ 32 :: (r.txt ++ [41]) = X := by rw [hX]; simp [T.txt]
  simp only [x1] at e2
  have e2 : ∀ M1 : MS, F_end_of [.str X, .int 1] M1 = .ok (.int ((1 + l.txt.length : Nat) : Int)) M1 := e2
  have c1 : cutL X (some 1) (some ((1 + l.txt.length : Nat) : Int)) = l.txt := by
    rw [show (1 : Int) = ((1 : Nat) : Int) from rfl, cutL_mid X 1 (1 + l.txt.length) (by omega) (by omega), ← x1]
    simp
  have c2 : cutL X (some (((1 + l.txt.length : Nat) : Int) + 1)) (some (-1)) = r.txt := by
    rw [show (((1 + l.txt.length : Nat) : Int) + 1) = ((2 + l.txt.length : Nat) : Int) by omega, cutL_last X (2 + l.txt.length) (by omega), ← x1]
    rw [show [40] ++ l.txt ++ 32 :: (r.txt ++ [41]) = ([40] ++ l.txt ++ [32]) ++ (r.txt ++ [41]) by simp, List.drop_append_of_le_length (by simp; omega)]
    rw [List.drop_of_length_le (by simp; omega)]
    simp
  have sd1 : ∀ M1 lo hi, sliceD (.str X) lo hi M1 = .ok (.str (cutL X lo hi)) M1 := fun M1 lo hi => sliceD_str (by omega)
  have s1 : ∀ v : D, sfK2 ["Way"] "text" [some (.cell M.length), some (.str X), some (.int (X.length : Int)), none] v (.cell M.length) (M ++ [.obj "Way" [] []]) = .nx [some (.cell M.length), some (.str X), some (.int (X.length : Int)), none] (M ++ [.obj "Way" ["text"] [v]]) := fun v => by
    rw [sfK2_cell list6 (by simp)]; simp [putN]
  have s2 : ∀ a v : D, sfK2 ["Way"] "name" [some (.cell M.length), some (.str X), some (.int (X.length : Int)), none] v (.cell M.length) (M ++ [.obj "Way" ["text"] [a]]) = .nx [some (.cell M.length), some (.str X), some (.int (X.length : Int)), none] (M ++ [.obj "Way" ["text", "name"] [a, v]]) := fun a v => by
    rw [sfK2_cell list6 (by simp)]; simp [putN]
  have s3 : ∀ a b v : D, sfK2 ["Way"] "left" [some (.cell M.length), some (.str X), some (.int (X.length : Int)), none] v (.cell M.length) (M ++ [.obj "Way" ["text", "name"] [a, b]]) = .nx [some (.cell M.length), some (.str X), some (.int (X.length : Int)), none] (M ++ [.obj "Way" ["text", "name", "left"] [a, b, v]]) := fun a b v => by
    rw [sfK2_cell list6 (by simp)]; simp [putN]
  have s4 : ∀ a b c' v : D, sfK2 ["Way"] "right" [some (.cell M.length), some (.str X), some (.int (X.length : Int)), none] v (.cell M.length) (M ++ [.obj "Way" ["text", "name", "left"] [a, b, c']]) = .nx [some (.cell M.length), some (.str X), some (.int (X.length : Int)), none] (M ++ [.obj "Way" ["text", "name", "left", "right"] [a, b, c', v]]) := fun a b c' v => by
    rw [sfK2_cell list6 (by simp)]; simp [putN]
  have s5 : ∀ (o3 : Option D) (a b c' d' v : D), sfK2 ["Way"] "left" [some (.cell M.length), some (.str X), some (.int (X.length : Int)), o3] v (.cell M.length) (M ++ [.obj "Way" ["text", "name", "left", "right"] [a, b, c', d']]) = .nx [some (.cell M.length), some (.str X), some (.int (X.length : Int)), o3] (M ++ [.obj "Way" ["text", "name", "left", "right"] [a, b, v, d']]) := fun o3 a b c' d' v => by
    rw [sfK2_cell list6 (by simp)]; simp [putN]
  have s6 : ∀ (o3 : Option D) (a b c' d' v : D), sfK2 ["Way"] "right" [some (.cell M.length), some (.str X), some (.int (X.length : Int)), o3] v (.cell M.length) (M ++ [.obj "Way" ["text", "name", "left", "right"] [a, b, c', d']]) = .nx [some (.cell M.length), some (.str X), some (.int (X.length : Int)), o3] (M ++ [.obj "Way" ["text", "name", "left", "right"] [a, b, c', v]]) := fun o3 a b c' d' v => by
    rw [sfK2_cell list6 (by simp)]; simp [putN]
  have s7 : ∀ (o3 : Option D) (a b c' d' v : D), sfK2 ["Way"] "leaves" [some (.cell M.length), some (.str X), some (.int (X.length : Int)), o3] v (.cell M.length) (M ++ [.obj "Way" ["text", "name", "left", "right"] [a, b, c', d']]) = .nx [some (.cell M.length), some (.str X), some (.int (X.length : Int)), o3] (M ++ [.obj "Way" ["text", "name", "left", "right", "leaves"] [a, b, c', d', v]]) := fun o3 a b c' d' v => by
    rw [sfK2_cell list6 (by simp)]; simp [putN]
  have f1 : ∀ a b c' d' : D, fldD ["Way"] "left" (.cell M.length) (M ++ [.obj "Way" ["text", "name", "left", "right"] [a, b, c', d']]) = .ok c' (M ++ [.obj "Way" ["text", "name", "left", "right"] [a, b, c', d']]) := fun a b c' d' => fldD_cell list6 (by decide) rfl
  have f2 : ∀ a b c' d' : D, fldD ["Way"] "right" (.cell M.length) (M ++ [.obj "Way" ["text", "name", "left", "right"] [a, b, c', d']]) = .ok d' (M ++ [.obj "Way" ["text", "name", "left", "right"] [a, b, c', d']]) := fun a b c' d' => fldD_cell list6 (by decide) rfl
  have f3 : ∀ M1 : MS, fldD ["Way"] "leaves" l.w M1 = .ok (.tup (l.ws.map D.str)) M1 := fun M1 => by rw [hlw]; exact fldD_obj (by decide) rfl
  have f4 : ∀ M1 : MS, fldD ["Way"] "leaves" r.w M1 = .ok (.tup (r.ws.map D.str)) M1 := fun M1 => by rw [hrw]; exact fldD_obj (by decide) rfl
  have a1 : ∀ M1 : MS, addD (.tup (l.ws.map D.str)) (.tup (r.ws.map D.str)) M1 = .ok (.tup ((T.node l r).ws.map D.str)) M1 := fun M1 => by
    rw [addD_tup (by simp; omega), ← List.map_append]; rfl
  have g0 : ∀ M1 : MS, ixD (.str X) (.int 0) M1 = .ok (.str [40]) M1 := fun M1 => ix_at (i := 0) (by omega) (by rw [← x1]; rfl)
  generalize ((1 + l.txt.length : Nat) : Int) = m at *
  clear hlw hrw
  generalize (T.node l r).ws.map D.str = W at *
  generalize l.ws.map D.str = W1 at *
  generalize r.ws.map D.str = W2 at *
  generalize l.w = lw at *
  generalize r.w = rw' at *
  simp [m_WayD_initD, startD, callK_ap, e1, lenF_str (show X.length ≤ 1000000 by omega), s1, s2, s3, s4, s5, s6, s7, g0, sLo, e2, sd1, c1, c2, i1, i2, f1, f2, f3, f4, a1]
/-- what __init__ makes of a tree's text -/
theorem way_init : ∀ (d : Nat) (t : T), t.ok → t.txt.length ≤ 90000 → t.ws.length ≤ 1000 → t.depth < d → t.depth < 30 → ∀ M : MS, mkT "Way" (R_WayD_initD d) [.str t.txt] M = .ok t.w M
  | 0, _, _, _, _, h, _, _ => absurd h (by omega)
  | d + 1, .leaf w, h, hl, _, _, _, M => way_leaf (G := R_WayD_initD d) h hl M
  | d + 1, .node l r, h, hl, hn, hd, hd30, M => by
    have hl2 : l.txt.length + r.txt.length + 3 ≤ 90000 := by simp [T.txt] at hl; omega
    have hn2 : l.ws.length + r.ws.length ≤ 1000 := by simpa [T.ws] using hn
    exact way_node (G := R_WayD_initD d) h hl hn hd30
      (way_init d l h.1 (by omega) (by omega) (by simp [T.depth] at hd; omega) (by simp [T.depth] at hd30; omega))
      (way_init d r h.2 (by omega) (by omega) (by simp [T.depth] at hd; omega) (by simp [T.depth] at hd30; omega)) M
theorem sL5 : sL "ACIUZ" = [65, 67, 73, 85, 90] := by decide +kernel
/-- the letters that stand in x, in order -/
def five (x : List Nat) : List Nat := (sL "ACIUZ").filter (fun c => decide (c ∈ x))
/-- only letters of the five -/
def Let5 (x : List Nat) : Prop := ∀ c, c ∈ x → c ∈ sL "ACIUZ"
theorem mem_five (c : Nat) (x : List Nat) : c ∈ five x ↔ c ∈ sL "ACIUZ" ∧ c ∈ x := by simp [five, List.mem_filter]
theorem five_len (x : List Nat) : (five x).length ≤ 5 := Nat.le_trans (List.length_filter_le _ _) (by rw [sL5]; decide)
theorem five_let (x : List Nat) : Let5 (five x) := fun c hc => ((mem_five c x).mp hc).1
theorem join_chars {M : MS} {xs : List Nat} (h : xs.length ≤ 1000000) : joinF (.str []) [.lst (xs.map fun c => D.str [c])] M = .ok (.str xs) M := by
  have e : (xs.map fun c => D.str [c]) = (xs.map fun c => [c]).map D.str := by rw [List.map_map]; rfl
  have e2 : ((xs.map fun c => [c]).map List.length).sum = xs.length := by
    rw [List.map_map]
    clear h e
    induction xs with
    | nil => rfl
    | cons x xs ih => simp [ih]; omega
  have e3 : (xs.map fun c => [c]).flatten = xs := by
    clear h e e2
    induction xs with
    | nil => rfl
    | cons x xs ih => simp [ih]
  rw [e, joinF_lst (by rw [e2]; simp; omega), joinL_nil, e3]
theorem init_ok {M : MS} {a b : Option D} : ∀ (x : List Nat) (o : Option D), Let5 x → ∃ o', forGo (fun _ => True) (nameG 2) b_RulesD_initD_1 (x.map fun c => D.str [c]) [a, b, o] M = .nx [a, b, o'] M
  | [], o, _ => ⟨o, by simp⟩
  | c :: x, o, h => by
    obtain ⟨o', e⟩ := init_ok (M := M) (a := a) (b := b) x (some (.str [c])) fun y hy => h y (List.mem_cons_of_mem _ hy)
    have hb : b_RulesD_initD_1 [a, b, some (.str [c])] M = .nx [a, b, some (.str [c])] M := by simp [b_RulesD_initD_1, subIn_one, h c List.mem_cons_self]
    exact ⟨o', by simp [hb, e]⟩
theorem init_run {M : MS} {x : List Nat} (h : Let5 x) : mkT "Rules" F_RulesD_initD [.str x] M = .ok (.obj "Rules" ["letters"] [.str (five x)]) M := by
  refine mkT_of ?_ rfl
  have hm := get_last (M := M) (o := .obj "Rules" [] [])
  generalize hM : M ++ [MO.obj "Rules" [] []] = M1 at hm
  unfold F_RulesD_initD
  rw [runD_ap]
  obtain ⟨o, e1⟩ := init_ok (M := M1) (a := some (.cell M.length)) (b := some (.str x)) x none h
  have e2 := lc_typed (tt := t_RulesD_initD_1) (te := nameE 2) (i := 2) (w := [some (.cell M.length), some (.str x), none]) (M := M1) (g := fun c => D.str [c]) (p := fun c => decide (c ∈ x)) (f := fun c => D.str [c]) (xs := sL "ACIUZ") (by rw [sL5]; decide) (fun c hc => ⟨by simp [t_RulesD_initD_1, subIn_one], fun _ => by simp⟩)
  have e3 := five_len x
  have e4 := join_chars (M := M1) (xs := five x) (by omega)
  have e6 : tyvD M1 "str" (.str []) = true := rfl
  have e2 : lcGo (fun _ => True) (nameG 2) t_RulesD_initD_1 (nameE 2) [some (.cell M.length), some (.str x), none] ((sL "ACIUZ").map fun c => D.str [c]) [] M1 = .ok ((five x).map fun c => D.str [c]) M1 := e2
  simp [m_RulesD_initD, startD, e1, wipeD, bmK_ap e6, e2, e4, show sL "" = [] from rfl, sfK2_cell hm]
  rw [← hM]
  simp [putN]
@[simp] theorem fld_R {x : List Nat} {M : MS} : fldD ["Rules"] "letters" (.obj "Rules" ["letters"] [.str x]) M = .ok (.str x) M := fldD_obj (by decide) rfl
theorem has_run {M : MS} {x y : List Nat} (h : y.length ≤ 1000000) : F_RulesD_containsD [.obj "Rules" ["letters"] [.str x], .str y] M = .ok (.bl (decide (y.length = 1) && subIn y x)) M := by
  unfold F_RulesD_containsD
  rw [runD_ap]
  by_cases h1 : y.length = 1
  · have h1' : ((y.length : Int) == 1) = true := by simp [h1]
    simp [m_RulesD_containsD, startD, lenF_str h, h1]
  · have h1' : ((y.length : Int) == 1) = false := by simp; omega
    simp [m_RulesD_containsD, startD, lenF_str h, h1', h1]
theorem sLA1 : sL "A" = [65] := by decide +kernel
theorem sLC1 : sL "C" = [67] := by decide +kernel
theorem sLI1 : sL "I" = [73] := by decide +kernel
theorem sLU1 : sL "U" = [85] := by decide +kernel
theorem sLZ1 : sL "Z" = [90] := by decide +kernel
theorem sLz : sL "z" = [122] := by decide +kernel
theorem sLe : sL "e" = [101] := by decide +kernel
def jn (a b : List Nat) : List Nat := 40 :: (a ++ (32 :: (b ++ [41])))
def tn (x a b : List Nat) : List Nat :=
  if (decide (90 ∈ x) && (a == [122] || b == [122])) = true then [122]
  else if (decide (85 ∈ x) && a == [101]) = true then b
  else if (decide (85 ∈ x) && b == [101]) = true then a
  else if (decide (73 ∈ x) && a == b) = true then a
  else if (decide (67 ∈ x) && decide (b < a)) = true then jn b a
  else jn a b
def tf (x : List Nat) : T → List Nat
  | .leaf w => w
  | .node l r => tn x (tf x l) (tf x r)
theorem tn_cases (x a b : List Nat) : tn x a b = [122] ∨ tn x a b = a ∨ tn x a b = b ∨ tn x a b = jn a b ∨ tn x a b = jn b a := by
  unfold tn
  repeat' split
  all_goals simp
theorem tf_len (x : List Nat) : ∀ t : T, t.ok → (tf x t).length ≤ t.txt.length
  | .leaf w, _ => Nat.le_refl _
  | .node l r, h => by
    have h1 := tf_len x l h.1
    have h2 := tf_len x r h.2
    show (tn x (tf x l) (tf x r)).length ≤ _
    have e : (T.node l r).txt.length = l.txt.length + r.txt.length + 3 := by simp [T.txt]; omega
    rw [e]
    rcases tn_cases x (tf x l) (tf x r) with z | z | z | z | z <;> rw [z] <;> simp [jn] <;> omega
theorem has1 {M : MS} {x : List Nat} (c : Nat) : inO "Rules" F_RulesD_containsD false (.str [c]) (.obj "Rules" ["letters"] [.str x]) M = .ok (.bl (decide (c ∈ x))) M := by
  have e := inO_obj (C := "Rules") (neg := false) (has_run (M := M) (x := x) (y := [c]) (by simp))
  rw [subIn_one] at e
  simpa using e
theorem fstr5 {sd : SD} {M : MS} {i j : Nat} {a b : List Nat} (h1 : nameE i sd M = .ok (.str a) M) (h2 : nameE j sd M = .ok (.str b) M) (hl : a.length + b.length ≤ 900000) :
    fstrE [(constE (.str (sL "("))), (fmtE (nameE i)), (constE (.str (sL " "))), (fmtE (nameE j)), (constE (.str (sL ")")))] sd M = .ok (.str (jn a b)) M := by
  have f1 := fmtE_str h1 (by omega)
  have f2 := fmtE_str h2 (by omega)
  rw [fstrE_ap, sLo, sLs, sLc]
  rw [jGo_cons, constE_ap, Res.bind_ok, jK_str (by simp)]
  rw [jGo_cons, f1, Res.bind_ok, jK_str (by simp; omega)]
  rw [jGo_cons, constE_ap, Res.bind_ok, jK_str (by simp; omega)]
  rw [jGo_cons, f2, Res.bind_ok, jK_str (by simp; omega)]
  rw [jGo_cons, constE_ap, Res.bind_ok, jK_str (by simp; omega)]
  rw [jGo_nil]
  simp [jn]
theorem tform_run {M : MS} {x : List Nat} : ∀ (d : Nat) (t : T), t.ok → t.txt.length ≤ 90000 → t.depth < d → R_tree_form d [t.w, .obj "Rules" ["letters"] [.str x]] M = .ok (.str (tf x t)) M
  | 0, _, _, _, h => absurd h (by omega)
  | d + 1, .leaf w, _, _, _ => by
    show runD 4 (m_tree_form (R_tree_form d)) [(T.leaf w).w, .obj "Rules" ["letters"] [.str x]] M = _
    rw [runD_ap]
    have f1 : fldD ["Way"] "left" (T.leaf w).w M = .ok .non M := fldD_obj (by decide) rfl
    have f2 : fldD ["Way"] "name" (T.leaf w).w M = .ok (.str w) M := fldD_obj (by decide) rfl
    generalize (T.leaf w).w = tw at *
    simp [m_tree_form, startD, f1, f2, isN, tf]
  | d + 1, .node l r, h, hl, hd => by
    have hl2 : l.txt.length + r.txt.length + 3 ≤ 90000 := by simp [T.txt] at hl; omega
    have e1 := tform_run (M := M) (x := x) d l h.1 (by omega) (by simp [T.depth] at hd; omega)
    have e2 := tform_run (M := M) (x := x) d r h.2 (by omega) (by simp [T.depth] at hd; omega)
    have n1 := tf_len x l h.1
    have n2 := tf_len x r h.2
    show runD 4 (m_tree_form (R_tree_form d)) [(T.node l r).w, .obj "Rules" ["letters"] [.str x]] M = .ok (.str (tn x (tf x l) (tf x r))) M
    rw [runD_ap]
    have f1 : fldD ["Way"] "left" (T.node l r).w M = .ok l.w M := fldD_obj (by decide) rfl
    have f2 : fldD ["Way"] "right" (T.node l r).w M = .ok r.w M := fldD_obj (by decide) rfl
    have f3 : isN l.w = false := by obtain ⟨_, _, _, z⟩ := l.w_text; rw [z]; rfl
    generalize tf x l = a at *
    generalize tf x r = b at *
    generalize (T.node l r).w = tw at *
    generalize l.w = lw at *
    generalize r.w = rw' at *
    unfold m_tree_form
    rw [show startD 4 [tw, D.obj "Rules" ["letters"] [.str x]] = [some tw, some (.obj "Rules" ["letters"] [.str x]), none, none] from rfl]
    simp only [seqS_ap (sa := ifS (valB (binE isNF (unE (fldD ["Way"] "left") (nameE 0)) (constE .non))) (retS (unE (fldD ["Way"] "name") (nameE 0))) passS)]
    have z1 : ifS (valB (binE isNF (unE (fldD ["Way"] "left") (nameE 0)) (constE .non))) (retS (unE (fldD ["Way"] "name") (nameE 0))) passS [some tw, some (.obj "Rules" ["letters"] [.str x]), none, none] M = .nx [some tw, some (.obj "Rules" ["letters"] [.str x]), none, none] M := by
      simp [f1, f3]
    rw [z1, SRes.seq_nx, seqS_ap]
    have z2 : setS 2 (callE 2 (R_tree_form d) (· ++ []) (consA (unE (fldD ["Way"] "left") (nameE 0)) (consA (nameE 1) nilA))) [some tw, some (.obj "Rules" ["letters"] [.str x]), none, none] M = .nx [some tw, some (.obj "Rules" ["letters"] [.str x]), some (.str a), none] M := by
      simp [f1, callK_ap, e1]
    rw [z2, SRes.seq_nx, seqS_ap]
    have z3 : setS 3 (callE 2 (R_tree_form d) (· ++ []) (consA (unE (fldD ["Way"] "right") (nameE 0)) (consA (nameE 1) nilA))) [some tw, some (.obj "Rules" ["letters"] [.str x]), some (.str a), none] M = .nx [some tw, some (.obj "Rules" ["letters"] [.str x]), some (.str a), some (.str b)] M := by
      simp [f2, callK_ap, e2]
    rw [z3, SRes.seq_nx]
    have hin : ∀ (s : String) (c : Nat), sL s = [c] → valB (binE (inO "Rules" F_RulesD_containsD false) (constE (.str (sL s))) (nameE 1)) [some tw, some (.obj "Rules" ["letters"] [.str x]), some (.str a), some (.str b)] M = .ok (decide (c ∈ x)) M := fun s c hs => by
      rw [hs]; simp [has1]
    have t1 : orB (valB (binE (eqD false) (nameE 2) (constE (.str (sL "z"))))) (valB (binE (eqD false) (nameE 3) (constE (.str (sL "z"))))) [some tw, some (.obj "Rules" ["letters"] [.str x]), some (.str a), some (.str b)] M = .ok (a == [122] || b == [122]) M :=
      orB_ok (by simp [sLz]) (by simp [sLz])
    rw [ifret (andB_ok (hin "Z" 90 sLZ1) t1) (d := .str [122]) (fun _ => by simp [sLz])]
    rw [ifret (andB_ok (hin "U" 85 sLU1) (q := a == [101]) (by simp [sLe])) (d := .str b) (fun _ => by simp)]
    rw [ifret (andB_ok (hin "U" 85 sLU1) (q := b == [101]) (by simp [sLe])) (d := .str a) (fun _ => by simp)]
    rw [ifret (andB_ok (hin "I" 73 sLI1) (q := a == b) (by simp)) (d := .str a) (fun _ => by simp)]
    rw [ifret (andB_ok (hin "C" 67 sLC1) (q := decide (b < a)) (by simp)) (d := .str (jn b a)) (fun _ => fstr5 (by simp) (by simp) (by omega))]
    rw [retS_ap, fstr5 (a := a) (b := b) (by simp) (by simp) (by omega)]
    unfold tn
    repeat' split
    all_goals rfl
theorem plain_run {M : MS} {x : List Nat} {t : T} (hx : ¬ 65 ∈ x) (h : t.ok) (hl : t.txt.length ≤ 90000) (hd : t.depth < 30) : F_plain [t.w, .obj "Rules" ["letters"] [.str x]] M = .ok (.str (tf x t)) M := by
  have e := tform_run (M := M) (x := x) 30 t h hl hd
  have e : F_tree_form [t.w, .obj "Rules" ["letters"] [.str x]] M = .ok (.str (tf x t)) M := e
  unfold F_plain
  rw [runD_ap]
  generalize t.w = tw at *
  simp [m_plain, startD, sLA1, has1, hx, callK_ap, e]
section
variable {F : FM} {M M' : MS} {t u : T} {r : D} {x : List Nat} {i : Int} {n : Nat} {g : List D → List D} {ms : MA} {sd : SD} {m : String}
theorem binO_W (h : F [t.w, u.w] M = .ok r M') : binO "Way" F t.w u.w M = .ok r M' := by
  obtain ⟨_, _, _, e⟩ := t.w_text
  obtain ⟨_, _, _, e'⟩ := u.w_text
  rw [e, e'] at h ⊢
  exact binO_obj h
theorem methK_W (h : (["text", "name", "left", "right", "leaves"] : List String).contains m = false) : methK "Way" m n F g ms sd t.w M = (ms sd M).bind (methK2 n F g t.w) := by
  obtain ⟨_, _, _, e⟩ := t.w_text
  rw [e]
  exact methK_obj h
theorem text_W : fldD ["Way"] "text" t.w M = .ok (.str t.txt) M := by
  obtain ⟨_, _, _, e⟩ := t.w_text
  rw [e]; exact fldD_obj (by decide) rfl
theorem leaves_W : fldD ["Way"] "leaves" t.w M = .ok (.tup (t.ws.map D.str)) M := by
  obtain ⟨_, _, _, e⟩ := t.w_text
  rw [e]; exact fldD_obj (by decide) rfl
theorem left_leaf {w : List Nat} : fldD ["Way"] "left" (T.leaf w).w M = .ok .non M := fldD_obj (by decide) rfl
theorem left_node {l r : T} : fldD ["Way"] "left" (T.node l r).w M = .ok l.w M := fldD_obj (by decide) rfl
theorem right_node {l r : T} : fldD ["Way"] "right" (T.node l r).w M = .ok r.w M := fldD_obj (by decide) rfl
theorem isN_w (t : T) : isN t.w = false := by obtain ⟨_, _, _, z⟩ := t.w_text; rw [z]; rfl
end
def StopR (r : List Nat) : Prop := r = [] ∨ ∃ c s, r = c :: s ∧ (c = 32 ∨ c = 41)
theorem word_end : ∀ {v w r s : List Nat}, (∀ c, c ∈ v → 97 ≤ c ∧ c ≤ 122) → (∀ c, c ∈ w → 97 ≤ c ∧ c ≤ 122) → StopR r → StopR s → v ++ r = w ++ s → v = w ∧ r = s
  | [], [], r, s, _, _, _, _, e => ⟨rfl, e⟩
  | [], c :: w, r, s, _, hw, hr, _, e => by
    have h1 := hw c List.mem_cons_self
    rcases hr with rfl | ⟨d, r', rfl, hd⟩
    · cases e
    · simp at e
      omega
  | c :: v, [], r, s, hv, _, _, hs, e => by
    have h1 := hv c List.mem_cons_self
    rcases hs with rfl | ⟨d, s', rfl, hd⟩
    · cases e
    · simp at e
      omega
  | c :: v, d :: w, r, s, hv, hw, hr, hs, e => by
    simp only [List.cons_append, List.cons.injEq] at e
    obtain ⟨e1, e2⟩ := word_end (fun x hx => hv x (List.mem_cons_of_mem _ hx)) (fun x hx => hw x (List.mem_cons_of_mem _ hx)) hr hs e.2
    exact ⟨by rw [e.1, e1], e2⟩
theorem T.txt_inj : ∀ (t u : T) (r s : List Nat), t.ok → u.ok → StopR r → StopR s → t.txt ++ r = u.txt ++ s → t = u ∧ r = s
  | .leaf v, .leaf w, r, s, ht, hu, hr, hs, e => by
    obtain ⟨e1, e2⟩ := word_end ht.2.2 hu.2.2 hr hs e
    exact ⟨by rw [e1], e2⟩
  | .leaf v, .node a b, r, s, ht, hu, hr, hs, e => by
    obtain ⟨h1, _, h2⟩ := ht
    match v, h1, h2 with
    | c :: v, _, h2 =>
      have := h2 c List.mem_cons_self
      simp [T.txt] at e
      omega
  | .node a b, .leaf v, r, s, hu, ht, hr, hs, e => by
    obtain ⟨h1, _, h2⟩ := ht
    match v, h1, h2 with
    | c :: v, _, h2 =>
      have := h2 c List.mem_cons_self
      simp [T.txt] at e
      omega
  | .node a b, .node a' b', r, s, ht, hu, hr, hs, e => by
    simp only [T.txt, List.cons_append, List.append_assoc, List.cons.injEq, true_and, List.nil_append] at e
    obtain ⟨e1, e2⟩ := T.txt_inj a a' _ _ ht.1 hu.1 (.inr ⟨_, _, rfl, .inl rfl⟩) (.inr ⟨_, _, rfl, .inl rfl⟩) e
    simp only [List.cons.injEq, true_and] at e2
    obtain ⟨e3, e4⟩ := T.txt_inj b b' _ _ ht.2 hu.2 (.inr ⟨_, _, rfl, .inr rfl⟩) (.inr ⟨_, _, rfl, .inr rfl⟩) e2
    simp only [List.cons.injEq, true_and] at e4
    exact ⟨by rw [e1, e3], e4⟩
theorem T.txt_eq {t u : T} (ht : t.ok) (hu : u.ok) : t.txt = u.txt ↔ t = u := ⟨fun e => (T.txt_inj t u [] [] ht hu (.inl rfl) (.inl rfl) (by rw [e])).1, fun e => by rw [e]⟩
theorem T.eqv : ∀ t u : T, eqvD t.d u.d = true ↔ t = u
  | .leaf v, .leaf w => by
    show eqvD (.str v) (.str w) = true ↔ _
    rw [eqvD_str]
    simp
  | .leaf v, .node a b => by
    show eqvD (.str v) (.tup [a.d, b.d]) = true ↔ _
    simp [eqvD, toP, PyData.eqv]
  | .node a b, .leaf v => by
    show eqvD (.tup [a.d, b.d]) (.str v) = true ↔ _
    simp [eqvD, toP, PyData.eqv]
  | .node a b, .node a' b' => by
    have h : eqvD (.tup [a.d, b.d]) (.tup [a'.d, b'.d]) = (eqvD a.d a'.d && (eqvD b.d b'.d && true)) := by
      show PyData.eqv _ _ = _
      rw [toP, toP, PyData.eqv]
      show eqvDs [a.d, b.d] [a'.d, b'.d] = _
      rw [eqvDs_cons, eqvDs_cons, eqvDs_nil]
    show eqvD (.tup [a.d, b.d]) (.tup [a'.d, b'.d]) = true ↔ _
    rw [h, Bool.and_true, Bool.and_eq_true, T.eqv a a', T.eqv b b']
    simp
/-- the plain form's tree -/
def nfn (x : List Nat) (l r : T) : T :=
  if (decide (90 ∈ x) && (l.txt == [122] || r.txt == [122])) = true then .leaf [122]
  else if (decide (85 ∈ x) && l.txt == [101]) = true then r
  else if (decide (85 ∈ x) && r.txt == [101]) = true then l
  else if (decide (73 ∈ x) && l.txt == r.txt) = true then l
  else if (decide (67 ∈ x) && decide (r.txt < l.txt)) = true then .node r l
  else .node l r
def nf (x : List Nat) : T → T
  | .leaf w => .leaf w
  | .node l r => nfn x (nf x l) (nf x r)
theorem nfn_txt (x : List Nat) (l r : T) : (nfn x l r).txt = tn x l.txt r.txt := by
  unfold nfn tn
  repeat' split
  all_goals rfl
theorem nf_txt (x : List Nat) : ∀ t : T, (nf x t).txt = tf x t
  | .leaf w => rfl
  | .node l r => by
    show (nfn x (nf x l) (nf x r)).txt = tn x (tf x l) (tf x r)
    rw [nfn_txt, nf_txt x l, nf_txt x r]
theorem nf_ok (x : List Nat) : ∀ t : T, t.ok → (nf x t).ok ∧ (nf x t).ws.length ≤ t.ws.length
  | .leaf w, h => ⟨h, Nat.le_refl _⟩
  | .node l r, h => by
    obtain ⟨h1, h2⟩ := nf_ok x l h.1
    obtain ⟨h3, h4⟩ := nf_ok x r h.2
    have p1 := T.ws_pos l
    have p2 := T.ws_pos r
    show (nfn x (nf x l) (nf x r)).ok ∧ (nfn x (nf x l) (nf x r)).ws.length ≤ (T.node l r).ws.length
    have e : (T.node l r).ws.length = l.ws.length + r.ws.length := by simp [T.ws]
    rw [e]
    unfold nfn
    repeat' split
    · exact ⟨⟨by decide, by decide, by decide⟩, by simp [T.ws]; omega⟩
    · exact ⟨h3, by omega⟩
    · exact ⟨h1, by omega⟩
    · exact ⟨h1, by omega⟩
    · exact ⟨⟨h3, h1⟩, by simp only [T.ws, List.length_append]; omega⟩
    · exact ⟨⟨h1, h3⟩, by simp only [T.ws, List.length_append]; omega⟩
theorem diff_run {M : MS} {w : Wd} (hl : w.length < 4000) : F_different [wD w] M = .ok (.int ((dedT w).length : Nat)) M := by
  unfold F_different
  rw [runD_ap]
  have e := setR_w (m := nameE 0) (sd := startD 1 [wD w]) (M := M) (M1 := M) (w := w) (by simp [startD]) hl
  simp [m_different, e]
theorem beg_loop {M : MS} {w : Wd} (hl : w.length < 4000) : ∀ (n i : Nat) (o3 o4 : Option D), w.length - i = n → i ≤ w.length → (dedT (w.take i)).length < (dedT w).length →
    ∃ t, forGo (lchk M (wD w)) (tupG [3, 4]) b_beginning_1 (enumD i ((w.drop i).map D.str)) [some (wD w), some (.int ((dedT w).length : Nat)), some (.cell M.length), o3, o4] (M ++ [.dic ((dedT (w.take i)).map D.str) (List.replicate (dedT (w.take i)).length (.bl true))]) = .ret (.tup [wD (begF w).1, .str (begF w).2]) (M ++ [t]) := by
  intro n
  induction n with
  | zero =>
    intro i o3 o4 hn hi hc
    have : i = w.length := by omega
    subst this
    rw [List.take_length] at hc
    omega
  | succ n ih =>
    intro i o3 o4 hn hi hc
    have hi' : i < w.length := by omega
    rw [List.drop_eq_getElem_cons hi', List.map_cons]
    unfold enumD
    have hx : w[i]? = some w[i] := List.getElem?_eq_getElem hi'
    have ht := dedT_take hx
    have d1 : (dedT (w.take i)).length < 1000000 := by have := dedT_len (w.take i); simp at this; omega
    have p := dputK3_cell (sd := [some (wD w), some (.int ((dedT w).length : Nat)), some (.cell M.length), some (.int (i : Nat)), some (.str w[i])]) (get_last (M := M) (o := .dic ((dedT (w.take i)).map D.str) (List.replicate (dedT (w.take i)).length (.bl true)))) (dputD_str (x := w[i]) rfl d1)
    rw [set_last, ← ht] at p
    have q := lenX_dic (get_last (M := M) (o := .dic ((dedT (w.take (i + 1))).map D.str) (List.replicate (dedT (w.take (i + 1))).length (.bl true))))
    rw [List.length_map] at q
    have le : (dedT (w.take (i + 1))).length ≤ (dedT w).length := ded_le fun x hx => List.mem_of_mem_take hx
    have s0 : tupG [3, 4] (.tup [.int (i : Nat), .str w[i]]) [some (wD w), some (.int ((dedT w).length : Nat)), some (.cell M.length), o3, o4] = some [some (wD w), some (.int ((dedT w).length : Nat)), some (.cell M.length), some (.int (i : Nat)), some (.str w[i])] := rfl
    have ck : ∀ M' : MS, lchk M (wD w) M' := fun _ => rfl
    have ih' := fun h => ih (i + 1) (some (.int (i : Nat))) (some (.str w[i])) (by omega) hi' h
    have hM2 : ∃ t, M ++ [.dic ((dedT (w.take (i + 1))).map D.str) (List.replicate (dedT (w.take (i + 1))).length (.bl true))] = M ++ [t] := ⟨_, rfl⟩
    generalize M ++ [.dic ((dedT (w.take (i + 1))).map D.str) (List.replicate (dedT (w.take (i + 1))).length (.bl true))] = M2 at p q ih' hM2
    generalize M ++ [.dic ((dedT (w.take i)).map D.str) (List.replicate (dedT (w.take i)).length (.bl true))] = M1 at p
    by_cases he : (dedT (w.take (i + 1))).length = (dedT w).length
    · have hb := beg_at hi' hc he
      obtain ⟨t, rfl⟩ := hM2
      refine ⟨t, ?_⟩
      unfold forGo
      rw [if_pos (ck _), s0]
      dsimp only
      have e : b_beginning_1 [some (wD w), some (.int ((dedT w).length : Nat)), some (.cell M.length), some (.int (i : Nat)), some (.str w[i])] M1 = .ret (.tup [wD (begF w).1, .str (begF w).2]) (M ++ [t]) := by
        rw [hb]
        have l1 : ∀ M : MS, listF [wD (w.take i)] M = .ok (wD (w.take i)) M := fun _ => rfl
        have l2 := sl_to (w := w) (k := i) (M := M ++ [t])
        rw [he] at q
        generalize wD (w.take i) = wi at l1 l2 ⊢
        generalize wD w = wd at *
        generalize (dedT w).length = nw at *
        simp [b_beginning_1, p, q, l1, l2, tupK_ap]
      rw [e]
    · obtain ⟨t, e2⟩ := ih' (by omega)
      refine ⟨t, ?_⟩
      unfold forGo
      rw [if_pos (ck _), s0]
      dsimp only
      have e : b_beginning_1 [some (wD w), some (.int ((dedT w).length : Nat)), some (.cell M.length), some (.int (i : Nat)), some (.str w[i])] M1 = .nx [some (wD w), some (.int ((dedT w).length : Nat)), some (.cell M.length), some (.int (i : Nat)), some (.str w[i])] M2 := by
        have he2 : (((dedT (w.take (i + 1))).length : Nat) : Int) ≠ ((dedT w).length : Nat) := by omega
        generalize wD w = wd at p
        generalize (((dedT w).length : Nat) : Int) = nw at p he2
        generalize (((dedT (w.take (i + 1))).length : Nat) : Int) = mw at q he2
        have he3 : (mw == nw) = false := by simpa using he2
        simp [b_beginning_1, p, q, he3]
      rw [e]
      exact e2
theorem beg_run {M : MS} {w : Wd} (hl : w.length < 4000) (hw : w ≠ []) : F_beginning [wD w] M = .ok (.tup [wD (begF w).1, .str (begF w).2]) M := by
  obtain ⟨t, e⟩ := beg_loop (M := M) hl w.length 0 none none (by omega) (by omega) (by simpa [dedT] using cnt_pos hw)
  refine clF_ok (t := [t]) (d := .tup [wD (begF w).1, .str (begF w).2]) ?_ ?_
  · rw [runD_ap]
    have d := diff_run (M := M) hl
    simp only [List.take_zero, List.drop_zero] at e
    have e : forGo (lchk M (wD w)) (tupG [3, 4]) b_beginning_1 (enumD 0 (w.map D.str)) [some (wD w), some (.int ((dedT w).length : Nat)), some (.cell M.length), none, none] (M ++ [.dic [] []]) = .ret (.tup [wD (begF w).1, .str (begF w).2]) (M ++ [t]) := e
    simp [m_beginning, startD, callK_ap, d, enK_lst]
    rw [show lchk (M ++ [.dic [] []]) (wD w) = lchk M (wD w) from rfl, e]
    rfl
  · show (clos M.length (M ++ [t]) [wD (begF w).1, .str (begF w).2]).map D.tup = _
    unfold clos
    rw [clo_w]
    rfl
theorem bend_run {M : MS} {w : Wd} (hl : w.length < 4000) (hw : w ≠ []) : F_ending [wD w] M = .ok (.tup [.str (endF w).1, wD (endF w).2]) M := by
  unfold F_ending
  rw [runD_ap]
  have b := beg_run (M := M) (w := w.reverse) (by simpa using hl) (by simpa using hw)
  have r1 := rev_w (m := nameE 0) (sd := [some (wD w), none, none]) (M := M) (M1 := M) (w := w) (by simp)
  have r2 := rev_w (m := nameE 1) (sd := [some (wD w), some (wD (begF w.reverse).1), some (.str (begF w.reverse).2)]) (M := M) (M1 := M) (w := (begF w.reverse).1) (by simp)
  have u : unpK (tupG [1, 2]) [some (wD w), none, none] (.tup [wD (begF w.reverse).1, .str (begF w.reverse).2]) M = .nx [some (wD w), some (wD (begF w.reverse).1), some (.str (begF w.reverse).2)] M := unpK_ap rfl
  unfold endF
  generalize wD (begF w.reverse).1.reverse = z at *
  generalize wD (begF w.reverse).1 = y at *
  generalize wD w.reverse = x at *
  generalize wD w = v at *
  rw [show startD 3 [v] = [some v, none, none] from rfl]
  unfold m_ending
  rw [seqS_ap, unpS_ap, callE_ap, consA_ap, r1]
  simp only [Res.bind_ok, consK_ap, nilA_ap, consK2_ap]
  rw [callK_ap (by rfl), List.append_nil, b]
  simp only [SRes.ofE_ok, u, SRes.seq_nx, retS_ap, tupE_ap, consA_ap, nameE_s, nameE_0, Res.bind_ok, consK_ap]
  rw [r2]
  simp [tupK_ap]
theorem merge_loop {M : MS} {l r : Wd} (hl : l.length < 4000) (hr : r.length < 4000) (ol : DL.okW l) (or_ : DL.okW r) : ∀ (n : Nat) (o : Option D), n ≤ l.length → n ≤ r.length →
    forGo (fun _ => True) (nameG 2) b_merged_1 (((List.range (n + 1)).reverse.map fun (k : Nat) => (k : Int)).map D.int) [some (wD l), some (wD r), o] M = .ret (wD (mrgK l r n)) M := by
  intro n
  have step : ∀ (k : Nat) (o : Option D), k ≤ l.length → b_merged_1 [some (wD l), some (wD r), some (.int (k : Int))] M = if l.drop (l.length - k) = r.take k then .ret (wD (l ++ r.drop k)) M else .nx [some (wD l), some (wD r), some (.int (k : Int))] M := by
    intro k o hk
    have c1 : ((l.length : Int) - (k : Int)) = ((l.length - k : Nat) : Int) := by omega
    have s1 := sl_from (w := l) (k := l.length - k) (M := M)
    have s2 := sl_to (w := r) (k := k) (M := M)
    have s3 := sl_from (w := r) (k := k) (M := M)
    have q := eqD_w (neg := false) (M := M) (u := l.drop (l.length - k)) (w := r.take k) (fun x hx => ol x (List.mem_of_mem_drop hx)) (fun x hx => or_ x (List.mem_of_mem_take hx))
    have a := addD_w (M := M) (u := l) (w := r.drop k) (by simp; omega)
    have ln : lenF [wD l] M = .ok (.int l.length) M := by show Res.ok (D.int ((l.map D.str).length : Nat)) M = _; rw [List.length_map]
    generalize wD (l ++ r.drop k) = z1 at *
    generalize wD (l.drop (l.length - k)) = z2 at *
    generalize wD (r.take k) = z3 at *
    generalize wD (r.drop k) = z4 at *
    generalize wD l = z5 at *
    generalize wD r = z6 at *
    by_cases h : l.drop (l.length - k) = r.take k
    · rw [if_pos h]
      rw [decide_eq_true h] at q
      simp [b_merged_1, ln, c1, s1, s2, s3, q, a]
    · rw [if_neg h]
      rw [decide_eq_false h] at q
      simp [b_merged_1, ln, c1, s1, s2, s3, q, a]
  induction n with
  | zero =>
    intro o _ _
    rw [show (((List.range (0 + 1)).reverse.map fun (k : Nat) => (k : Int)).map D.int) = [.int ((0 : Nat) : Int)] from rfl, forGo_cons]
    rw [show ([some (wD l), some (wD r), o].set 2 (some (D.int ((0 : Nat) : Int)))) = [some (wD l), some (wD r), some (.int ((0 : Nat) : Int))] from rfl, step 0 none (by omega), if_pos (by simp)]
    simp [mrgK]
  | succ n ih =>
    intro o h1 h2
    rw [List.range_succ, List.reverse_append, List.reverse_singleton, List.singleton_append, List.map_cons, List.map_cons, forGo_cons]
    rw [show ([some (wD l), some (wD r), o].set 2 (some (D.int ((n + 1 : Nat) : Int)))) = [some (wD l), some (wD r), some (.int ((n + 1 : Nat) : Int))] from rfl, step (n + 1) none h1]
    unfold mrgK
    split
    · simp
    · rw [SRes.loop_nx]
      exact ih _ (by omega) (by omega)
theorem merge_run {M : MS} {l r : Wd} (hl : l.length < 4000) (hr : r.length < 4000) (ol : DL.okW l) (or_ : DL.okW r) : F_merged [wD l, wD r] M = .ok (wD (mergeW l r)) M := by
  unfold F_merged
  rw [runD_ap]
  have e := merge_loop (M := M) hl hr ol or_ (min l.length r.length) none (Nat.min_le_left _ _) (Nat.min_le_right _ _)
  have l1 : lenF [wD l] M = .ok (.int l.length) M := by show Res.ok (D.int ((l.map D.str).length : Nat)) M = _; rw [List.length_map]
  have l2 : lenF [wD r] M = .ok (.int r.length) M := by show Res.ok (D.int ((r.map D.str).length : Nat)) M = _; rw [List.length_map]
  have hm : ((if r.length < l.length then (r.length : Int) else (l.length : Int)) + 1) = ((min l.length r.length + 1 : Nat) : Int) := by split <;> omega
  have rk := rv1K_ap (M := M) (j := min l.length r.length + 1) (by omega)
  rw [← hm] at rk
  unfold mergeW
  generalize wD (mrgK l r (min l.length r.length)) = z at *
  generalize wD l = x at *
  generalize wD r = y at *
  rw [show startD 3 [x, y] = [some x, some y, none] from rfl]
  generalize hit : intsI ((List.range (min l.length r.length + 1)).reverse.map fun (k : Nat) => (k : Int)) = it at rk
  have e : forGo it.chk (nameG 2) b_merged_1 it.ds [some x, some y, none] M = .ret z M := by rw [← hit]; exact e
  simp [m_merged, l1, l2, rk, e]
theorem band_run {M : MS} : ∀ (n d : Nat) {w : Wd}, w ≠ [] → (dedT w).length ≤ n → n < d → n ≤ 10 → w.length < 1900 → DL.okW w → R_band_form d [wD w] M = .ok (wD (bandN n w)) M
  | n, 0, w, _, _, h, _, _, _ => absurd h (by omega)
  | 0, d + 1, w, hw, h, _, _, _, _ => absurd (cnt_pos hw) (by omega)
  | n + 1, d + 1, w, hw, hn, hd, h10, hl, ok => by
    show runD 5 (m_band_form (R_band_form d)) [wD w] M = _
    rw [runD_ap]
    have df := diff_run (M := M) (w := w) (by omega)
    have b := beg_run (M := M) (w := w) (by omega) hw
    have e := bend_run (M := M) (w := w) (by omega) hw
    have B := beg_ex hw
    have E := end_ex hw
    rw [show startD 5 [wD w] = [some (wD w), none, none, none, none] from rfl]
    by_cases h1 : (dedT w).length = 1
    · have hd0 : ixD (wD w) (.int 0) M = .ok (.str (w.headD [])) M := ixD_lst (atI_of (j := 0) (by cases w with
        | nil => exact absurd rfl hw
        | cons x w => rfl))
      have z : bandN (n + 1) w = [w.headD []] := by unfold bandN; rw [if_pos h1]
      rw [z]
      rw [h1] at df
      generalize hwd : wD w = wd at *
      simp [m_band_form, callK_ap, df, hd0, lstK_ap]
    · obtain ⟨np, ns, lp, ls⟩ := parts hw h1
      have lp : (dedT (begF w).1).length < (dedT w).length := lp
      have ls : (dedT (endF w).2).length < (dedT w).length := ls
      have lb : (begF w).1.length < w.length := by
        obtain ⟨⟨r, hr⟩, _⟩ := B
        have := congrArg List.length hr
        simp at this
        omega
      have le' : (endF w).2.length < w.length := by
        obtain ⟨⟨r, hr⟩, _⟩ := E
        have := congrArg List.length hr
        simp at this
        omega
      have okp : DL.okW (begF w).1 := fun x hx => ok x (B.mem.2 x hx)
      have oks : DL.okW (endF w).2 := fun x hx => ok x (E.mem.2 x hx)
      have r1 := band_run (M := M) n d (w := (begF w).1) np (by omega) (by omega) (by omega) (by omega) okp
      have r2 := band_run (M := M) n d (w := (endF w).2) ns (by omega) (by omega) (by omega) (by omega) oks
      have n0 : 2 ^ (n + 1) ≤ 2 ^ 11 := Nat.pow_le_pow_right (by decide) (by omega)
      have n1 := bandN_len n (begF w).1
      have n2 := bandN_len n (endF w).2
      have c1 := (al_bandN n np (by omega)).c
      have c2 := (al_bandN n ns (by omega)).c
      have z : bandN (n + 1) w = mergeW (bandN n (begF w).1 ++ [(begF w).2]) ((endF w).1 :: bandN n (endF w).2) := by conv => lhs; unfold bandN; rw [if_neg h1]
      have a1 := addD_w (M := M) (u := bandN n (begF w).1) (w := [(begF w).2]) (by simp; omega)
      have a2 := addD_w (M := M) (u := [(endF w).1]) (w := bandN n (endF w).2) (by simp; omega)
      have mg := merge_run (M := M) (l := bandN n (begF w).1 ++ [(begF w).2]) (r := (endF w).1 :: bandN n (endF w).2) (by simp; omega) (by simp; omega) (fun x hx => by
        rcases List.mem_append.mp hx with hx | hx
        · exact okp x ((c1 x).mpr hx)
        · rw [List.mem_singleton.mp hx]; exact ok _ B.mem.1) (fun x hx => by
        rcases List.mem_cons.mp hx with hx | hx
        · rw [hx]; exact ok _ E.mem.1
        · exact oks x ((c2 x).mpr hx))
      rw [z]
      have h1' : ((((dedT w).length : Nat) : Int) == 1) = false := by simpa using (show ¬ (((dedT w).length : Nat) : Int) = 1 by omega)
      have u1 : unpK (tupG [1, 2]) [some (wD w), none, none, none, none] (.tup [wD (begF w).1, .str (begF w).2]) M = .nx [some (wD w), some (wD (begF w).1), some (.str (begF w).2), none, none] M := unpK_ap rfl
      have u2 : unpK (tupG [3, 4]) [some (wD w), some (wD (begF w).1), some (.str (begF w).2), none, none] (.tup [.str (endF w).1, wD (endF w).2]) M = .nx [some (wD w), some (wD (begF w).1), some (.str (begF w).2), some (.str (endF w).1), some (wD (endF w).2)] M := unpK_ap rfl
      have f1 : lstK [D.str (begF w).2] M = .ok (wD [(begF w).2]) M := lstK_ap (by simp)
      have f2 : lstK [D.str (endF w).1] M = .ok (wD [(endF w).1]) M := lstK_ap (by simp)
      rw [List.singleton_append] at a2
      generalize (((dedT w).length : Nat) : Int) = nw at *
      generalize wD (mergeW (bandN n (begF w).1 ++ [(begF w).2]) ((endF w).1 :: bandN n (endF w).2)) = z1 at *
      generalize wD ((endF w).1 :: bandN n (endF w).2) = z2 at *
      generalize wD (bandN n (begF w).1 ++ [(begF w).2]) = z3 at *
      generalize wD (bandN n (begF w).1) = z4 at *
      generalize wD (bandN n (endF w).2) = z5 at *
      generalize wD (begF w).1 = z6 at *
      generalize wD (endF w).2 = z7 at *
      generalize wD [(begF w).2] = z8 at *
      generalize wD [(endF w).1] = z9 at *
      generalize wD w = z0 at *
      simp [m_band_form, callK_ap, df, h1', b, e, u1, u2, r1, r2, f1, f2, a1, a2, mg]
theorem bform_run {M : MS} {w : Wd} (hw : w ≠ []) (hc : (dedT w).length ≤ 10) (hl : w.length < 1900) (ok : DL.okW w) : F_band_form [wD w] M = .ok (wD (bandW w)) M := band_run (dedT w).length 30 hw (Nat.le_refl _) (by omega) hc hl ok
theorem mem_sortT {xs : Wd} {x : Lr} : x ∈ sortT xs ↔ x ∈ xs := (List.mergeSort_perm xs _).mem_iff
theorem len_sortT {xs : Wd} : (sortT xs).length = xs.length := (List.mergeSort_perm xs _).length_eq
theorem T.leaf_of {t : T} {c : Nat} (h : t.txt = [c]) (hc : c ≠ 40) : t = .leaf [c] := by
  cases t with
  | leaf w => exact congrArg T.leaf h
  | node l r =>
    simp only [T.txt, List.cons.injEq] at h
    exact absurd h.1.symm hc
theorem nfn_comm {x : Lr} {a b : T} (ha : a.ok) (hb : b.ok) (hc : 67 ∈ x) : nfn x a b = nfn x b a := by
  have e := T.txt_eq ha hb
  have e' := T.txt_eq hb ha
  unfold nfn
  rw [Bool.or_comm]
  by_cases h1 : (decide (90 ∈ x) && (b.txt == [122] || a.txt == [122])) = true
  · rw [if_pos h1, if_pos h1]
  rw [if_neg h1, if_neg h1]
  by_cases h2 : (decide (85 ∈ x) && a.txt == [101]) = true
  · rw [if_pos h2]
    by_cases h3 : (decide (85 ∈ x) && b.txt == [101]) = true
    · rw [if_pos h3]
      simp only [Bool.and_eq_true, beq_iff_eq] at h2 h3
      exact e'.mp (h3.2.trans h2.2.symm)
    · rw [if_neg h3, if_pos h2]
  rw [if_neg h2]
  by_cases h3 : (decide (85 ∈ x) && b.txt == [101]) = true
  · rw [if_pos h3, if_pos h3]
  rw [if_neg h3, if_neg h3, if_neg h2]
  by_cases h4 : a.txt = b.txt
  · have := e.mp h4
    subst this
    rfl
  · have h5 : (decide (73 ∈ x) && a.txt == b.txt) = false := by simp [h4]
    have h6 : (decide (73 ∈ x) && b.txt == a.txt) = false := by simp; exact fun _ z => h4 z.symm
    rw [h5, h6]
    simp only [Bool.false_eq_true, if_false, hc, decide_true, Bool.true_and, decide_eq_true_eq]
    by_cases h7 : b.txt < a.txt
    · rw [if_pos h7, if_neg fun z => List.lt_irrefl _ (List.lt_trans h7 z)]
    · rw [if_neg h7]
      by_cases h8 : a.txt < b.txt
      · rw [if_pos h8]
      · exact absurd (List.le_antisymm (List.not_lt.mp h7) (List.not_lt.mp h8)) h4
theorem nfn_same {x : Lr} {a : T} : nfn x a a = a ∨ (nfn x a a = .node a a ∧ 73 ∉ x) := by
  unfold nfn
  by_cases h1 : (decide (90 ∈ x) && (a.txt == [122] || a.txt == [122])) = true
  · rw [if_pos h1]
    simp only [Bool.and_eq_true, Bool.or_self, beq_iff_eq] at h1
    exact .inl (T.leaf_of h1.2 (by decide)).symm
  rw [if_neg h1]
  by_cases h2 : (decide (85 ∈ x) && a.txt == [101]) = true
  · rw [if_pos h2]; exact .inl rfl
  rw [if_neg h2, if_neg h2]
  by_cases h3 : 73 ∈ x
  · rw [if_pos (by simp [h3])]; exact .inl rfl
  · rw [if_neg (by simp [h3])]
    right
    refine ⟨?_, h3⟩
    rw [if_neg (by simp [List.lt_irrefl])]
theorem nfn_z {x : Lr} {b : T} (h : 90 ∈ x) : nfn x (.leaf [122]) b = .leaf [122] ∧ nfn x b (.leaf [122]) = .leaf [122] := by
  constructor
  · unfold nfn; rw [if_pos (by simp [h, T.txt])]
  · unfold nfn; rw [if_pos (by simp [h, T.txt])]
theorem nfn_e {x : Lr} {b : T} (h : 85 ∈ x) : nfn x (.leaf [101]) b = b ∧ nfn x b (.leaf [101]) = b := by
  constructor
  · unfold nfn
    by_cases h1 : (decide (90 ∈ x) && ((T.leaf [101]).txt == [122] || b.txt == [122])) = true
    · rw [if_pos h1]
      have : b.txt = [122] := by simpa [T.txt] using (Bool.and_eq_true_iff.mp h1).2
      exact (T.leaf_of this (by decide)).symm
    · rw [if_neg h1, if_pos (by simp [h, T.txt])]
  · unfold nfn
    by_cases h1 : (decide (90 ∈ x) && (b.txt == [122] || (T.leaf [101]).txt == [122])) = true
    · rw [if_pos h1]
      have : b.txt = [122] := by simpa [T.txt] using (Bool.and_eq_true_iff.mp h1).2
      exact (T.leaf_of this (by decide)).symm
    · rw [if_neg h1]
      by_cases h2 : (decide (85 ∈ x) && b.txt == [101]) = true
      · rw [if_pos h2]
        have : b.txt = [101] := by simpa using (Bool.and_eq_true_iff.mp h2).2
        exact (T.leaf_of this (by decide)).symm
      · rw [if_neg h2, if_pos (by simp [h, T.txt])]
/-- without A -/
theorem nf_nf {s S : Lr} (hs : ∀ c, c ∈ s → c ∈ S) : ∀ t : T, t.ok → nf S (nf s t) = nf S t
  | .leaf w, _ => rfl
  | .node l r, h => by
    have h1 := nf_nf hs l h.1
    have h2 := nf_nf hs r h.2
    obtain ⟨k1, _⟩ := nf_ok s l h.1
    obtain ⟨k2, _⟩ := nf_ok s r h.2
    show nf S (nfn s (nf s l) (nf s r)) = nfn S (nf S l) (nf S r)
    rw [← h1, ← h2]
    generalize nf s l = L at *
    generalize nf s r = R at *
    obtain ⟨m1, _⟩ := nf_ok S L k1
    obtain ⟨m2, _⟩ := nf_ok S R k2
    by_cases c1 : (decide (90 ∈ s) && (L.txt == [122] || R.txt == [122])) = true
    · have : nfn s L R = .leaf [122] := by unfold nfn; rw [if_pos c1]
      rw [this]
      simp only [Bool.and_eq_true, decide_eq_true_eq, Bool.or_eq_true, beq_iff_eq] at c1
      rcases c1.2 with e | e
      · rw [T.leaf_of e (by decide)]; exact (nfn_z (hs _ c1.1)).1.symm
      · rw [T.leaf_of e (by decide)]; exact (nfn_z (hs _ c1.1)).2.symm
    by_cases c2 : (decide (85 ∈ s) && L.txt == [101]) = true
    · have : nfn s L R = R := by unfold nfn; rw [if_neg c1, if_pos c2]
      rw [this]
      simp only [Bool.and_eq_true, decide_eq_true_eq, beq_iff_eq] at c2
      rw [T.leaf_of c2.2 (by decide)]
      exact (nfn_e (hs _ c2.1)).1.symm
    by_cases c3 : (decide (85 ∈ s) && R.txt == [101]) = true
    · have : nfn s L R = L := by unfold nfn; rw [if_neg c1, if_neg c2, if_pos c3]
      rw [this]
      simp only [Bool.and_eq_true, decide_eq_true_eq, beq_iff_eq] at c3
      rw [T.leaf_of c3.2 (by decide)]
      exact (nfn_e (hs _ c3.1)).2.symm
    by_cases c4 : (decide (73 ∈ s) && L.txt == R.txt) = true
    · have : nfn s L R = L := by unfold nfn; rw [if_neg c1, if_neg c2, if_neg c3, if_pos c4]
      rw [this]
      simp only [Bool.and_eq_true, decide_eq_true_eq, beq_iff_eq] at c4
      rw [(T.txt_eq k1 k2).mp c4.2]
      rcases nfn_same (x := S) (a := nf S R) with q | ⟨_, q⟩
      · exact q.symm
      · exact absurd (hs _ c4.1) q
    by_cases c5 : (decide (67 ∈ s) && decide (R.txt < L.txt)) = true
    · have : nfn s L R = .node R L := by unfold nfn; rw [if_neg c1, if_neg c2, if_neg c3, if_neg c4, if_pos c5]
      rw [this]
      simp only [Bool.and_eq_true, decide_eq_true_eq] at c5
      exact nfn_comm m2 m1 (hs _ c5.1)
    · have : nfn s L R = .node L R := by unfold nfn; rw [if_neg c1, if_neg c2, if_neg c3, if_neg c4, if_neg c5]
      rw [this]
      rfl
def noE (w : Wd) : Wd := w.filter fun v => decide (v ≠ [101])
def fe (x : Lr) (w : Wd) : Wd := if 85 ∈ x then noE w else w
def core (x : Lr) (w : Wd) : Wd := if 67 ∈ x ∧ 73 ∈ x then sortT (dedT w) else if 67 ∈ x then sortT w else if 73 ∈ x then bandW w else w
/-- the words of the plain form under a set with A -/
def wf (x : Lr) (w : Wd) : Wd := if 90 ∈ x ∧ [122] ∈ w then [[122]] else if fe x w = [] then [[101]] else core x (fe x w)
theorem fe_app (x : Lr) (u v : Wd) : fe x (u ++ v) = fe x u ++ fe x v := by
  unfold fe noE
  split
  · exact List.filter_append _ _
  · rfl
def Q (x : Lr) (u v : Wd) : Prop := if 67 ∈ x ∧ 73 ∈ x then SameC u v else if 67 ∈ x then u.Perm v else if 73 ∈ x then Al u v else u = v
theorem Q.refl (x : Lr) (u : Wd) : Q x u u := by
  unfold Q
  repeat' split
  · exact SameC.refl _
  · exact List.Perm.refl _
  · exact Al.refl _
  · rfl
theorem Q.trans {x : Lr} {u v w : Wd} (h : Q x u v) (k : Q x v w) : Q x u w := by
  unfold Q at *
  repeat' split
  all_goals simp_all only [if_true, if_false]
  all_goals first | exact SameC.trans h k | exact List.Perm.trans h k | exact Al.trans h k | skip
theorem Q.app {x : Lr} {u v u' v' : Wd} (h : Q x u v) (k : Q x u' v') : Q x (u ++ u') (v ++ v') := by
  unfold Q at *
  split
  · rename_i c
    rw [if_pos c] at h k
    intro y
    rw [List.mem_append, List.mem_append, h y, k y]
  · rename_i c
    rw [if_neg c] at h k
    split
    · rename_i c2
      rw [if_pos c2] at h k
      exact h.append k
    · rename_i c2
      rw [if_neg c2] at h k
      split
      · rename_i c3
        rw [if_pos c3] at h k
        exact (h.behind u').trans (Al.ahead k v)
      · rename_i c3
        rw [if_neg c3] at h k
        rw [h, k]
theorem Q.twice {x : Lr} (hi : 73 ∈ x) (u : Wd) : Q x u (u ++ u) := by
  unfold Q
  split
  · intro y; simp
  · rename_i c
    have c2 : ¬ 67 ∈ x := fun z => c ⟨z, hi⟩
    rw [if_neg c2]
    exact (Al.twice u).symm
theorem Q.swap {x : Lr} (hc : 67 ∈ x) (u v : Wd) : Q x (u ++ v) (v ++ u) := by
  unfold Q
  split
  · intro y; simp [or_comm]
  · first | exact List.perm_append_comm | (rw [if_pos hc]; exact List.perm_append_comm)
theorem Q.nil {x : Lr} {u v : Wd} (h : Q x u v) : u = [] ↔ v = [] := by
  unfold Q at h
  split at h
  · exact ⟨fun e => h.nil e, fun e => h.symm.nil e⟩
  · split at h
    · exact ⟨fun e => by subst e; exact h.nil_eq.symm, fun e => by subst e; exact h.eq_nil⟩
    · split at h
      · exact ⟨fun e => h.c.nil e, fun e => h.c.symm.nil e⟩
      · rw [h]
theorem Q.core {x : Lr} {u v : Wd} (hu : u ≠ []) (h : Q x u v) : core x u = core x v := by
  unfold Q at h
  unfold Lk55.core
  split at h
  · rename_i c
    rw [if_pos c, if_pos c]
    refine sortT_eq (((List.mergeSort_perm _ _).trans ?_)) (List.pairwise_mergeSort (le := leS) leS_trans leS_total _)
    exact (List.perm_ext_iff_of_nodup (dedT_nodup u) (dedT_nodup v)).mpr fun y => by simp [h y]
  · rename_i c
    rw [if_neg c, if_neg c]
    split at h
    · rename_i c2
      rw [if_pos c2, if_pos c2]
      exact sortT_eq ((List.mergeSort_perm _ _).trans h) (List.pairwise_mergeSort (le := leS) leS_trans leS_total _)
    · rename_i c2
      rw [if_neg c2, if_neg c2]
      split at h
      · rename_i c3
        rw [if_pos c3, if_pos c3]
        exact band_al hu h
      · rw [h]
/-- words alike under a set -/
def Rw2 (x : Lr) (u v : Wd) : Prop := (90 ∈ x ∧ [122] ∈ u ∧ [122] ∈ v) ∨ ((90 ∈ x → ([122] ∈ u ↔ [122] ∈ v)) ∧ Q x (fe x u) (fe x v))
theorem Rw2.refl (x : Lr) (u : Wd) : Rw2 x u u := .inr ⟨fun _ => Iff.rfl, Q.refl x _⟩
theorem Rw2.trans {x : Lr} {u v w : Wd} (h : Rw2 x u v) (k : Rw2 x v w) : Rw2 x u w := by
  rcases h with ⟨a, b, c⟩ | ⟨a, b⟩
  · rcases k with ⟨_, _, f⟩ | ⟨d, e⟩
    · exact .inl ⟨a, b, f⟩
    · exact .inl ⟨a, b, (d a).mp c⟩
  · rcases k with ⟨d, e, f⟩ | ⟨d, e⟩
    · exact .inl ⟨d, (a d).mpr e, f⟩
    · exact .inr ⟨fun z => (a z).trans (d z), b.trans e⟩
theorem Rw2.app {x : Lr} {u v u' v' : Wd} (h : Rw2 x u v) (k : Rw2 x u' v') : Rw2 x (u ++ u') (v ++ v') := by
  rcases h with ⟨a, b, c⟩ | ⟨a, b⟩
  · exact .inl ⟨a, List.mem_append_left _ b, List.mem_append_left _ c⟩
  · rcases k with ⟨d, e, f⟩ | ⟨d, e⟩
    · exact .inl ⟨d, List.mem_append_right _ e, List.mem_append_right _ f⟩
    · refine .inr ⟨fun z => by rw [List.mem_append, List.mem_append, a z, d z], ?_⟩
      rw [fe_app, fe_app]
      exact b.app e
theorem Rw2.wf {x : Lr} {u v : Wd} (h : Rw2 x u v) : wf x u = wf x v := by
  unfold Lk55.wf
  rcases h with ⟨a, b, c⟩ | ⟨a, b⟩
  · rw [if_pos ⟨a, b⟩, if_pos ⟨a, c⟩]
  · by_cases hz : 90 ∈ x ∧ [122] ∈ u
    · rw [if_pos hz, if_pos ⟨hz.1, (a hz.1).mp hz.2⟩]
    · rw [if_neg hz, if_neg (fun z : 90 ∈ x ∧ [122] ∈ v => hz ⟨z.1, (a z.1).mpr z.2⟩)]
      by_cases hn : fe x u = []
      · rw [if_pos hn, if_pos (b.nil.mp hn)]
      · rw [if_neg hn, if_neg fun z => hn (b.nil.mpr z), b.core hn]
theorem fe_e {x : Lr} (h : 85 ∈ x) : fe x [[101]] = [] := by unfold fe noE; rw [if_pos h]; rfl
/-- with A -/
theorem nf_words {s S : Lr} (hs : ∀ c, c ∈ s → c ∈ S) : ∀ t : T, t.ok → Rw2 S (nf s t).ws t.ws
  | .leaf w, _ => Rw2.refl _ _
  | .node l r, h => by
    have h1 := nf_words hs l h.1
    have h2 := nf_words hs r h.2
    obtain ⟨k1, _⟩ := nf_ok s l h.1
    obtain ⟨k2, _⟩ := nf_ok s r h.2
    show Rw2 S (nfn s (nf s l) (nf s r)).ws (l.ws ++ r.ws)
    refine Rw2.trans ?_ (h1.app h2)
    generalize nf s l = L at *
    generalize nf s r = R at *
    by_cases c1 : (decide (90 ∈ s) && (L.txt == [122] || R.txt == [122])) = true
    · have : nfn s L R = .leaf [122] := by unfold nfn; rw [if_pos c1]
      rw [this]
      simp only [Bool.and_eq_true, decide_eq_true_eq, Bool.or_eq_true, beq_iff_eq] at c1
      refine .inl ⟨hs _ c1.1, by simp [T.ws], ?_⟩
      rcases c1.2 with e | e
      · rw [T.leaf_of e (by decide)]; simp [T.ws]
      · rw [T.leaf_of e (by decide)]; simp [T.ws]
    by_cases c2 : (decide (85 ∈ s) && L.txt == [101]) = true
    · have : nfn s L R = R := by unfold nfn; rw [if_neg c1, if_pos c2]
      rw [this]
      simp only [Bool.and_eq_true, decide_eq_true_eq, beq_iff_eq] at c2
      rw [T.leaf_of c2.2 (by decide)]
      refine .inr ⟨fun _ => by simp [T.ws], ?_⟩
      rw [fe_app, show (T.leaf [101]).ws = [[101]] from rfl, fe_e (hs _ c2.1), List.nil_append]
      exact Q.refl _ _
    by_cases c3 : (decide (85 ∈ s) && R.txt == [101]) = true
    · have : nfn s L R = L := by unfold nfn; rw [if_neg c1, if_neg c2, if_pos c3]
      rw [this]
      simp only [Bool.and_eq_true, decide_eq_true_eq, beq_iff_eq] at c3
      rw [T.leaf_of c3.2 (by decide)]
      refine .inr ⟨fun _ => by simp [T.ws], ?_⟩
      rw [fe_app, show (T.leaf [101]).ws = [[101]] from rfl, fe_e (hs _ c3.1), List.append_nil]
      exact Q.refl _ _
    by_cases c4 : (decide (73 ∈ s) && L.txt == R.txt) = true
    · have : nfn s L R = L := by unfold nfn; rw [if_neg c1, if_neg c2, if_neg c3, if_pos c4]
      rw [this]
      simp only [Bool.and_eq_true, decide_eq_true_eq, beq_iff_eq] at c4
      rw [(T.txt_eq k1 k2).mp c4.2]
      refine .inr ⟨fun _ => by simp, ?_⟩
      rw [fe_app]
      exact Q.twice (hs _ c4.1) _
    by_cases c5 : (decide (67 ∈ s) && decide (R.txt < L.txt)) = true
    · have : nfn s L R = .node R L := by unfold nfn; rw [if_neg c1, if_neg c2, if_neg c3, if_neg c4, if_pos c5]
      rw [this]
      simp only [Bool.and_eq_true, decide_eq_true_eq] at c5
      refine .inr ⟨fun _ => by show _ ∈ R.ws ++ L.ws ↔ _; simp [or_comm], ?_⟩
      show Q S (fe S (R.ws ++ L.ws)) _
      rw [fe_app, fe_app]
      exact Q.swap (hs _ c5.1) _ _
    · have : nfn s L R = .node L R := by unfold nfn; rw [if_neg c1, if_neg c2, if_neg c3, if_neg c4, if_neg c5]
      rw [this]
      exact Rw2.refl _ _
/-- the plain form of a way under any set -/
def pln (x : Lr) (t : T) : Lr := if 65 ∈ x then TL.joinL [32] (wf x t.ws) else tf x t
theorem pln_nf {s S : Lr} (hs : ∀ c, c ∈ s → c ∈ S) {t : T} (h : t.ok) : pln S (nf s t) = pln S t := by
  unfold pln
  split
  · rw [(nf_words hs t h).wf]
  · rw [← nf_txt, ← nf_txt, nf_nf hs t h]
/-- a comprehension with one test over a typed list that changes nothing -/
theorem lc_filt {β : Type} {g : β → D} {f : β → D} {p : β → Bool} {i : Nat} {w : SD} {tt : MB} {te : ME} {M : MS} : ∀ (ys : List β) (acc : List D), acc.length + ys.length ≤ 1000000 → (∀ y, y ∈ ys → tt (w.set i (some (g y))) M = .ok (p y) M ∧ te (w.set i (some (g y))) M = .ok (f y) M) →
    lcGo (fun _ => True) (nameG i) tt te w (ys.map g) acc M = .ok (acc ++ (ys.filter p).map f) M
  | [], acc, _, _ => by simp [lcGo]
  | y :: ys, acc, hl, h => by
    obtain ⟨h1, h2⟩ := h y List.mem_cons_self
    rw [List.map_cons]
    unfold lcGo
    rw [if_pos trivial, nameG_ap]
    dsimp only
    rw [h1, Res.ne_ok, Res.bind_ok]
    cases hp : p y with
    | false =>
      rw [if_neg Bool.false_ne_true, lc_filt ys acc (by simp at hl ⊢; omega) fun z hz => h z (List.mem_cons_of_mem _ hz), List.filter_cons, if_neg (by simp [hp])]
    | true =>
      rw [if_pos rfl, h2, Res.ne_ok, Res.bind_ok, if_pos (by simp at hl; omega), lc_filt ys (acc ++ [f y]) (by simp at hl ⊢; omega) fun z hz => h z (List.mem_cons_of_mem _ hz), List.filter_cons, if_pos hp]
      simp
theorem okW_of {t : T} (h : t.ok) : DL.okW t.ws := fun v hv c hc => by have := (T.ok_ws t h v hv).2.2 c hc; omega
theorem noE_run {M : MS} {w : Wd} {i : Nat} {sd : SD} {tt : MB} (hl : w.length ≤ 1000) (ok : DL.okW w) (hi : i < sd.length) (ht : ∀ x : Lr, tt (sd.set i (some (.str x))) M = .ok (decide (x ≠ [101])) M) :
    lcGo (fun _ => True) (nameG i) tt (nameE i) sd (w.map D.str) [] M = .ok ((noE w).map D.str) M := by
  have e := lc_filt (g := D.str) (f := D.str) (p := fun v : Lr => decide (v ≠ [101])) (i := i) (w := sd) (tt := tt) (te := nameE i) (M := M) w [] (by simp; omega) (fun y hy => ⟨ht y, by
    unfold nameE
    rw [List.getElem?_set_self hi]⟩)
  rw [e, List.nil_append]
  rfl
theorem noE_sub (w : Wd) : ∀ x, x ∈ noE w → x ∈ w := fun x hx => (List.mem_filter.mp hx).1
theorem fe_sub (x : Lr) (w : Wd) : ∀ v, v ∈ fe x w → v ∈ w := fun v hv => by
  unfold fe at hv
  split at hv
  · exact noE_sub w v hv
  · exact hv
theorem fe_len (x : Lr) (w : Wd) : (fe x w).length ≤ w.length := by
  unfold fe noE
  split
  · exact List.length_filter_le _ _
  · exact Nat.le_refl _
theorem ded_len_le {w : Wd} {n : Nat} (h : w.length ≤ n) : (dedT w).length ≤ n := Nat.le_trans (dedT_len w) h
theorem sorted_w {M : MS} {w : Wd} (hl : w.length < 64) : sortedSF [wD w] M = .ok (wD (sortT w)) M := by
  unfold sortedSF
  rw [sts_wD]
  simp [hl]
theorem hasr {M : MS} {x : Lr} {sd : SD} {i c : Nat} {s : String} (hs : sL s = [c]) (h : nameE i sd M = .ok (.obj "Rules" ["letters"] [.str x]) M) : valB (binE (inO "Rules" F_RulesD_containsD false) (constE (.str (sL s))) (nameE i)) sd M = .ok (decide (c ∈ x)) M := by
  rw [hs]
  simp [h, has1]
theorem zin {M : MS} {w : Wd} {sd : SD} {i : Nat} (ok : DL.okW w) (h : nameE i sd M = .ok (wD w) M) : valB (binE (inD false) (constE (.str (sL "z"))) (nameE i)) sd M = .ok (decide ([122] ∈ w)) M := by
  have e := inD_strs (neg := false) (M := M) (x := [122]) (xs := w) (fun c hc => by simp at hc; omega) ok
  have e : inD false (.str [122]) (wD w) M = .ok (.bl (decide ([122] ∈ w) != false)) M := e
  rw [sLz]
  generalize wD w = wd at *
  simp [h, e]
theorem ifpass {t : MB} {s1 s2 : MST} {sd : SD} {M : MS} (h : t sd M = .ok false M) : ifS t s1 s2 sd M = s2 sd M := by rw [ifS_ap, h]; rfl
theorem iftake {t : MB} {s1 s2 : MST} {sd : SD} {M : MS} (h : t sd M = .ok true M) : ifS t s1 s2 sd M = s1 sd M := by rw [ifS_ap, h]; rfl
theorem andB_r {ta tb : MB} {sd : SD} {M : MS} {p q : Prop} [Decidable p] [Decidable q] (h1 : ta sd M = .ok (decide p) M) (h2 : tb sd M = .ok (decide q) M) : andB ta tb sd M = .ok (decide (p ∧ q)) M := by
  rw [andB_ok h1 h2]
  congr 1
  rw [Bool.eq_iff_iff]
  simp
theorem ne_e {M : MS} {x : Lr} {sd : SD} (hn : nameE 2 sd M = .ok (.str x) M) : valB (binE (eqD true) (nameE 2) (constE (.str (sL "e")))) sd M = .ok (decide (x ≠ [101])) M := by
  rw [sLe]
  simp [hn]
  rw [Bool.eq_iff_iff]
  simp
theorem sum_le {w : Wd} {k : Nat} (h : ∀ v, v ∈ w → v.length ≤ k) : (w.map List.length).sum ≤ k * w.length := by
  induction w with
  | nil => simp
  | cons v w ih =>
    have h1 := h v List.mem_cons_self
    have h2 := ih fun u hu => h u (List.mem_cons_of_mem _ hu)
    simp only [List.map_cons, List.sum_cons, List.length_cons]
    rw [Nat.mul_succ]
    omega
theorem core_mem {x : Lr} {u : Wd} (hu : u ≠ []) : ∀ v, v ∈ core x u → v ∈ u := fun v hv => by
  unfold core at hv
  split at hv
  · rw [mem_sortT, mem_dedT] at hv; exact hv
  · split at hv
    · exact mem_sortT.mp hv
    · split at hv
      · exact ((al_band hu).c v).mpr hv
      · exact hv
theorem core_len {x : Lr} {u : Wd} (hl : u.length ≤ 10) : (core x u).length ≤ 3000 := by
  unfold core
  split
  · rw [len_sortT]; have := dedT_len u; omega
  · split
    · rw [len_sortT]; omega
    · split
      · have := bandN_len (dedT u).length u
        have h2 : 2 ^ ((dedT u).length + 1) ≤ 2 ^ 11 := Nat.pow_le_pow_right (by decide) (by have := dedT_len u; omega)
        unfold bandW
        omega
      · omega
theorem core_size {x : Lr} {u : Wd} (hu : u ≠ []) (hl : u.length ≤ 10) (h6 : ∀ v, v ∈ u → v.length ≤ 6) : ((core x u).map List.length).sum + (core x u).length * ([32] : Lr).length ≤ 1000000 := by
  have h1 := sum_le (w := core x u) (k := 6) fun v hv => h6 v (core_mem hu v hv)
  have h2 := core_len (x := x) hl
  simp only [List.length_cons, List.length_nil]
  omega
theorem wf_size {x : Lr} {u : Wd} (hu : u ≠ []) (hl : u.length ≤ 10) (h6 : ∀ v, v ∈ u → v.length ≤ 6) : ((wf x u).map List.length).sum + (wf x u).length * ([32] : Lr).length ≤ 1000000 := by
  unfold wf
  split
  · decide
  · split
    · decide
    · rename_i he
      exact core_size he (Nat.le_trans (fe_len x u) hl) fun v hv => h6 v (fe_sub x u v hv)
theorem wform_run {M : MS} {x : Lr} {w : Wd} (hw : w ≠ []) (hl : w.length ≤ 10) (ok : DL.okW w) : F_word_form [wD w, .obj "Rules" ["letters"] [.str x]] M = .ok (wD (wf x w)) M := by
  unfold F_word_form
  rw [runD_ap, show startD 3 [wD w, .obj "Rules" ["letters"] [.str x]] = [some (wD w), some (.obj "Rules" ["letters"] [.str x]), none] from rfl]
  have n1 : ∀ u : Wd, nameE 1 [some (wD u), some (.obj "Rules" ["letters"] [.str x]), none] M = .ok (.obj "Rules" ["letters"] [.str x]) M := fun u => by simp
  have n0 : ∀ u : Wd, nameE 0 [some (wD u), some (.obj "Rules" ["letters"] [.str x]), none] M = .ok (wD u) M := fun u => by simp
  have t1 := andB_r (hasr sLZ1 (n1 w)) (zin ok (n0 w))
  unfold m_word_form
  rw [seqS_ap]
  by_cases hz : 90 ∈ x ∧ [122] ∈ w
  · rw [decide_eq_true hz] at t1
    have z : wf x w = [[122]] := by unfold wf; rw [if_pos hz]
    rw [iftake t1, z]
    show _ = Res.ok (D.lst [.str [122]]) M
    generalize wD w = wd at *
    simp [sLz, lstK_ap]
  rw [decide_eq_false hz] at t1
  rw [ifpass t1, passS_ap, SRes.seq_nx, seqS_ap]
  -- the tail, for a word that is not empty
  have tail : ∀ (u : Wd) (o : Option D), u ≠ [] → u.length ≤ 10 → DL.okW u → ((seqS (ifS (andB (valB (binE (inO "Rules" F_RulesD_containsD false) (constE (.str (sL "C"))) (nameE 1))) (valB (binE (inO "Rules" F_RulesD_containsD false) (constE (.str (sL "I"))) (nameE 1)))) (retS (sortZE (setR (nameE 0)))) passS) (seqS (ifS (valB (binE (inO "Rules" F_RulesD_containsD false) (constE (.str (sL "C"))) (nameE 1))) (retS (appE sortedSF (consA (nameE 0) nilA))) passS) (seqS (ifS (valB (binE (inO "Rules" F_RulesD_containsD false) (constE (.str (sL "I"))) (nameE 1))) (retS (callE 1 F_band_form (· ++ []) (consA (nameE 0) nilA))) passS) (retS (nameE 0)))))) [some (wD u), some (.obj "Rules" ["letters"] [.str x]), o] M = .ret (wD (core x u)) M := fun u o hu hul uok => by
    have n1 : nameE 1 [some (wD u), some (.obj "Rules" ["letters"] [.str x]), o] M = .ok (.obj "Rules" ["letters"] [.str x]) M := by simp
    have e0 := setR_w (m := nameE 0) (sd := [some (wD u), some (.obj "Rules" ["letters"] [.str x]), o]) (M := M) (M1 := M) (w := u) (by simp) (by omega)
    have t2 := andB_r (hasr sLC1 n1) (hasr sLI1 n1)
    have t3 := hasr sLC1 n1
    have t4 := hasr sLI1 n1
    have so := sorted_w (M := M) (w := u) (by omega)
    have bf := bform_run (M := M) hu (ded_len_le hul) (by omega) uok
    rw [seqS_ap]
    unfold core
    by_cases c1 : 67 ∈ x ∧ 73 ∈ x
    · rw [decide_eq_true c1] at t2
      rw [iftake t2, if_pos c1, retS_ap, sortZE_ap, e0]
      rfl
    rw [decide_eq_false c1] at t2
    rw [ifpass t2, passS_ap, SRes.seq_nx, if_neg c1, seqS_ap]
    by_cases c2 : 67 ∈ x
    · rw [decide_eq_true c2] at t3
      rw [iftake t3, if_pos c2]
      generalize wD (sortT u) = z1 at *
      generalize wD u = z2 at *
      simp [so]
    rw [decide_eq_false c2] at t3
    rw [ifpass t3, passS_ap, SRes.seq_nx, if_neg c2, seqS_ap]
    by_cases c3 : 73 ∈ x
    · rw [decide_eq_true c3] at t4
      rw [iftake t4, if_pos c3]
      generalize wD (bandW u) = z1 at *
      generalize wD u = z2 at *
      simp [callK_ap, bf]
    rw [decide_eq_false c3] at t4
    rw [ifpass t4, passS_ap, SRes.seq_nx, if_neg c3]
    simp
  have tu := hasr sLU1 (n1 w)
  by_cases hu : 85 ∈ x
  · rw [decide_eq_true hu] at tu
    rw [iftake tu, seqS_ap]
    have fw : fe x w = noE w := by unfold fe; rw [if_pos hu]
    have e1 := noE_run (M := M) (w := w) (i := 2) (sd := [some (wD w), some (.obj "Rules" ["letters"] [.str x]), none]) (tt := t_word_form_1) (by omega) ok (by show 2 < 3; decide) (fun v => ne_e (by simp))
    have s1 : setS 0 (lcE (anyI (nameE 0)) (nameG 2) t_word_form_1 (nameE 2) [2]) [some (wD w), some (.obj "Rules" ["letters"] [.str x]), none] M = .nx [some (wD (noE w)), some (.obj "Rules" ["letters"] [.str x]), none] M := by
      have it : itK (wD w) M = .ok ⟨w.map D.str, fun _ => True⟩ M := rfl
      show _ = SRes.nx [some (D.lst ((noE w).map D.str)), _, _] M
      generalize (noE w).map D.str = z1 at *
      generalize wD w = z2 at *
      simp [it, wipeD, e1]
    rw [s1, SRes.seq_nx]
    have q0 := eqD_w (neg := false) (M := M) (u := noE w) (w := []) (fun v hv => ok v (noE_sub w v hv)) (fun v hv => by cases hv)
    have q0 : eqD false (wD (noE w)) (.lst []) M = .ok (.bl (decide (noE w = []) != false)) M := q0
    by_cases he : noE w = []
    · have z : wf x w = [[101]] := by unfold wf; rw [if_neg hz, fw, if_pos he]
      rw [z, decide_eq_true he] at *
      show _ = Res.ok (D.lst [.str [101]]) M
      generalize wD (noE w) = z2 at *
      simp [sLe, lstK_ap, q0]
    · have z : wf x w = core x (noE w) := by unfold wf; rw [if_neg hz, fw, if_neg he]
      rw [z]
      rw [decide_eq_false he] at q0
      have s2 : ifS (valB (binE (eqD false) (nameE 0) (lstE nilA))) (retS (lstE (consA (constE (.str (sL "e"))) nilA))) passS [some (wD (noE w)), some (.obj "Rules" ["letters"] [.str x]), none] M = .nx [some (wD (noE w)), some (.obj "Rules" ["letters"] [.str x]), none] M := by
        generalize wD (noE w) = z2 at *
        simp [lstK_ap, q0]
      have := fe_len x w
      rw [fw] at this
      rw [s2, SRes.seq_nx, tail (noE w) none he (by omega) (fun v hv => ok v (noE_sub w v hv)), SRes.res_ret]
  · rw [decide_eq_false hu] at tu
    have fw : fe x w = w := by unfold fe; rw [if_neg hu]
    have z : wf x w = core x w := by unfold wf; rw [if_neg hz, fw, if_neg hw]
    rw [ifpass tu, passS_ap, SRes.seq_nx, z, tail w none hw hl ok, SRes.res_ret]
theorem plainW_run {M : MS} {x : Lr} {t : T} (hx : 65 ∈ x) (h : t.ok) (hl : t.ws.length ≤ 10) : F_plain [t.w, .obj "Rules" ["letters"] [.str x]] M = .ok (.str (pln x t)) M := by
  have hn : t.ws ≠ [] := fun e => by have := t.ws_pos; rw [e] at this; simp at this
  have e := wform_run (M := M) (x := x) hn hl (okW_of h)
  have f := leaves_W (M := M) (t := t)
  have l1 : listF [.tup (t.ws.map D.str)] M = .ok (wD t.ws) M := rfl
  have jn := joinF_lst (M := M) (x := [32]) (xs := wf x t.ws) (wf_size hn hl fun v hv => (T.ok_ws t h v hv).2.1)
  have jn : joinF (.str [32]) [wD (wf x t.ws)] M = .ok (.str (TL.joinL [32] (wf x t.ws))) M := jn
  have ty : tyvD M "str" (.str [32]) = true := rfl
  unfold pln
  rw [if_pos hx]
  unfold F_plain
  rw [runD_ap]
  generalize wD (wf x t.ws) = z1 at *
  generalize TL.joinL [32] (wf x t.ws) = z2 at *
  generalize wD t.ws = z3 at *
  generalize t.ws.map D.str = z4 at *
  generalize t.w = tw at *
  simp [m_plain, startD, sLA1, has1, hx, f, l1, callK_ap, e, sLs, bmK_ap ty, jn]
theorem plain_all {M : MS} {x : Lr} {t : T} (h : t.ok) (hl : t.ws.length ≤ 10) : F_plain [t.w, .obj "Rules" ["letters"] [.str x]] M = .ok (.str (pln x t)) M := by
  by_cases hx : 65 ∈ x
  · exact plainW_run hx h hl
  · have h1 := t.txt_len h
    have h2 := t.depth_lt
    have := plain_run (M := M) hx h (by omega) (by omega)
    rw [this]
    unfold pln
    rw [if_neg hx]
theorem alike_run {M : MS} {x : Lr} {t : T} {us : List T} (ht : t.ok) (hl : t.ws.length ≤ 10) (hn : us.length ≤ 100) (hu : ∀ u, u ∈ us → u.ok ∧ u.ws.length ≤ 10) :
    F_alike (t.w :: us.map T.w) [.obj "Rules" ["letters"] [.str x]] M = .ok (.bl (us.all fun u => pln x u == pln x t)) M := by
  have p0 := plain_all (M := M) (x := x) ht hl
  have e := lc_map (te := e_alike_1) (i := 4) (w := [some t.w, some (.obj "Rules" ["letters"] [.str x]), some (.tup (us.map T.w)), some (.str (pln x t)), none]) (M := M) (g := T.w) (f := fun u => D.bl (pln x u == pln x t)) (xs := us) (by omega) (fun u h => by
    have p := plain_all (M := M) (x := x) (hu u h).1 (hu u h).2
    generalize us.map T.w = ud at *
    generalize t.w = tw at *
    generalize u.w = uw at *
    simp [e_alike_1, callKK2_ap, p])
  have a := allF_map (M := M) (p := fun u => pln x u == pln x t) (xs := us)
  unfold F_alike gVK
  rw [if_pos (by simp; omega), show List.take 1 (t.w :: us.map T.w) ++ [D.obj "Rules" ["letters"] [.str x]] ++ [.tup (List.drop 1 (t.w :: us.map T.w))] = [t.w, .obj "Rules" ["letters"] [.str x], .tup (us.map T.w)] from rfl, runD_ap]
  generalize us.map (fun u => D.bl (pln x u == pln x t)) = L at *
  generalize us.map T.w = ud at *
  generalize t.w = tw at *
  simp [m_alike, startD, callKK2_ap, p0, wipeD, e, a]
theorem wf_mem {x : Lr} {u : Wd} (hu : u ≠ []) : ∀ v, v ∈ wf x u → v ∈ u ∨ v = [122] ∨ v = [101] := fun v hv => by
  unfold wf at hv
  split at hv
  · exact .inr (.inl (List.mem_singleton.mp hv))
  · split at hv
    · exact .inr (.inr (List.mem_singleton.mp hv))
    · rename_i he
      exact .inl (fe_sub x u v (core_mem he v hv))
theorem mem_noE {w : Wd} {l : Lr} : l ∈ noE w ↔ l ∈ w ∧ l ≠ [101] := by simp [noE, List.mem_filter]
theorem fm_app (f : Lr → Wd) (u v : Wd) : (u ++ v).flatMap f = u.flatMap f ++ v.flatMap f := List.flatMap_append ..
theorem fm_same {f : Lr → Wd} {u v : Wd} (h : SameC u v) : SameC (u.flatMap f) (v.flatMap f) := fun l => by
  simp only [List.mem_flatMap]
  exact ⟨fun ⟨a, ha, hl⟩ => ⟨a, (h a).mp ha, hl⟩, fun ⟨a, ha, hl⟩ => ⟨a, (h a).mpr ha, hl⟩⟩
theorem fm_parts (f : Lr → Wd) {w : Wd} (hw : w ≠ []) : Al (w.flatMap f) ((bP w ++ [(begF w).2]).flatMap f ++ ((endF w).1 :: eS w).flatMap f) := by
  obtain ⟨⟨r1, e1⟩, _, m1⟩ := beg_ex hw
  obtain ⟨⟨r2, e2⟩, _, m2⟩ := end_ex hw
  have f1 : w = (bP w ++ [(begF w).2]) ++ r1 := by
    rw [List.append_assoc]; exact e1
  have mem1 : SameC w (bP w ++ [(begF w).2]) := fun l => by
    constructor
    · intro h
      rcases m1 l h with z | z
      · exact List.mem_append_left _ z
      · exact List.mem_append_right _ (List.mem_singleton.mpr z)
    · intro h
      rw [f1]; exact List.mem_append_left _ h
  have mem2 : SameC w ((endF w).1 :: eS w) := fun l => by
    constructor
    · intro h
      rcases m2 l h with z | z
      · exact List.mem_cons_of_mem _ z
      · rw [z]; exact List.mem_cons_self
    · intro h
      rw [e2]; exact List.mem_append_right _ h
  have tw := (Al.twice (w.flatMap f)).symm
  have eq : w.flatMap f ++ w.flatMap f = (bP w ++ [(begF w).2]).flatMap f ++ (r1 ++ r2).flatMap f ++ ((endF w).1 :: eS w).flatMap f := by
    rw [← fm_app, ← fm_app, ← fm_app]
    congr 1
    conv => lhs; lhs; rw [f1]
    conv => lhs; rhs; rw [e2]
    simp
  rw [eq] at tw
  refine tw.trans (Al.between (fm_same (mem1.symm.trans mem2)) ?_).symm
  intro l hl
  obtain ⟨a, ha, hal⟩ := List.mem_flatMap.mp hl
  refine List.mem_flatMap.mpr ⟨a, (mem1 a).mp ?_, hal⟩
  rcases List.mem_append.mp ha with h | h
  · rw [f1]; exact List.mem_append_right _ h
  · rw [e2]; exact List.mem_append_left _ h
theorem Al.hom (f : Lr → Wd) : ∀ (n : Nat) {u v : Wd}, (dedT u).length ≤ n → Al u v → Al (u.flatMap f) (v.flatMap f)
  | n, u, v, hl, h => by
    by_cases hu : u = []
    · subst hu
      have : v = [] := h.c.nil rfl
      subst this
      exact Al.refl _
    have hv : v ≠ [] := fun e => hu (h.c.symm.nil e)
    obtain ⟨ea, eb⟩ := h.lost hu
    have p1 := fm_parts f hu
    have p2 := fm_parts f hv
    match n, hl with
    | 0, hl => have := cnt_pos hu; omega
    | n + 1, hl =>
      have ih1 : Al ((bP u).flatMap f) ((bP v).flatMap f) := by
        refine Al.hom f n ?_ (h.mv true)
        have b := beg_ex hu
        have := cnt_lt (s := bP u) (w := u) b.2.1 b.mem.1 b.mem.2
        omega
      have ih2 : Al ((eS u).flatMap f) ((eS v).flatMap f) := by
        refine Al.hom f n ?_ (h.mv false)
        have b := end_ex hu
        have := cnt_lt (s := eS u) (w := u) b.2.1 b.mem.1 b.mem.2
        omega
      rw [← ea, ← eb] at p2
      refine p1.trans (Al.trans ?_ p2.symm)
      have c2 : ∀ z : Wd, ((endF u).1 :: z).flatMap f = f (endF u).1 ++ z.flatMap f := fun z => List.flatMap_cons ..
      rw [fm_app, fm_app, c2, c2]
      exact Al.trans ((ih1.behind _).behind _) ((ih2.ahead _).ahead _)
theorem noE_fm (w : Wd) : noE w = w.flatMap fun l => if l = [101] then [] else [l] := by
  unfold noE
  induction w with
  | nil => rfl
  | cons l w ih =>
    rw [List.flatMap_cons, ← ih, List.filter_cons]
    by_cases h : l = [101]
    · simp [h]
    · simp [h]
theorem Al.noE {u v : Wd} (h : Al u v) : Al (Lk55.noE u) (Lk55.noE v) := by
  rw [noE_fm, noE_fm]
  exact Al.hom _ _ (Nat.le_refl _) h
theorem Q.fe {x : Lr} {s : Lr} (hs : ∀ c, c ∈ s → c ∈ x) {v : Wd} (hv : v ≠ []) : Q x (Lk55.fe x (Lk55.core s v)) (Lk55.fe x v) := by
  have al : Al (bandW v) v := (al_band hv).symm
  have memS : ∀ l, l ∈ sortT v ↔ l ∈ v := fun l => mem_sortT
  have memD : ∀ l, l ∈ sortT (dedT v) ↔ l ∈ v := fun l => by rw [mem_sortT, mem_dedT]
  have fm : ∀ (a b : Wd), (∀ l, l ∈ a ↔ l ∈ b) → ∀ l, l ∈ Lk55.fe x a ↔ l ∈ Lk55.fe x b := fun a b h l => by
    unfold Lk55.fe
    split
    · rw [mem_noE, mem_noE, h l]
    · exact h l
  unfold Lk55.core
  by_cases c1 : 67 ∈ s ∧ 73 ∈ s
  · rw [if_pos c1]
    unfold Q
    rw [if_pos ⟨hs _ c1.1, hs _ c1.2⟩]
    exact fm _ _ memD
  rw [if_neg c1]
  by_cases c2 : 67 ∈ s
  · rw [if_pos c2]
    unfold Q
    by_cases c3 : 67 ∈ x ∧ 73 ∈ x
    · rw [if_pos c3]; exact fm _ _ memS
    · rw [if_neg c3, if_pos (hs _ c2)]
      have p : (sortT v).Perm v := List.mergeSort_perm _ _
      unfold Lk55.fe
      split
      · exact p.filter _
      · exact p
  rw [if_neg c2]
  by_cases c3 : 73 ∈ s
  · rw [if_pos c3]
    have af : Al (Lk55.fe x (bandW v)) (Lk55.fe x v) := by
      unfold Lk55.fe
      split
      · exact Al.noE al
      · exact al
    unfold Q
    by_cases d1 : 67 ∈ x ∧ 73 ∈ x
    · rw [if_pos d1]; exact af.c
    · rw [if_neg d1, if_neg fun z => d1 ⟨z, hs _ c3⟩, if_pos (hs _ c3)]
      exact af
  · rw [if_neg c3]; exact Q.refl _ _
theorem core_has {s : Lr} {v : Wd} (hv : v ≠ []) (l : Lr) : l ∈ core s v ↔ l ∈ v := by
  unfold core
  split
  · rw [mem_sortT, mem_dedT]
  · split
    · exact mem_sortT
    · split
      · exact ((al_band hv).c l).symm
      · exact Iff.rfl
/-- a word is alike to its plain form under every larger set -/
theorem Rw2.wfs {s S : Lr} (hs : ∀ c, c ∈ s → c ∈ S) {u : Wd} (hu : u ≠ []) : Rw2 S (Lk55.wf s u) u := by
  unfold Lk55.wf
  by_cases hz : 90 ∈ s ∧ [122] ∈ u
  · rw [if_pos hz]; exact .inl ⟨hs _ hz.1, List.mem_singleton.mpr rfl, hz.2⟩
  rw [if_neg hz]
  have zf : ∀ x : Lr, [122] ∈ fe x u ↔ [122] ∈ u := fun x => by
    unfold fe
    split
    · rw [mem_noE]; simp
    · exact Iff.rfl
  by_cases he : fe s u = []
  · rw [if_pos he]
    have h85 : 85 ∈ s := Classical.byContradiction fun h => by unfold fe at he; rw [if_neg h] at he; exact hu he
    have nz : ¬ [122] ∈ u := fun h => by have := (zf s).mpr h; rw [he] at this; cases this
    refine .inr ⟨fun _ => by simp [nz], ?_⟩
    have e1 : fe S u = [] := by unfold fe at he ⊢; rw [if_pos h85] at he; rw [if_pos (hs _ h85)]; exact he
    rw [fe_e (hs _ h85), e1]
    exact Q.refl _ _
  rw [if_neg he]
  refine .inr ⟨fun _ => by rw [core_has he]; exact zf s, ?_⟩
  have e2 : fe S (fe s u) = fe S u := by
    by_cases h85 : 85 ∈ s
    · have h : fe s u = noE u := by unfold fe; rw [if_pos h85]
      rw [h]
      unfold fe
      rw [if_pos (hs _ h85), if_pos (hs _ h85)]
      unfold noE
      rw [List.filter_filter]
      simp
    · have h : fe s u = u := by unfold fe; rw [if_neg h85]
      rw [h]
  rw [← e2]
  exact Q.fe hs he
theorem cut32 : ∀ {x y r t : Lr}, 32 ∉ x → 32 ∉ y → x ++ 32 :: r = y ++ 32 :: t → x = y ∧ r = t
  | [], [], r, t, _, _, h => ⟨rfl, by simpa using h⟩
  | [], c :: y, r, t, _, hy, h => by
    simp at h
    exact absurd (by rw [h.1]; exact List.mem_cons_self) hy
  | c :: x, [], r, t, hx, _, h => by
    simp at h
    exact absurd (by rw [← h.1]; exact List.mem_cons_self) hx
  | c :: x, d :: y, r, t, hx, hy, h => by
    simp only [List.cons_append, List.cons.injEq] at h
    obtain ⟨e1, e2⟩ := cut32 (fun z => hx (List.mem_cons_of_mem _ z)) (fun z => hy (List.mem_cons_of_mem _ z)) h.2
    exact ⟨by rw [h.1, e1], e2⟩
theorem joinL_inj : ∀ {xs ys : Wd}, (∀ v, v ∈ xs → 32 ∉ v ∧ v ≠ []) → (∀ v, v ∈ ys → 32 ∉ v ∧ v ≠ []) → TL.joinL [32] xs = TL.joinL [32] ys → xs = ys
  | [], [], _, _, _ => rfl
  | [], [y], _, hy, h => by
    simp [TL.joinL] at h
    exact absurd (show y = [] by first | exact h | exact h.symm) (hy y (by simp)).2
  | [x], [], hx, _, h => by
    simp [TL.joinL] at h
    exact absurd (show x = [] by first | exact h | exact h.symm) (hx x (by simp)).2
  | [], y :: y2 :: ys, _, hy, h => by
    simp [TL.joinL] at h
  | x :: x2 :: xs, [], hx, _, h => by
    simp [TL.joinL] at h
  | [x], [y], _, _, h => by simpa [TL.joinL] using h
  | [x], y :: y2 :: ys, hx, _, h => by
    simp only [TL.joinL] at h
    exact absurd (by rw [h]; simp) (hx x (by simp)).1
  | x :: x2 :: xs, [y], _, hy, h => by
    simp only [TL.joinL] at h
    exact absurd (by rw [← h]; simp) (hy y (by simp)).1
  | x :: x2 :: xs, y :: y2 :: ys, hx, hy, h => by
    have h : x ++ 32 :: TL.joinL [32] (x2 :: xs) = y ++ 32 :: TL.joinL [32] (y2 :: ys) := by simpa [TL.joinL] using h
    obtain ⟨e1, e2⟩ := cut32 (hx x (by simp)).1 (hy y (by simp)).1 h
    rw [e1, joinL_inj (fun v hv => hx v (List.mem_cons_of_mem _ hv)) (fun v hv => hy v (List.mem_cons_of_mem _ hv)) e2]
theorem wf_words {x : Lr} {t : T} (h : t.ok) : ∀ v, v ∈ wf x t.ws → 32 ∉ v ∧ v ≠ [] := fun v hv => by
  have hn : t.ws ≠ [] := fun e => by have := t.ws_pos; rw [e] at this; simp at this
  rcases wf_mem hn v hv with h' | rfl | rfl
  · have := T.ok_ws t h v h'
    refine ⟨fun z => ?_, fun z => ?_⟩
    · have := this.2.2 32 z; omega
    · rw [z] at this; have := this.1; simp at this
  · simp
  · simp
theorem pln_mono {s S : Lr} (hs : ∀ c, c ∈ s → c ∈ S) {a b : T} (ha : a.ok) (hb : b.ok) (h : pln s a = pln s b) : pln S a = pln S b := by
  by_cases hA : 65 ∈ s
  · unfold pln at h ⊢
    rw [if_pos hA, if_pos hA] at h
    rw [if_pos (hs _ hA), if_pos (hs _ hA)]
    have e := joinL_inj (wf_words ha) (wf_words hb) h
    have na : a.ws ≠ [] := fun e => by have := a.ws_pos; rw [e] at this; simp at this
    have nb : b.ws ≠ [] := fun e => by have := b.ws_pos; rw [e] at this; simp at this
    rw [← (Rw2.wfs hs na).wf, ← (Rw2.wfs hs nb).wf, e]
  · have e : nf s a = nf s b := by
      unfold pln at h
      rw [if_neg hA, if_neg hA, ← nf_txt, ← nf_txt] at h
      exact (T.txt_eq (nf_ok s a ha).1 (nf_ok s b hb).1).mp h
    rw [← pln_nf hs ha, ← pln_nf hs hb, e]
theorem Q.symm {x : Lr} {u v : Wd} (h : Q x u v) : Q x v u := by
  unfold Q at *
  repeat' split
  all_goals simp_all only [if_true, if_false]
  all_goals first | exact SameC.symm h | exact List.Perm.symm h | exact Al.symm h | skip
theorem Rw2.symm {x : Lr} {u v : Wd} (h : Rw2 x u v) : Rw2 x v u := by
  rcases h with ⟨a, b, c⟩ | ⟨a, b⟩
  · exact .inl ⟨a, c, b⟩
  · exact .inr ⟨fun z => (a z).symm, b.symm⟩
theorem ws_ne (t : T) : t.ws ≠ [] := fun e => by have := t.ws_pos; rw [e] at this; simp at this
theorem pln_iffA {x : Lr} (hx : 65 ∈ x) {a b : T} (ha : a.ok) (hb : b.ok) : pln x a = pln x b ↔ Rw2 x a.ws b.ws := by
  constructor
  · intro h
    unfold pln at h
    rw [if_pos hx, if_pos hx] at h
    have e := joinL_inj (wf_words ha) (wf_words hb) h
    have h1 := Rw2.wfs (s := x) (S := x) (fun _ h => h) (ws_ne a)
    have h2 := Rw2.wfs (s := x) (S := x) (fun _ h => h) (ws_ne b)
    rw [e] at h1
    exact h1.symm.trans h2
  · intro h
    unfold pln
    rw [if_pos hx, if_pos hx, h.wf]
theorem pln_iffT {x : Lr} (hx : ¬ 65 ∈ x) {a b : T} (ha : a.ok) (hb : b.ok) : pln x a = pln x b ↔ nf x a = nf x b := by
  unfold pln
  rw [if_neg hx, if_neg hx, ← nf_txt, ← nf_txt]
  exact T.txt_eq (nf_ok x a ha).1 (nf_ok x b hb).1
abbrev rD (x : List Nat) : D := .obj "Rules" ["letters"] [.str x]
/-- the 32 sets in order -/
def subs : List (List Nat) := [[], [65], [67], [73], [85], [90], [65, 67], [65, 73], [65, 85], [65, 90], [67, 73], [67, 85], [67, 90], [73, 85], [73, 90], [85, 90], [65, 67, 73], [65, 67, 85], [65, 67, 90], [65, 73, 85], [65, 73, 90], [65, 85, 90], [67, 73, 85], [67, 73, 90], [67, 85, 90], [73, 85, 90], [65, 67, 73, 85], [65, 67, 73, 90], [65, 67, 85, 90], [65, 73, 85, 90], [67, 73, 85, 90], [65, 67, 73, 85, 90]]
/-- as they are made -/
def raws : List (List Nat) := [[], [65], [67], [65, 67], [73], [65, 73], [67, 73], [65, 67, 73], [85], [65, 85], [67, 85], [65, 67, 85], [73, 85], [65, 73, 85], [67, 73, 85], [65, 67, 73, 85], [90], [65, 90], [67, 90], [65, 67, 90], [73, 90], [65, 73, 90], [67, 73, 90], [65, 67, 73, 90], [85, 90], [65, 85, 90], [67, 85, 90], [65, 67, 85, 90], [73, 85, 90], [65, 73, 85, 90], [67, 73, 85, 90], [65, 67, 73, 85, 90]]
theorem sort_raws : sortLT raws = subs := sortLT_eq (by decide +kernel) (by decide +kernel)
theorem subs_len : subs.length = 32 := by decide +kernel
theorem subs_five : ∀ x, x ∈ subs → five x = x := by unfold five subs; rw [sL5]; decide +kernel
theorem subs_let {x : List Nat} (h : x ∈ subs) : Let5 x := by rw [← subs_five x h]; exact five_let x
theorem every_turn {M : MS} {a : Option D} {rows : List (List Nat)} {l : Nat} (h1 : rows.length ≤ 1000) (h2 : ∀ r, r ∈ rows → r.length ≤ 1000) :
    b_Rules_every_1 [a, some (.lst (rows.map D.str)), some (.str [l]), none] M = .nx [a, some (.lst ((rows ++ rows.map (· ++ [l])).map D.str)), some (.str [l]), none] M := by
  have e := lc_map (te := e_Rules_every_1) (i := 3) (w := [a, some (.lst (rows.map D.str)), some (.str [l]), none]) (M := M) (g := D.str) (f := fun r => D.str (r ++ [l])) (xs := rows) (by omega) fun r hr => by
    have := h2 r hr
    simp [e_Rules_every_1, addD_str (x := r) (y := [l]) (M := M) (by simp; omega)]
  have e2 : addD (.lst (rows.map D.str)) (.lst (rows.map fun r => D.str (r ++ [l]))) M = .ok (.lst ((rows ++ rows.map (· ++ [l])).map D.str)) M := by
    rw [addD_lst (by simp; omega)]
    simp
  simp [b_Rules_every_1, wipeD, e, e2]
theorem every_run {M : MS} (h : M[0]? = some (.tab 0 "Rules" "every")) {c : D} : F_Rules_every [c] M = .ok (.lst (subs.map rD)) M := by
  unfold F_Rules_every
  rw [runD_ap]
  have e1 : forGo (fun _ => True) (nameG 2) b_Rules_every_1 ((sL "ACIUZ").map fun c => D.str [c]) [some c, some (.lst ([[]].map D.str)), none, none] M = .nx [some c, some (.lst (raws.map D.str)), some (.str [90]), none] M := by
    rw [sL5]
    simp only [List.map_cons, List.map_nil, forGo_cons, List.set_cons_succ, List.set_cons_zero]
    rw [show [D.str []] = [[]].map D.str from rfl, every_turn (by decide +kernel) (by decide +kernel), SRes.loop_nx]
    simp only [forGo_cons, List.set_cons_succ, List.set_cons_zero]
    rw [every_turn (by decide +kernel) (by decide +kernel), SRes.loop_nx]
    simp only [forGo_cons, List.set_cons_succ, List.set_cons_zero]
    rw [every_turn (by decide +kernel) (by decide +kernel), SRes.loop_nx]
    simp only [forGo_cons, List.set_cons_succ, List.set_cons_zero]
    rw [every_turn (by decide +kernel) (by decide +kernel), SRes.loop_nx]
    simp only [forGo_cons, List.set_cons_succ, List.set_cons_zero]
    rw [every_turn (by decide +kernel) (by decide +kernel), SRes.loop_nx, forGo_nil]
    rfl
  have e2 := lc_map (te := e_Rules_every_2) (i := 3) (w := [some c, some (.lst (raws.map D.str)), some (.str [90]), none]) (M := M) (g := D.str) (f := fun r => rD r) (xs := subs) (by rw [subs_len]; omega) fun r hr => by
    have i := init_run (M := M) (subs_let hr)
    rw [subs_five r hr] at i
    simp [e_Rules_every_2, callK_ap, i]
  have e3 : (lst1 [.lst (raws.map D.str)] M).bind stsOf = some raws := by
    show stsOf (raws.map D.str) = some raws
    rfl
  have e4 : raws.length ≤ 100000 ∧ ∀ x, x ∈ raws → x.length < 1000000 := by decide +kernel
  have e1 : forGo (fun _ => True) (nameG 2) b_Rules_every_1 ((sL "ACIUZ").map fun c => D.str [c]) [some c, some (.lst [.str []]), none, none] M = .nx [some c, some (.lst (raws.map D.str)), some (.str [90]), none] M := e1
  have e5 : sortLenE 0 "Rules" "every" (nameE 1) [some c, some (.lst (raws.map D.str)), some (.str [90]), none] M = .ok (.lst (subs.map D.str)) M := by
    rw [sortLenE_ap]
    simp only [nameE_s, nameE_0, Res.bind_ok, e3]
    rw [if_pos ⟨isTab0 h, e4.1, e4.2⟩, sort_raws]
  simp [m_Rules_every, startD, lstK_ap, e1, e5, wipeD, e2]
theorem isi_RR {x : List Nat} {M : MS} : isiF csI (tblL tblI) [.obj "Rules" ["letters"] [.str x], .glo "Rules"] M = .ok (.bl true) M := by rfl
theorem eq_run {M : MS} {x y : List Nat} : F_RulesD_eqD [.obj "Rules" ["letters"] [.str x], .obj "Rules" ["letters"] [.str y]] M = .ok (.bl (x == y)) M := by
  unfold F_RulesD_eqD
  rw [runD_ap]
  simp [m_RulesD_eqD, startD, isi_RR]
theorem within_run {M : MS} {x y : List Nat} (h : x.length ≤ 1000000) : F_Rules_within [.obj "Rules" ["letters"] [.str x], .obj "Rules" ["letters"] [.str y]] M = .ok (.bl (x.all fun c => decide (c ∈ y))) M := by
  have e := lc_map (te := e_Rules_within_1) (i := 2) (w := [some (.obj "Rules" ["letters"] [.str x]), some (.obj "Rules" ["letters"] [.str y]), none]) (M := M) (g := fun c => D.str [c]) (f := fun c => D.bl (decide (c ∈ y))) (xs := x) h (fun c hc => by simp [e_Rules_within_1, subIn_one])
  unfold F_Rules_within
  rw [runD_ap]
  simp [m_Rules_within, startD, wipeD, e, allF_map]
def subB (x y : List Nat) : Bool := x.all fun c => decide (c ∈ y)
abbrev fD (m : List (List Nat)) : D := .obj "Family" ["members"] [.lst (m.map rD)]
/-- the sets that contain one of some sets -/
def up (ts : List (List Nat)) : List (List Nat) := subs.filter fun x => ts.any fun t => subB t x
theorem subs_le : ∀ x, x ∈ subs → x.length ≤ 5 := by decide +kernel
theorem ncs_rD {n : Nat} : ∀ m : List (List Nat), ncs n (m.map rD) = true
  | [] => rfl
  | x :: m => by
    show (nc n (rD x) && ncs n (m.map rD)) = true
    rw [ncs_rD m]; rfl
theorem finit_run {M : MS} (h : M[0]? = some (.tab 0 "Rules" "every")) {ts : List (List Nat)} (hl : ts.length < 1000) (ht : ∀ t, t ∈ ts → t.length ≤ 1000) : mkT "Family" F_FamilyD_initD (ts.map rD) M = .ok (fD (up ts)) M := by
  refine mkT_of (ns := ["members"]) ?_ (by
    show (ncs _ ((up ts).map rD) && true) = true
    rw [ncs_rD]; rfl)
  have h1 : (M ++ [MO.obj "Family" [] []])[0]? = some (.tab 0 "Rules" "every") := by rw [List.getElem?_append_left (List.getElem?_eq_some_iff.mp h).1]; exact h
  have hm := get_last (M := M) (o := .obj "Family" [] [])
  have fin : (M ++ [MO.obj "Family" [] []]).set M.length (.obj "Family" ["members"] [.lst ((up ts).map rD)]) = M ++ [.obj "Family" ["members"] [.lst ((up ts).map rD)]] := set_last
  generalize M ++ [MO.obj "Family" [] []] = M1 at *
  generalize M.length = n at *
  have e1 := every_run h1 (c := .glo "Rules")
  have e2 := lc_typed (tt := t_FamilyD_initD_1) (te := nameE 2) (i := 2) (w := [some (.cell n), some (.tup (ts.map rD)), none, none]) (M := M1) (g := rD) (p := fun x => ts.any fun t => subB t x) (f := rD) (xs := subs) (by rw [subs_len]; omega) (fun x hx => ⟨by
    have e := lc_map (te := e_FamilyD_initD_1) (i := 3) (w := [some (.cell n), some (.tup (ts.map rD)), some (rD x), none]) (M := M1) (g := rD) (f := fun t => D.bl (subB t x)) (xs := ts) (by omega) (fun t h' => by
      have q := within_run (M := M1) (x := t) (y := x) (by have := ht t h'; omega)
      generalize ts.map rD = td at *
      simp [e_FamilyD_initD_1, methK_obj (C := "Rules") (m := "within") (ns := ["letters"]) rfl, methK2_ap, q]
      rfl)
    have a := anyF_map (M := M1) (p := fun t => subB t x) (xs := ts)
    generalize ts.map (fun t => D.bl (subB t x)) = L at *
    generalize (ts.any fun t => subB t x) = b at *
    generalize ts.map rD = td at *
    simp [t_FamilyD_initD_1, wipeD, e, a], fun _ => by simp⟩)
  have e2 : lcGo (fun _ => True) (nameG 2) t_FamilyD_initD_1 (nameE 2) [some (.cell n), some (.tup (ts.map rD)), none, none] (subs.map rD) [] M1 = .ok ((up ts).map rD) M1 := e2
  unfold F_FamilyD_initD vF
  rw [if_pos (by simp; omega), show packV 1 (D.cell n :: ts.map rD) = [.cell n, .tup (ts.map rD)] from rfl, runD_ap]
  rw [← fin]
  generalize (up ts).map rD = ud at *
  generalize ts.map rD = td at *
  generalize subs.map rD = sd at *
  simp [m_FamilyD_initD, startD, wipeD, e1, e2, sfK2_cell hm, putN]
/-- another set of the list lies within x -/
def aboveB (m : List (List Nat)) (x : List Nat) : Bool := m.any fun y => subB y x && !(y == x)
def leastB (m : List (List Nat)) : List (List Nat) := m.filter fun x => !aboveB m x
theorem fabove_run {M : MS} {m : List (List Nat)} {x : List Nat} (hl : m.length ≤ 1000) (hm : ∀ y, y ∈ m → y.length ≤ 1000) : F_Family_above_another [fD m, rD x] M = .ok (.bl (aboveB m x)) M := by
  have f0 : fldD ["Family"] "members" (fD m) M = .ok (.lst (m.map rD)) M := fldD_obj (by decide) rfl
  have e := lc_map (te := e_Family_above_another_1) (i := 2) (w := [some (fD m), some (rD x), none]) (M := M) (g := rD) (f := fun y => D.bl (subB y x && !(y == x))) (xs := m) (by omega) (fun y hy => by
    have q := eqO_obj (C := "Rules") (bs := []) (isTN_obj (M := M)) (eq_run (M := M) (x := y) (y := x))
    have w := within_run (M := M) (x := y) (y := x) (by have := hm y hy; omega)
    have w : F_Rules_within [rD y, rD x] M = .ok (.bl (subB y x)) M := w
    generalize m.map rD = md at *
    cases hb : subB y x <;> simp [e_Family_above_another_1, methK_obj (C := "Rules") (m := "within") (ns := ["letters"]) rfl, methK2_ap, w, hb, q])
  have a := anyF_map (M := M) (p := fun y => subB y x && !(y == x)) (xs := m)
  have a : anyF [.lst (m.map fun y => D.bl (subB y x && !(y == x)))] M = .ok (.bl (aboveB m x)) M := a
  unfold F_Family_above_another
  rw [runD_ap]
  generalize m.map (fun y => D.bl (subB y x && !(y == x))) = L at *
  generalize m.map rD = md at *
  simp [m_Family_above_another, startD, wipeD, f0, e, a]
theorem fleast_lc {M : MS} {m : List (List Nat)} (hl : m.length ≤ 1000) (hm : ∀ y, y ∈ m → y.length ≤ 1000) : lcGo (fun _ => True) (nameG 1) t_Family_least_1 (nameE 1) [some (fD m), none] (m.map rD) [] M = .ok ((leastB m).map rD) M :=
  lc_typed (tt := t_Family_least_1) (te := nameE 1) (i := 1) (w := [some (fD m), none]) (M := M) (g := rD) (p := fun x => !aboveB m x) (f := rD) (xs := m) (by omega) (fun x hx => ⟨by
    have a := fabove_run (M := M) (x := x) hl hm
    have i : insOf M "Family" "above_another" (fD m) = true := rfl
    generalize m.map rD = md at *
    simp [t_Family_least_1, methK_ap i, methK2_ap, a], fun _ => by simp⟩)
theorem fleast_run {M : MS} {m : List (List Nat)} (hl : m.length ≤ 1000) (hm : ∀ y, y ∈ m → y.length ≤ 1000) : F_Family_least [fD m] M = .ok (.lst ((leastB m).map rD)) M := by
  have e := fleast_lc (M := M) hl hm
  have f0 : fldD ["Family"] "members" (fD m) M = .ok (.lst (m.map rD)) M := fldD_obj (by decide) rfl
  unfold F_Family_least
  rw [runD_ap]
  generalize (leastB m).map rD = L at *
  generalize m.map rD = md at *
  simp [m_Family_least, startD, wipeD, f0, e]
theorem subB_iff {x y : List Nat} : subB x y = true ↔ ∀ c, c ∈ x → c ∈ y := by simp [subB]
theorem subB_refl (x : List Nat) : subB x x = true := subB_iff.mpr fun _ h => h
/-- a way with at most ten leaves -/
abbrev Sm (t : T) : Prop := t.ok ∧ t.ws.length ≤ 10
/-- the sets under which two ways are alike -/
def needT (a b : T) : List Lr := subs.filter fun s => pln s b == pln s a
theorem mem_need {a b : T} {s : Lr} : s ∈ needT a b ↔ s ∈ subs ∧ pln s b = pln s a := by simp [needT, List.mem_filter]
theorem need_up {a b : T} (ha : a.ok) (hb : b.ok) : up (needT a b) = needT a b := by
  unfold up
  conv => rhs; unfold needT
  refine List.filter_congr fun x hx => ?_
  rw [Bool.eq_iff_iff]
  simp only [List.any_eq_true, beq_iff_eq]
  constructor
  · rintro ⟨t, ht, s⟩
    exact pln_mono (subB_iff.mp s) hb ha (mem_need.mp ht).2
  · intro h
    exact ⟨x, mem_need.mpr ⟨hx, h⟩, subB_refl x⟩
theorem need_len (a b : T) : (needT a b).length ≤ 32 := by
  have := List.length_filter_le (fun s => pln s b == pln s a) subs
  rw [subs_len] at this
  exact this
theorem need_sub {a b : T} : ∀ x, x ∈ needT a b → x ∈ subs := fun x hx => (mem_need.mp hx).1
theorem need_le {a b : T} : ∀ x, x ∈ needT a b → x.length ≤ 1000 := fun x hx => by have := subs_le x (need_sub x hx); omega
theorem needed_run {M : MS} (h : M[0]? = some (.tab 0 "Rules" "every")) {a b : T} (sa : Sm a) (sb : Sm b) : F_needed [a.w, b.w] M = .ok (fD (needT a b)) M := by
  have e1 := every_run h (c := .glo "Rules")
  have e2 := lc_typed (tt := t_needed_1) (te := nameE 3) (i := 3) (w := [some a.w, some b.w, none, none]) (M := M) (g := rD) (p := fun s => pln s b == pln s a) (f := rD) (xs := subs) (by rw [subs_len]; omega) (fun s _ => ⟨by
    have al := alike_run (M := M) (x := s) (t := a) (us := [b]) sa.1 sa.2 (by simp) (fun u hu => by rw [List.mem_singleton.mp hu]; exact sb)
    simp only [List.map_cons, List.map_nil, List.all_cons, List.all_nil, Bool.and_true] at al
    have al : F_alike [a.w, b.w] [rD s] M = .ok (.bl (pln s b == pln s a)) M := al
    generalize (pln s b == pln s a) = k at *
    generalize a.w = aw at *
    generalize b.w = bw at *
    simp [t_needed_1, callGE, al], fun _ => by simp⟩)
  have e2 : lcGo (fun _ => True) (nameG 3) t_needed_1 (nameE 3) [some a.w, some b.w, none, none] (subs.map rD) [] M = .ok ((needT a b).map rD) M := e2
  have i := finit_run h (ts := needT a b) (by have := need_len a b; omega) need_le
  rw [need_up sa.1 sb.1] at i
  unfold F_needed
  rw [runD_ap]
  generalize fD (needT a b) = r at *
  generalize (needT a b).map rD = nd at *
  generalize subs.map rD = sd at *
  generalize a.w = aw at *
  generalize b.w = bw at *
  simp [m_needed, startD, e1, wipeD, e2, starE, i]
theorem wmul_run {M : MS} {t u : T} (h : (T.node t u).ok) (hl : (T.node t u).txt.length ≤ 90000) (hn : (T.node t u).ws.length ≤ 1000) (hd : (T.node t u).depth < 30) : F_WayD_mulD [t.w, u.w] M = .ok (T.node t u).w M := by
  have i := way_init 30 (T.node t u) h hl hn hd hd M
  have i : mkT "Way" F_WayD_initD [.str (T.node t u).txt] M = .ok (T.node t u).w M := i
  have f1 := text_W (M := M) (t := t)
  have f2 := text_W (M := M) (t := u)
  have l2 : t.txt.length + u.txt.length + 3 ≤ 90000 := by simp [T.txt] at hl; omega
  have hf : fstrE [(constE (.str (sL "("))), (fmtE (unE (fldD ["Way"] "text") (nameE 0))), (constE (.str (sL " "))), (fmtE (unE (fldD ["Way"] "text") (nameE 1))), (constE (.str (sL ")")))] [some t.w, some u.w] M = .ok (.str (T.node t u).txt) M := by
    have g1 := fmtE_str (a := unE (fldD ["Way"] "text") (nameE 0)) (sd := [some t.w, some u.w]) (M := M) (y := t.txt) (M1 := M) (by simp [f1]) (by omega)
    have g2 := fmtE_str (a := unE (fldD ["Way"] "text") (nameE 1)) (sd := [some t.w, some u.w]) (M := M) (y := u.txt) (M1 := M) (by simp [f2]) (by omega)
    rw [fstrE_ap, sLo, sLs, sLc]
    rw [jGo_cons, constE_ap, Res.bind_ok, jK_str (by simp)]
    rw [jGo_cons, g1, Res.bind_ok, jK_str (by simp; omega)]
    rw [jGo_cons, constE_ap, Res.bind_ok, jK_str (by simp; omega)]
    rw [jGo_cons, g2, Res.bind_ok, jK_str (by simp; omega)]
    rw [jGo_cons, constE_ap, Res.bind_ok, jK_str (by simp; omega)]
    rw [jGo_nil]
    simp [T.txt]
  unfold F_WayD_mulD
  rw [runD_ap]
  unfold m_WayD_mulD
  rw [show startD 2 [t.w, u.w] = [some t.w, some u.w] from rfl]
  generalize (T.node t u).txt = tx at *
  generalize (T.node t u).w = tw at *
  simp [hf, callK_ap, i]
theorem get_app {M L : MS} {n : Nat} {o : MO} (h : M[n]? = some o) : (M ++ L)[n]? = some o := by rw [List.getElem?_append_left (List.getElem?_eq_some_iff.mp h).1]; exact h
def RelT (S : Lr) (a b : T) : Prop := if 65 ∈ S then Rw2 S a.ws b.ws else nf S a = nf S b
def T.rn (f : Lr → Lr) : T → T
  | .leaf w => .leaf (f w)
  | .node l r => .node (l.rn f) (r.rn f)
theorem T.rn_ws (f : Lr → Lr) : ∀ t : T, (t.rn f).ws = t.ws.flatMap fun w => [f w]
  | .leaf w => by simp [T.rn, T.ws]
  | .node l r => by
    show (T.rn f l).ws ++ (T.rn f r).ws = (l.ws ++ r.ws).flatMap _
    rw [T.rn_ws f l, T.rn_ws f r, fm_app]
theorem T.rn_ok {f : Lr → Lr} (hk : ∀ w, okW w → okW (f w)) : ∀ t : T, t.ok → (t.rn f).ok
  | .leaf w, h => hk w h
  | .node l r, h => ⟨T.rn_ok hk l h.1, T.rn_ok hk r h.2⟩
theorem Q.hom {x : Lr} (f : Lr → Wd) {u v : Wd} (h : Q x u v) : Q x (u.flatMap f) (v.flatMap f) := by
  unfold Q at *
  split
  · rename_i c; rw [if_pos c] at h; exact fm_same h
  · rename_i c
    rw [if_neg c] at h
    split
    · rename_i c2; rw [if_pos c2] at h; exact h.flatMap_right f
    · rename_i c2
      rw [if_neg c2] at h
      split
      · rename_i c3; rw [if_pos c3] at h; exact Al.hom f _ (Nat.le_refl _) h
      · rename_i c3; rw [if_neg c3] at h; rw [h]
theorem Q.same {x : Lr} {u v : Wd} (h : Q x u v) : SameC u v := by
  unfold Q at h
  split at h
  · exact h
  · split at h
    · exact fun l => h.mem_iff
    · split at h
      · exact h.c
      · rw [h]; exact SameC.refl _
theorem fe_fm {x : Lr} {f : Lr → Wd} (he : f [101] = [[101]]) (u : Wd) : fe x (u.flatMap f) = (fe x u).flatMap fun l => fe x (f l) := by
  unfold fe
  by_cases hu : 85 ∈ x
  · rw [if_pos hu, if_pos hu]
    simp only [if_pos hu]
    induction u with
    | nil => rfl
    | cons l u ih =>
      rw [List.flatMap_cons]
      have e1 : noE (f l ++ u.flatMap f) = noE (f l) ++ noE (u.flatMap f) := by unfold noE; exact List.filter_append _ _
      rw [e1, ih]
      by_cases h : l = [101]
      · subst h
        rw [he]
        show noE [[101]] ++ _ = (noE ([101] :: u)).flatMap _
        rfl
      · have e2 : noE (l :: u) = l :: noE u := by unfold noE; rw [List.filter_cons, if_pos (by simpa using h)]
        rw [e2, List.flatMap_cons]
  · rw [if_neg hu, if_neg hu]
    simp only [if_neg hu]
theorem Rw2.hom {x : Lr} {f : Lr → Wd} (hz : f [122] = [[122]]) (he : f [101] = [[101]]) {u v : Wd} (h : Rw2 x u v) : Rw2 x (u.flatMap f) (v.flatMap f) := by
  have zf : ∀ w : Wd, [122] ∈ fe x w ↔ [122] ∈ w := fun w => by
    unfold fe
    split
    · rw [show ([122] ∈ noE w ↔ [122] ∈ w) from by simp [noE, List.mem_filter]]
    · exact Iff.rfl
  rcases h with ⟨a, b, c⟩ | ⟨a, q⟩
  · refine .inl ⟨a, List.mem_flatMap.mpr ⟨_, b, ?_⟩, List.mem_flatMap.mpr ⟨_, c, ?_⟩⟩
    · rw [hz]; simp
    · rw [hz]; simp
  · have q2 : Q x (fe x (u.flatMap f)) (fe x (v.flatMap f)) := by
      rw [fe_fm he, fe_fm he]
      exact q.hom _
    exact .inr ⟨fun _ => (zf _).symm.trans ((q2.same _).trans (zf _)), q2⟩
theorem nf_rn {S : Lr} {f : Lr → Lr} (hz : f [122] = [122]) (he : f [101] = [101]) (hk : ∀ w, okW w → okW (f w)) : ∀ t : T, t.ok → nf S (t.rn f) = nf S ((nf S t).rn f)
  | .leaf w, _ => rfl
  | .node l r, h => by
    have i1 := nf_rn (S := S) hz he hk l h.1
    have i2 := nf_rn (S := S) hz he hk r h.2
    obtain ⟨k1, _⟩ := nf_ok S l h.1
    obtain ⟨k2, _⟩ := nf_ok S r h.2
    show nfn S (nf S (l.rn f)) (nf S (r.rn f)) = nf S ((nfn S (nf S l) (nf S r)).rn f)
    rw [i1, i2]
    generalize nf S l = L at *
    generalize nf S r = R at *
    have fz : T.rn f (.leaf [122]) = .leaf [122] := by unfold T.rn; rw [hz]
    have fe' : T.rn f (.leaf [101]) = .leaf [101] := by unfold T.rn; rw [he]
    obtain ⟨m1, _⟩ := nf_ok S _ (T.rn_ok hk L k1)
    obtain ⟨m2, _⟩ := nf_ok S _ (T.rn_ok hk R k2)
    by_cases c1 : (decide (90 ∈ S) && (L.txt == [122] || R.txt == [122])) = true
    · have : nfn S L R = .leaf [122] := by unfold nfn; rw [if_pos c1]
      rw [this, fz]
      simp only [Bool.and_eq_true, decide_eq_true_eq, Bool.or_eq_true, beq_iff_eq] at c1
      rcases c1.2 with e | e
      · rw [T.leaf_of e (by decide), fz]; exact (nfn_z c1.1).1
      · rw [T.leaf_of e (by decide), fz]; exact (nfn_z c1.1).2
    by_cases c2 : (decide (85 ∈ S) && L.txt == [101]) = true
    · have : nfn S L R = R := by unfold nfn; rw [if_neg c1, if_pos c2]
      rw [this]
      simp only [Bool.and_eq_true, decide_eq_true_eq, beq_iff_eq] at c2
      rw [T.leaf_of c2.2 (by decide), fe']
      exact (nfn_e c2.1).1
    by_cases c3 : (decide (85 ∈ S) && R.txt == [101]) = true
    · have : nfn S L R = L := by unfold nfn; rw [if_neg c1, if_neg c2, if_pos c3]
      rw [this]
      simp only [Bool.and_eq_true, decide_eq_true_eq, beq_iff_eq] at c3
      rw [T.leaf_of c3.2 (by decide), fe']
      exact (nfn_e c3.1).2
    by_cases c4 : (decide (73 ∈ S) && L.txt == R.txt) = true
    · have : nfn S L R = L := by unfold nfn; rw [if_neg c1, if_neg c2, if_neg c3, if_pos c4]
      rw [this]
      simp only [Bool.and_eq_true, decide_eq_true_eq, beq_iff_eq] at c4
      rw [(T.txt_eq k1 k2).mp c4.2]
      rcases nfn_same (x := S) (a := nf S (R.rn f)) with q | ⟨_, q⟩
      · exact q
      · exact absurd c4.1 q
    by_cases c5 : (decide (67 ∈ S) && decide (R.txt < L.txt)) = true
    · have : nfn S L R = .node R L := by unfold nfn; rw [if_neg c1, if_neg c2, if_neg c3, if_neg c4, if_pos c5]
      rw [this]
      simp only [Bool.and_eq_true, decide_eq_true_eq] at c5
      exact nfn_comm m1 m2 c5.1
    · have : nfn S L R = .node L R := by unfold nfn; rw [if_neg c1, if_neg c2, if_neg c3, if_neg c4, if_neg c5]
      rw [this]
      rfl
theorem RelT.rn {S : Lr} {f : Lr → Lr} {a b : T} (hz : f [122] = [122]) (he : f [101] = [101]) (hk : ∀ w, okW w → okW (f w)) (ha : a.ok) (hb : b.ok) (h : RelT S a b) : RelT S (a.rn f) (b.rn f) := by
  unfold RelT at *
  split
  · rename_i c
    rw [if_pos c] at h
    rw [T.rn_ws, T.rn_ws]
    exact Rw2.hom (by rw [hz]) (by rw [he]) h
  · rename_i c
    rw [if_neg c] at h
    rw [nf_rn hz he hk a ha, nf_rn hz he hk b hb, h]
def insW (x : Lr) : Wd → Wd
  | [] => [x]
  | y :: r => if leS x y = true then x :: y :: r else y :: insW x r
def isort : Wd → Wd
  | [] => []
  | x :: r => insW x (isort r)
theorem insW_perm (x : Lr) : ∀ w : Wd, (insW x w).Perm (x :: w)
  | [] => List.Perm.refl _
  | y :: r => by
    unfold insW
    split
    · exact List.Perm.refl _
    · exact ((insW_perm x r).cons y).trans (List.Perm.swap x y r)
theorem isort_perm : ∀ w : Wd, (isort w).Perm w
  | [] => List.Perm.refl _
  | x :: r => (insW_perm x _).trans ((isort_perm r).cons x)
theorem insW_srt (x : Lr) : ∀ w : Wd, w.Pairwise (fun a b => leS a b = true) → (insW x w).Pairwise (fun a b => leS a b = true)
  | [], _ => by simp [insW]
  | y :: r, h => by
    obtain ⟨h1, h2⟩ := List.pairwise_cons.mp h
    unfold insW
    split
    · rename_i c
      exact List.pairwise_cons.mpr ⟨fun z hz => by
        rcases List.mem_cons.mp hz with rfl | hz
        · exact c
        · exact leS_trans _ _ _ c (h1 z hz), h⟩
    · rename_i c
      refine List.pairwise_cons.mpr ⟨fun z hz => ?_, insW_srt x r h2⟩
      rcases List.mem_cons.mp ((insW_perm x r).mem_iff.mp hz) with rfl | hz
      · have t := leS_total y z
        simp only [Bool.or_eq_true] at t
        rcases t with t | t
        · exact t
        · exact absurd t c
      · exact h1 z hz
theorem isort_srt : ∀ w : Wd, (isort w).Pairwise (fun a b => leS a b = true)
  | [] => List.Pairwise.nil
  | x :: r => insW_srt x _ (isort_srt r)
theorem sortT_is (w : Wd) : sortT w = isort w := by
  exact (sortT_eq (isort_perm w) (isort_srt w)).symm
def core2 (x : Lr) (w : Wd) : Wd := if 67 ∈ x ∧ 73 ∈ x then isort (dedT w) else if 67 ∈ x then isort w else if 73 ∈ x then bandW w else w
def wf2 (x : Lr) (w : Wd) : Wd := if 90 ∈ x ∧ [122] ∈ w then [[122]] else if fe x w = [] then [[101]] else core2 x (fe x w)
def pln2 (x : Lr) (t : T) : Lr := if 65 ∈ x then TL.joinL [32] (wf2 x t.ws) else tf x t
theorem pln_is : pln = pln2 := by
  funext x t
  unfold pln pln2 wf wf2 core core2
  simp only [sortT_is]
def T.flip : T → T
  | .leaf w => .leaf w
  | .node l r => .node r.flip l.flip
theorem T.flip_ok : ∀ t : T, t.ok → t.flip.ok
  | .leaf w, h => h
  | .node l r, h => ⟨T.flip_ok r h.2, T.flip_ok l h.1⟩
theorem T.flip_depth : ∀ t : T, t.flip.depth = t.depth
  | .leaf w => rfl
  | .node l r => by show max r.flip.depth l.flip.depth + 1 = max l.depth r.depth + 1; rw [T.flip_depth l, T.flip_depth r, Nat.max_comm]
theorem T.flip_len : ∀ t : T, t.flip.ws.length = t.ws.length
  | .leaf w => rfl
  | .node l r => by show (r.flip.ws ++ l.flip.ws).length = (l.ws ++ r.ws).length; rw [List.length_append, List.length_append, T.flip_len l, T.flip_len r, Nat.add_comm]
theorem wflip_run {M : MS} : ∀ (d : Nat) (t : T), t.ok → t.depth < d → t.depth < 30 → t.ws.length ≤ 1000 → R_Way_flipped d [t.w] M = .ok t.flip.w M
  | 0, _, _, h, _, _ => absurd h (by omega)
  | d + 1, .leaf w, _, _, _, _ => by
    have f := left_leaf (M := M) (w := w)
    show runD 1 (m_Way_flipped (R_Way_flipped d)) [(T.leaf w).w] M = .ok (T.leaf w).w M
    rw [runD_ap]
    generalize (T.leaf w).w = tw at *
    simp [m_Way_flipped, startD, f, isN]
  | d + 1, .node l r, hk, hd, h30, hl => by
    have hl2 : l.ws.length + r.ws.length ≤ 1000 := by simpa [T.ws] using hl
    simp [T.depth] at hd h30
    have e1 := wflip_run (M := M) d l hk.1 (by omega) (by omega) (by omega)
    have e2 := wflip_run (M := M) d r hk.2 (by omega) (by omega) (by omega)
    have f1 := left_node (M := M) (l := l) (r := r)
    have f2 := right_node (M := M) (l := l) (r := r)
    have n1 := isN_w l
    have m1 := fun sd g => methK_W (F := R_Way_flipped d) (m := "flipped") (n := 1) (g := g) (ms := nilA) (sd := sd) (M := M) (t := l) (by decide)
    have m2 := fun sd g => methK_W (F := R_Way_flipped d) (m := "flipped") (n := 1) (g := g) (ms := nilA) (sd := sd) (M := M) (t := r) (by decide)
    have okn : (T.node r.flip l.flip).ok := ⟨r.flip_ok hk.2, l.flip_ok hk.1⟩
    have nl : (T.node r.flip l.flip).ws.length = l.ws.length + r.ws.length := by show (r.flip.ws ++ l.flip.ws).length = _; rw [List.length_append, r.flip_len, l.flip_len, Nat.add_comm]
    have tl := T.txt_len _ okn
    have nd : (T.node r.flip l.flip).depth = max r.depth l.depth + 1 := by show max r.flip.depth l.flip.depth + 1 = _; rw [r.flip_depth, l.flip_depth]
    have b := binO_W (F := F_WayD_mulD) (t := r.flip) (u := l.flip) (wmul_run (M := M) (t := r.flip) (u := l.flip) okn (by omega) (by omega) (by omega))
    show runD 1 (m_Way_flipped (R_Way_flipped d)) [(T.node l r).w] M = .ok (T.node r.flip l.flip).w M
    rw [runD_ap]
    generalize (T.node r.flip l.flip).w = z1 at *
    generalize (T.node l r).w = z2 at *
    generalize r.flip.w = z3 at *
    generalize l.flip.w = z4 at *
    generalize l.w = z5 at *
    generalize r.w = z6 at *
    simp [m_Way_flipped, startD, f1, n1, f2, m1, m2, methK2_ap, e1, e2, b]
def prs55 : List (T × T × List Lr) := [((.node (.node (.leaf [97]) (.leaf [98])) (.leaf [99])), (.node (.leaf [97]) (.node (.leaf [98]) (.leaf [99]))), [[65]]), ((.node (.leaf [97]) (.leaf [98])), (.node (.leaf [98]) (.leaf [97])), [[67]]), ((.node (.leaf [97]) (.leaf [97])), (.leaf [97]), [[73]]), ((.node (.leaf [97]) (.leaf [101])), (.leaf [97]), [[85]]), ((.node (.node (.leaf [97]) (.leaf [122])) (.leaf [98])), (.leaf [122]), [[90]]), ((.node (.node (.leaf [97]) (.leaf [97])) (.leaf [97])), (.node (.leaf [97]) (.node (.leaf [97]) (.leaf [97]))), [[65], [67], [73]]), ((.node (.node (.leaf [97]) (.leaf [98])) (.leaf [97])), (.node (.leaf [97]) (.node (.leaf [98]) (.leaf [97]))), [[65], [67]]), ((.node (.node (.leaf [97]) (.leaf [98])) (.node (.leaf [98]) (.leaf [97]))), (.node (.leaf [97]) (.leaf [98])), [[67, 73]]), ((.node (.node (.leaf [97]) (.leaf [98])) (.node (.leaf [97]) (.leaf [98]))), (.node (.leaf [97]) (.leaf [98])), [[73]]), ((.node (.node (.leaf [97]) (.leaf [98])) (.leaf [98])), (.node (.leaf [97]) (.leaf [98])), [[65, 73]]), ((.node (.node (.leaf [99]) (.leaf [98])) (.leaf [97])), (.node (.leaf [97]) (.node (.leaf [98]) (.leaf [99]))), [[67]]), ((.node (.node (.leaf [97]) (.leaf [98])) (.leaf [99])), (.node (.node (.leaf [97]) (.leaf [99])) (.leaf [98])), [[65, 67]]), ((.node (.node (.leaf [97]) (.leaf [101])) (.node (.leaf [101]) (.leaf [98]))), (.node (.leaf [97]) (.leaf [98])), [[85]]), ((.node (.leaf [101]) (.leaf [101])), (.leaf [101]), [[73], [85]]), ((.node (.leaf [122]) (.leaf [122])), (.leaf [122]), [[73], [90]]), ((.node (.leaf [122]) (.leaf [101])), (.leaf [122]), [[85], [90]])]
theorem chk55 : (prs55.all fun q => (leastB (needT q.1 q.2.1) == q.2.2) && (leastB (needT q.2.1 q.1) == q.2.2) && (leastB (needT q.1.flip q.2.1.flip) == q.2.2) && (leastB (needT q.2.1.flip q.1.flip) == q.2.2)) = true := by
  unfold needT
  rw [pln_is]
  decide +kernel
theorem RelT.iff {S : Lr} {a b : T} (ha : a.ok) (hb : b.ok) : RelT S a b ↔ Lk55.pln S a = Lk55.pln S b := by
  unfold RelT
  split
  · rename_i c; exact (pln_iffA c ha hb).symm
  · rename_i c; exact (pln_iffT c ha hb).symm
theorem pln_rn {S : Lr} {f g : Lr → Lr} {a b : T} (hz : f [122] = [122]) (he : f [101] = [101]) (hk : ∀ w, okW w → okW (f w)) (gz : g [122] = [122]) (ge : g [101] = [101]) (gk : ∀ w, okW w → okW (g w))
    (ia : (a.rn f).rn g = a) (ib : (b.rn f).rn g = b) (ha : a.ok) (hb : b.ok) : pln S (a.rn f) = pln S (b.rn f) ↔ pln S a = pln S b := by
  have ka := T.rn_ok hk a ha
  have kb := T.rn_ok hk b hb
  constructor
  · intro h
    have r := RelT.rn gz ge gk ka kb ((RelT.iff ka kb).mpr h)
    rw [ia, ib] at r
    exact (RelT.iff ha hb).mp r
  · intro h
    exact (RelT.iff ka kb).mp (RelT.rn hz he hk ha hb ((RelT.iff ha hb).mpr h))
structure Nm3 (n0 n1 n2 : Lr) : Prop where
  ok : okW n0 ∧ okW n1 ∧ okW n2
  d : n0 ≠ n1 ∧ n0 ≠ n2 ∧ n1 ≠ n2
  e : n0 ≠ [101] ∧ n1 ≠ [101] ∧ n2 ≠ [101]
  z : n0 ≠ [122] ∧ n1 ≠ [122] ∧ n2 ≠ [122]
def nmF3 (n0 n1 n2 w : Lr) : Lr := if w = [97] then n0 else if w = [98] then n1 else if w = [99] then n2 else w
def nmG3 (n0 n1 n2 w : Lr) : Lr := if w = n0 then [97] else if w = n1 then [98] else if w = n2 then [99] else w
def b5 : Wd := [[97], [98], [99], [101], [122]]
section
variable {n0 n1 n2 : Lr} (h : Nm3 n0 n1 n2)
include h
theorem nmF3_ok (w : Lr) (k : okW w) : okW (nmF3 n0 n1 n2 w) := by
  unfold nmF3
  split
  · exact h.ok.1
  · split
    · exact h.ok.2.1
    · split
      · exact h.ok.2.2
      · exact k
omit h in
theorem nmG3_ok (w : Lr) (k : okW w) : okW (nmG3 n0 n1 n2 w) := by
  unfold nmG3
  split
  · exact ⟨by simp, by simp, fun c hc => by rw [List.mem_singleton.mp hc]; omega⟩
  · split
    · exact ⟨by simp, by simp, fun c hc => by rw [List.mem_singleton.mp hc]; omega⟩
    · split
      · exact ⟨by simp, by simp, fun c hc => by rw [List.mem_singleton.mp hc]; omega⟩
      · exact k
theorem nm3_back (w : Lr) (k : w ∈ b5) : nmG3 n0 n1 n2 (nmF3 n0 n1 n2 w) = w := by
  have : w = [97] ∨ w = [98] ∨ w = [99] ∨ w = [101] ∨ w = [122] := by simpa [b5] using k
  obtain ⟨d1, d2, d3⟩ := h.d
  obtain ⟨e1, e2, e3⟩ := h.e
  obtain ⟨z1, z2, z3⟩ := h.z
  rcases this with rfl | rfl | rfl | rfl | rfl
  · simp [nmF3, nmG3]
  · simp [nmF3, nmG3, Ne.symm d1]
  · simp [nmF3, nmG3, Ne.symm d2, Ne.symm d3]
  · simp [nmF3, nmG3, Ne.symm e1, Ne.symm e2, Ne.symm e3]
  · simp [nmF3, nmG3, Ne.symm z1, Ne.symm z2, Ne.symm z3]
theorem rn_back : ∀ t : T, (∀ w, w ∈ t.ws → w ∈ b5) → (t.rn (nmF3 n0 n1 n2)).rn (nmG3 n0 n1 n2) = t
  | .leaf w, k => by
    show T.leaf _ = _
    rw [nm3_back h w (k w (by simp [T.ws]))]
  | .node l r, k => by
    show T.node _ _ = _
    rw [rn_back l fun w hw => k w (by simp [T.ws, hw]), rn_back r fun w hw => k w (by simp [T.ws, hw])]
theorem need_rn {a b : T} (ha : a.ok) (hb : b.ok) (ka : ∀ w, w ∈ a.ws → w ∈ b5) (kb : ∀ w, w ∈ b.ws → w ∈ b5) : needT (a.rn (nmF3 n0 n1 n2)) (b.rn (nmF3 n0 n1 n2)) = needT a b := by
  obtain ⟨e1, e2, e3⟩ := h.e
  obtain ⟨z1, z2, z3⟩ := h.z
  unfold needT
  refine List.filter_congr fun s _ => ?_
  have i := pln_rn (S := s) (f := nmF3 n0 n1 n2) (g := nmG3 n0 n1 n2) (a := b) (b := a) rfl rfl (nmF3_ok h) (by simp [nmG3, Ne.symm z1, Ne.symm z2, Ne.symm z3]) (by simp [nmG3, Ne.symm e1, Ne.symm e2, Ne.symm e3]) nmG3_ok (rn_back h b kb) (rn_back h a ka) hb ha
  rw [Bool.eq_iff_iff, beq_iff_eq, beq_iff_eq]
  exact i
end
theorem rep1 {a : String} {c : Nat} (ha : sL a = [c]) (x w : Lr) : Txt.replace (tx x) (Str.ofString a) (tx w) = tx (x.flatMap fun d => if d = c then w else [d]) := by
  have e1 : (Str.ofString a).cps.toList = [c] := by rw [← ha, ← tx_sL]
  have h1 : 1 ≤ (Str.ofString a).length := by
    have : (Str.ofString a).cps.toList.length = 1 := by rw [e1]; rfl
    unfold Str.length
    rw [← Array.length_toList, this]
    exact Nat.le_refl _
  have h := StrLaws.replace_list (x := tx x) (y := Str.ofString a) (z := tx w) h1
  rw [e1, replL_one] at h
  have e : ∀ s : Str, s = tx s.cps.toList := fun s => by simp [tx]
  rw [e (Txt.replace _ _ _), h]
def sub3 (w0 w1 w2 : Lr) (d : Nat) : Lr := if d = 120 then w0 else if d = 121 then w1 else if d = 116 then w2 else [d]
def low (w : Lr) : Prop := ∀ d, d ∈ w → d ≠ 88 ∧ d ≠ 89 ∧ d ≠ 84
theorem fm_id {c : Nat} {v w : Lr} (h : ∀ d, d ∈ w → d ≠ c) : (w.flatMap fun d => if d = c then v else [d]) = w := by
  induction w with
  | nil => rfl
  | cons d r ih =>
    rw [List.flatMap_cons, if_neg (h d List.mem_cons_self), ih fun x hx => h x (List.mem_cons_of_mem _ hx)]
    rfl
def ch8 : List Nat := [32, 40, 41, 101, 116, 120, 121, 122]
theorem ren_one {w0 w1 w2 : Lr} (h0 : low w0) (h1 : low w1) (h2 : low w2) : ∀ x : Lr, (∀ d, d ∈ x → d ∈ ch8) →
    ((((((x.flatMap fun d => if d = 120 then [88] else [d]).flatMap fun d => if d = 121 then [89] else [d]).flatMap fun d => if d = 116 then [84] else [d]).flatMap fun d => if d = 88 then w0 else [d]).flatMap fun d => if d = 89 then w1 else [d]).flatMap fun d => if d = 84 then w2 else [d]) = x.flatMap (sub3 w0 w1 w2)
  | [], _ => rfl
  | d :: r, h => by
    have ih := ren_one h0 h1 h2 r fun x hx => h x (List.mem_cons_of_mem _ hx)
    have hd : d = 32 ∨ d = 40 ∨ d = 41 ∨ d = 101 ∨ d = 116 ∨ d = 120 ∨ d = 121 ∨ d = 122 := by simpa [ch8] using h d List.mem_cons_self
    simp only [List.flatMap_cons, List.flatMap_append, ih]
    congr 1
    rcases hd with rfl | rfl | rfl | rfl | rfl | rfl | rfl | rfl
    · simp [sub3]
    · simp [sub3]
    · simp [sub3]
    · simp [sub3]
    · simp [sub3]
    · simp only [sub3, if_true, List.flatMap_cons, List.flatMap_nil, List.append_nil, show ¬ (88 : Nat) = 121 by omega, show ¬ (88 : Nat) = 116 by omega, if_false]
      rw [fm_id fun z hz => (h0 z hz).2.1, fm_id fun z hz => (h0 z hz).2.2]
    · simp only [sub3, if_true, List.flatMap_cons, List.flatMap_nil, List.append_nil, show ¬ (121 : Nat) = 120 by omega, show ¬ (89 : Nat) = 116 by omega, show ¬ (89 : Nat) = 88 by omega, if_false]
      rw [fm_id fun z hz => (h1 z hz).2.2]
    · simp [sub3]
theorem ren_text {w0 w1 w2 x : Lr} (h0 : low w0) (h1 : low w1) (h2 : low w2) (hx : ∀ d, d ∈ x → d ∈ ch8) : (ren2 (ren1 (tx x)) (tx w0) (tx w1) (tx w2)).cps.toList = x.flatMap (sub3 w0 w1 w2) := by
  have sX : Str.ofString "X" = tx [88] := by rw [← tx_sL]; rfl
  have sY : Str.ofString "Y" = tx [89] := by rw [← tx_sL]; rfl
  have sT : Str.ofString "T" = tx [84] := by rw [← tx_sL]; rfl
  have e1 : ren1 (tx x) = tx (((x.flatMap fun d => if d = 120 then [88] else [d]).flatMap fun d => if d = 121 then [89] else [d]).flatMap fun d => if d = 116 then [84] else [d]) := by
    show Txt.replace (Txt.replace (Txt.replace (tx x) (Str.ofString "x") (Str.ofString "X")) (Str.ofString "y") (Str.ofString "Y")) (Str.ofString "t") (Str.ofString "T") = _
    rw [sX, sY, sT, rep1 (a := "x") (c := 120) rfl, rep1 (a := "y") (c := 121) rfl, rep1 (a := "t") (c := 116) rfl]
  have e2 : ∀ z : Lr, ren2 (tx z) (tx w0) (tx w1) (tx w2) = tx (((z.flatMap fun d => if d = 88 then w0 else [d]).flatMap fun d => if d = 89 then w1 else [d]).flatMap fun d => if d = 84 then w2 else [d]) := fun z => by
    show Txt.replace (Txt.replace (Txt.replace (tx z) (Str.ofString "X") (tx w0)) (Str.ofString "Y") (tx w1)) (Str.ofString "T") (tx w2) = _
    rw [rep1 (a := "X") (c := 88) rfl, rep1 (a := "Y") (c := 89) rfl, rep1 (a := "T") (c := 84) rfl]
  rw [e1, e2, ren_one h0 h1 h2 x hx]
theorem rn_text {w0 w1 w2 : Lr} : ∀ t : T, (∀ w, w ∈ t.ws → w ∈ b5) → (t.rn (nmF3 [120] [121] [116])).txt.flatMap (sub3 w0 w1 w2) = (t.rn (nmF3 w0 w1 w2)).txt
  | .leaf w, k => by
    have : w = [97] ∨ w = [98] ∨ w = [99] ∨ w = [101] ∨ w = [122] := by simpa [b5] using k w (by simp [T.ws])
    rcases this with rfl | rfl | rfl | rfl | rfl <;> simp [T.rn, T.txt, nmF3, sub3]
  | .node l r, k => by
    have e1 := rn_text (w0 := w0) (w1 := w1) (w2 := w2) l fun w hw => k w (by simp [T.ws, hw])
    have e2 := rn_text (w0 := w0) (w1 := w1) (w2 := w2) r fun w hw => k w (by simp [T.ws, hw])
    simp only [T.rn, T.txt, List.flatMap_append, List.flatMap_cons, List.flatMap_nil, e1, e2]
    simp [sub3]
theorem rn_chars : ∀ t : T, (∀ w, w ∈ t.ws → w ∈ b5) → ∀ d, d ∈ (t.rn (nmF3 [120] [121] [116])).txt → d ∈ ch8
  | .leaf w, k => by
    have : w = [97] ∨ w = [98] ∨ w = [99] ∨ w = [101] ∨ w = [122] := by simpa [b5] using k w (by simp [T.ws])
    rcases this with rfl | rfl | rfl | rfl | rfl <;> simp [T.rn, T.txt, nmF3, ch8]
  | .node l r, k => by
    have e1 := rn_chars l fun w hw => k w (by simp [T.ws, hw])
    have e2 := rn_chars r fun w hw => k w (by simp [T.ws, hw])
    intro d hd
    simp only [T.rn, T.txt, List.mem_append, List.mem_cons, List.not_mem_nil, or_false] at hd
    rcases hd with hd
    have c : ∀ z, z = 40 ∨ z = 32 ∨ z = 41 → z ∈ ch8 := fun z hz => by rcases hz with rfl | rfl | rfl <;> simp [ch8]
    grind
theorem T.rn_flip (f : Lr → Lr) : ∀ t : T, (t.rn f).flip = (t.flip).rn f
  | .leaf w => rfl
  | .node l r => by show T.node (r.rn f).flip (l.rn f).flip = T.node (r.flip.rn f) (l.flip.rn f); rw [T.rn_flip f l, T.rn_flip f r]
theorem way_sm {M : MS} {t : T} (h : Sm t) : mkT "Way" F_WayD_initD [.str t.txt] M = .ok t.w M := by
  have h1 := t.txt_len h.1
  have h2 := t.depth_lt
  have h3 := h.2
  exact way_init 30 t h.1 (by omega) (by omega) (by omega) (by omega) M
theorem rstr_run {M : MS} {x : List Nat} : F_RulesD_strD [.obj "Rules" ["letters"] [.str x]] M = .ok (.str x) M := by
  unfold F_RulesD_strD
  rw [runD_ap]
  simp [m_RulesD_strD, startD, strSF]
def txs55 : List (Lr × Lr × List Lr) := [(sL "((x y) t)", sL "(x (y t))", [sL "A"]), (sL "(x y)", sL "(y x)", [sL "C"]), (sL "(x x)", sL "x", [sL "I"]), (sL "(x e)", sL "x", [sL "U"]), (sL "((x z) y)", sL "z", [sL "Z"]), (sL "((x x) x)", sL "(x (x x))", [sL "A", sL "C", sL "I"]), (sL "((x y) x)", sL "(x (y x))", [sL "A", sL "C"]), (sL "((x y) (y x))", sL "(x y)", [sL "CI"]), (sL "((x y) (x y))", sL "(x y)", [sL "I"]), (sL "((x y) y)", sL "(x y)", [sL "AI"]), (sL "((t y) x)", sL "(x (y t))", [sL "C"]), (sL "((x y) t)", sL "((x t) y)", [sL "AC"]), (sL "((x e) (e y))", sL "(x y)", [sL "U"]), (sL "(e e)", sL "e", [sL "I", sL "U"]), (sL "(z z)", sL "z", [sL "I", sL "Z"]), (sL "(z e)", sL "z", [sL "U", sL "Z"])]
def prD (p : Lr × Lr × List Lr) : D := .tup [.str p.1, .str p.2.1, .lst (p.2.2.map D.str)]
theorem pairs_run {M : MS} : F_l_pairs [] M = .ok (.lst (txs55.map prD)) M := by
  unfold F_l_pairs
  rw [runD_ap]
  simp [m_l_pairs, startD, addD_lst, tupK_ap, lstK_ap, txs55, prD]
def xyt (t : T) : T := t.rn (nmF3 [120] [121] [116])
theorem txs_fit : txs55 = prs55.map fun q => ((xyt q.1).txt, (xyt q.2.1).txt, q.2.2) := by
  unfold txs55
  decide +kernel
def inB (w : Wd) : Bool := w.all fun x => decide (x ∈ b5)
theorem prs_small : (prs55.all fun q => inB q.1.ws && inB q.2.1.ws && decide (q.1.ws.length ≤ 10 ∧ q.2.1.ws.length ≤ 10 ∧ (xyt q.1).txt.length ≤ 100 ∧ (xyt q.2.1).txt.length ≤ 100) && q.2.2.all fun x => decide (x ∈ subs)) = true := by decide +kernel
theorem inB_mem {w : Wd} (h : inB w = true) : ∀ x, x ∈ w → x ∈ b5 := fun x hx => of_decide_eq_true (List.all_eq_true.mp h x hx)
theorem b5_ok : ∀ w, w ∈ b5 → okW w := by unfold okW; decide +kernel
theorem ok_b5 : ∀ t : T, (∀ w, w ∈ t.ws → w ∈ b5) → t.ok
  | .leaf w, h => b5_ok w (h w (by simp [T.ws]))
  | .node l r, h => ⟨ok_b5 l fun w hw => h w (by simp [T.ws, hw]), ok_b5 r fun w hw => h w (by simp [T.ws, hw])⟩
theorem rn_len (f : Lr → Lr) : ∀ t : T, (t.rn f).ws.length = t.ws.length
  | .leaf w => rfl
  | .node l r => by show ((l.rn f).ws ++ (r.rn f).ws).length = (l.ws ++ r.ws).length; rw [List.length_append, List.length_append, rn_len f l, rn_len f r]
def menu6 : List Lr := [sL "a", sL "b", sL "x", sL "y", sL "ab", sL "zz"]
def good3 (a b c : Lr) : Bool := okN a b c && decide (a ≠ b ∧ a ≠ c ∧ b ≠ c) && [a, b, c].all fun w => decide (1 ≤ w.length ∧ w.length ≤ 6 ∧ w ≠ [101] ∧ w ≠ [122]) && w.all fun d => decide (97 ≤ d ∧ d ≤ 122)
def goodM (i j k : Nat) : Bool := match menu6[i]?, (menu6.eraseIdx i)[j]?, ((menu6.eraseIdx i).eraseIdx j)[k]? with
  | some a, some b, some c => good3 a b c
  | _, _, _ => false
theorem good_all : ∀ i, i < 6 → ∀ j, j < 5 → ∀ k, k < 4 → goodM i j k = true := by decide +kernel
theorem good_is {i j k : Nat} (h : goodM i j k = true) : ∃ a b c, menu6[i]? = some a ∧ (menu6.eraseIdx i)[j]? = some b ∧ ((menu6.eraseIdx i).eraseIdx j)[k]? = some c ∧ good3 a b c = true := by
  unfold goodM at h
  split at h
  · rename_i a b c h1 h2 h3; exact ⟨a, b, c, h1, h2, h3, h⟩
  · cases h
theorem good3_ok {a b c : Lr} (h : good3 a b c = true) : okN a b c = true ∧ Nm3 a b c ∧ low a ∧ low b ∧ low c := by
  unfold good3 at h
  simp only [Bool.and_eq_true, decide_eq_true_eq, List.all_cons, List.all_nil, Bool.and_true, List.all_eq_true] at h
  obtain ⟨⟨h1, h2⟩, ⟨⟨a1, a2, a3, a4⟩, a5⟩, ⟨⟨b1, b2, b3, b4⟩, b5'⟩, ⟨c1, c2, c3, c4⟩, c5⟩ := h
  refine ⟨h1, ⟨⟨⟨a1, a2, a5⟩, ⟨b1, b2, b5'⟩, ⟨c1, c2, c5⟩⟩, h2, ⟨a3, b3, c3⟩, ⟨a4, b4, c4⟩⟩, fun d hd => ?_, fun d hd => ?_, fun d hd => ?_⟩
  · have := a5 d hd; omega
  · have := b5' d hd; omega
  · have := c5 d hd; omega
theorem goN_step {me : ME} {ik : Nat} {k : List (List Nat) → MST} {r j : Nat} {ws ns : List (List Nat)} {sd : SD} {M M1 : MS} {n : Nat} {w : Lr} (h : me (sd.set ik (some (.int (j : Nat)))) M = .ok (.int (n : Nat)) M1) (hw : ws[n]? = some w) :
    goN me ik k (r + 1) j ws ns sd M = goN me ik k r (j + 1) (ws.eraseIdx n) (ns ++ [w]) (sd.set ik (some (.int (j : Nat)))) M1 := by
  conv => lhs; unfold goN
  rw [h, SRes.ofE_ok]
  dsimp only
  rw [if_pos (by omega), Int.toNat_natCast, hw]
theorem named_run {kr : List Nat → List Nat → List Nat → MST} {o0 o1 : Option D} {q : Nat} {M : MS} {d0 d1 d2 : Nat} (i0 : ixD (.cell q) (.int ((0 : Nat) : Int)) M = .ok (.int (d0 : Nat)) M) (i1 : ixD (.cell q) (.int ((1 : Nat) : Int)) M = .ok (.int (d1 : Nat)) M) (i2 : ixD (.cell q) (.int ((2 : Nat) : Int)) M = .ok (.int (d2 : Nat)) M)
    (l0 : d0 < 6) (l1 : d1 < 5) (l2 : d2 < 4) : ∃ w0 w1 w2, Nm3 w0 w1 w2 ∧ low w0 ∧ low w1 ∧ low w2 ∧
      namedS 3 4 5 [sL "a", sL "b", sL "x", sL "y", sL "ab", sL "zz"] (binE ixD (nameE 2) (nameE 5)) kr [o0, o1, some (.cell q), none, none, none, none, none, none, none, none, none] M = kr w0 w1 w2 [o0, o1, some (.cell q), none, none, some (.int ((2 : Nat) : Int)), none, none, none, none, none, none] M := by
  obtain ⟨a, b, c, h1, h2, h3, g⟩ := good_is (good_all d0 l0 d1 l1 d2 l2)
  obtain ⟨ok, nm, la, lb, lc⟩ := good3_ok g
  refine ⟨a, b, c, nm, la, lb, lc, ?_⟩
  have key : ∀ (j n : Nat) (o5 : Option D), ixD (.cell q) (.int (j : Nat)) M = .ok (.int (n : Nat)) M → binE ixD (nameE 2) (nameE 5) ([o0, o1, some (.cell q), none, none, o5, none, none, none, none, none, none].set 5 (some (.int (j : Nat)))) M = .ok (.int (n : Nat)) M := fun j n o5 h => by
    show binE ixD (nameE 2) (nameE 5) [o0, o1, some (.cell q), none, none, some (.int (j : Nat)), none, none, none, none, none, none] M = _
    simp [h]
  show goN _ 5 (endK kr) 3 0 menu6 [] [o0, o1, some (.cell q), none, none, none, none, none, none, none, none, none] M = _
  rw [goN_step (key 0 d0 none i0) h1]
  show goN _ 5 (endK kr) 2 1 _ _ [o0, o1, some (.cell q), none, none, some (.int ((0 : Nat) : Int)), none, none, none, none, none, none] M = _
  rw [goN_step (key 1 d1 _ i1) h2]
  show goN _ 5 (endK kr) 1 2 _ _ [o0, o1, some (.cell q), none, none, some (.int ((1 : Nat) : Int)), none, none, none, none, none, none] M = _
  rw [goN_step (key 2 d2 _ i2) h3]
  show (if okN a b c = true then kr a b c else stuckS) _ M = _
  rw [if_pos ok]
  rfl
theorem eq_test {M : MS} {sd : SD} {neg : Bool} {a b : ME} {x y : Int} (h1 : a sd M = .ok (.int x) M) (h2 : b sd M = .ok (.int y) M) : valB (binE (eqD neg) a b) sd M = .ok ((x == y) != neg) M := by
  rw [valB_ap, binE_ap, h1, Res.bind_ok, binK_ap, h2, Res.bind_ok, binK2_ap, eqD_int]
  rfl
theorem bin_at {M : MS} {sd : SD} {a b : ME} {o : D → D → MS → Res D} {x y : D} (h1 : a sd M = .ok x M) (h2 : b sd M = .ok y M) : binE o a b sd M = o x y M := by
  rw [binE_ap, h1, Res.bind_ok, binK_ap, h2, Res.bind_ok, binK2_ap]
theorem callE_at {n : Nat} {F : FM} {ma : MA} {sd : SD} {M M1 : MS} {ds : List D} (h : ma sd M = .ok ds M1) (hl : ds.length = n) : callE n F (· ++ []) ma sd M = F ds M1 := by
  have e : ds ++ [] = ds := List.append_nil ds
  rw [callE_ap, h, Res.bind_ok, callK_ap (g := fun x => x ++ []) (ds := ds) (n := n) (by rw [e]; exact hl), e]
theorem one_arg {M M' : MS} {sd : SD} {a : ME} {x : D} (h : a sd M = .ok x M') : (consA a nilA) sd M = .ok [x] M' := by
  rw [consA_ap, h, Res.bind_ok, consK_ap, nilA_ap]
  rfl
theorem cons_arg {M M' M2 : MS} {sd : SD} {a : ME} {ma : MA} {x : D} {ds : List D} (h : a sd M = .ok x M') (h2 : ma sd M' = .ok ds M2) : (consA a ma) sd M = .ok (x :: ds) M2 := by
  rw [consA_ap, h, Res.bind_ok, consK_ap, h2]
  rfl
theorem lc_gen {α : Type} {g f : α → D} {xs : List α} {mi : ME} {i : Nat} {te : ME} {sd : SD} {M : MS} (hl : xs.length ≤ 1000) (hm : mi sd M = .ok (.lst (xs.map g)) M) (h : ∀ x, x ∈ xs → te ((wipeD sd [i]).set i (some (g x))) M = .ok (f x) M) :
    lcE (anyI mi) (nameG i) yesB te [i] sd M = .ok (.lst (xs.map f)) M := by
  have e : itK (.lst (xs.map g)) M = .ok ⟨xs.map g, fun _ => True⟩ M := rfl
  rw [lcE_ap, anyI_ap, hm, Res.bind_ok, e, Res.bind_ok, lcK_ap]
  dsimp only
  rw [lc_map (f := f) (by omega) h]
  rfl
theorem leastE {M : MS} {sd : SD} {m : ME} {x : List Lr} (hl : x.length ≤ 1000) (hx : ∀ y, y ∈ x → y.length ≤ 1000) (hm : m sd M = .ok (fD x) M) : methE "Family" "least" 1 F_Family_least (· ++ []) m nilA sd M = .ok (.lst ((leastB x).map rD)) M := by
  have c : (["members"] : List String).contains "least" = false := by decide
  rw [methE_ap, hm, Res.bind_ok, methK_obj c, nilA_ap, Res.bind_ok]
  exact (methK2_ap (n := 1) (F := F_Family_least) (g := fun z => z ++ []) (d := fD x) (ds := []) rfl).trans (fleast_run hl hx)
theorem subs_okC : ∀ x, x ∈ subs → okC x := fun x hx c hc => by
  have : ∀ x, x ∈ subs → ∀ c, c ∈ x → c < 1114112 := by decide +kernel
  exact this x hx c hc
theorem flip_b5 : ∀ t : T, (∀ w, w ∈ t.ws → w ∈ b5) → ∀ w, w ∈ t.flip.ws → w ∈ b5
  | .leaf w, h => h
  | .node l r, h => fun w hw => by
    have hw : w ∈ r.flip.ws ++ l.flip.ws := hw
    rcases List.mem_append.mp hw with z | z
    · exact flip_b5 r (fun w hw => h w (by simp [T.ws, hw])) w z
    · exact flip_b5 l (fun w hw => h w (by simp [T.ws, hw])) w z
theorem wflip_sm {M : MS} {t : T} (h : Sm t) : F_Way_flipped [t.w] M = .ok t.flip.w M := wflip_run (M := M) 30 t h.1 (by have := t.depth_lt; have := h.2; omega) (by have := t.depth_lt; have := h.2; omega) (by have := h.2; omega)
section
variable {M : MS} {o0 o1 o2 o5 o6 o7 o10 o11 : Option D}
/-- the slots at the law's end -/
abbrev SE (o0 o1 o2 o5 o6 o7 : Option D) (L : List Lr) (x y : D) (o10 o11 : Option D) : SD := [o0, o1, o2, none, none, o5, o6, o7, some (.lst (L.map D.str)), some (.lst [x, y]), o10, o11]
theorem endq_run (h0 : M[0]? = some (.tab 0 "Rules" "every")) {a b : T} (sa : Sm a) (sb : Sm b) {L : List Lr} (hL : leastB (needT a b) = L) (hs : ∀ x, x ∈ L → x ∈ subs) :
    retS (binE (eqD false) (lcE (anyI (methE "Family" "least" 1 F_Family_least (· ++ []) (callE 2 F_needed (· ++ []) (consA (binE ixD (nameE 9) (constE (.int 0))) (consA (binE ixD (nameE 9) (constE (.int 1))) nilA))) nilA)) (nameG 11) yesB e_law_2 [11]) (nameE 8)) (SE o0 o1 o2 o5 o6 o7 L a.w b.w o10 o11) M = .ret (.bl true) M := by
  have i0 : binE ixD (nameE 9) (constE (.int 0)) (SE o0 o1 o2 o5 o6 o7 L a.w b.w o10 o11) M = .ok a.w M := (bin_at (x := .lst [a.w, b.w]) (y := .int 0) rfl rfl).trans (ixD_lst (atI_of (j := 0) rfl))
  have i1 : binE ixD (nameE 9) (constE (.int 1)) (SE o0 o1 o2 o5 o6 o7 L a.w b.w o10 o11) M = .ok b.w M := (bin_at (x := .lst [a.w, b.w]) (y := .int 1) rfl rfl).trans (ixD_lst (atI_of (j := 1) rfl))
  have nd : callE 2 F_needed (· ++ []) (consA (binE ixD (nameE 9) (constE (.int 0))) (consA (binE ixD (nameE 9) (constE (.int 1))) nilA)) (SE o0 o1 o2 o5 o6 o7 L a.w b.w o10 o11) M = .ok (fD (needT a b)) M := by
    rw [callE_at (n := 2) (cons_arg i0 (one_arg i1)) rfl]
    exact needed_run h0 sa sb
  have ls := leastE (by have := need_len a b; omega) need_le nd
  rw [hL] at ls
  have ll : L.length ≤ 32 := by rw [← hL]; exact Nat.le_trans (List.length_filter_le _ _) (need_len a b)
  have lc := lc_gen (g := rD) (f := D.str) (xs := L) (i := 11) (te := e_law_2) (by omega) ls fun x hx => by
    unfold e_law_2
    rw [appE_ap, one_arg (x := rD x) (M' := M) rfl, Res.bind_ok]
    exact strO_obj rstr_run
  have pl : plN 7 (.lst (L.map D.str)) := by
    rw [plN_lst]
    exact plNs_map fun x hx => by rw [plN_str]; exact subs_okC x (hs x hx)
  rw [retS_ap, bin_at (y := .lst (L.map D.str)) lc rfl, eqD_refl pl]
  rfl
theorem r_run (h0 : M[0]? = some (.tab 0 "Rules" "every")) {p : Nat} {k1 k2 : Int} (i1 : ixD (.cell p) (.int 1) M = .ok (.int k1) M) (i2 : ixD (.cell p) (.int 2) M = .ok (.int k2) M) {a b : T} (sa : Sm a) (sb : Sm b) {L : List Lr} (hs : ∀ x, x ∈ L → x ∈ subs)
    (c1 : leastB (needT a b) = L) (c2 : leastB (needT b a) = L) (c3 : leastB (needT a.flip b.flip) = L) (c4 : leastB (needT b.flip a.flip) = L) : r_law (SE o0 (some (.cell p)) o2 o5 o6 o7 L a.w b.w none none) M = .ret (.bl true) M := by
  unfold r_law
  have t1 : ∀ (x y : D) (z : Option D), valB (binE (eqD false) (binE ixD (nameE 1) (constE (.int 1))) (constE (.int 1))) (SE o0 (some (.cell p)) o2 o5 o6 o7 L x y z none) M = .ok ((k1 == 1) != false) M := fun x y z => eq_test ((bin_at (x := .cell p) (y := .int 1) rfl rfl).trans i1) rfl
  have t2 : ∀ (x y : D) (z : Option D), valB (binE (eqD false) (binE ixD (nameE 1) (constE (.int 2))) (constE (.int 1))) (SE o0 (some (.cell p)) o2 o5 o6 o7 L x y z none) M = .ok ((k2 == 1) != false) M := fun x y z => eq_test ((bin_at (x := .cell p) (y := .int 2) rfl rfl).trans i2) rfl
  have z1 : ∃ u v : T, Sm u ∧ Sm v ∧ leastB (needT u v) = L ∧ leastB (needT u.flip v.flip) = L ∧
      (ifS (valB (binE (eqD false) (binE ixD (nameE 1) (constE (.int 1))) (constE (.int 1)))) (setS 9 (revAE (nameE 9))) passS) (SE o0 (some (.cell p)) o2 o5 o6 o7 L a.w b.w none none) M = .nx (SE o0 (some (.cell p)) o2 o5 o6 o7 L u.w v.w none none) M := by
    by_cases hk : k1 = 1
    · refine ⟨b, a, sb, sa, c2, c4, ?_⟩
      rw [ifS_ap, t1, hk]
      rfl
    · refine ⟨a, b, sa, sb, c1, c3, ?_⟩
      rw [ifS_ap, t1, show (k1 == 1) = false from beq_eq_false_iff_ne.mpr hk]
      rfl
  obtain ⟨u, v, su, sv, c5, c6, z1⟩ := z1
  rw [seqS_ap, z1, SRes.seq_nx, seqS_ap]
  have fl : ∀ w : T, Sm w → Sm w.flip := fun w h => ⟨T.flip_ok w h.1, by rw [T.flip_len]; exact h.2⟩
  by_cases hk : k2 = 1
  · have lc := lc_gen (g := T.w) (f := fun t => t.flip.w) (xs := [u, v]) (i := 10) (te := e_law_1) (mi := nameE 9) (sd := SE o0 (some (.cell p)) o2 o5 o6 o7 L u.w v.w none none) (M := M) (by simp) rfl fun t ht => by
      have st : Sm t := by
        rcases List.mem_cons.mp ht with rfl | ht
        · exact su
        · rw [List.mem_singleton.mp ht]; exact sv
      unfold e_law_1
      rw [methE_ap, show nameE 10 _ M = .ok t.w M from rfl, Res.bind_ok, methK_W (by decide), nilA_ap, Res.bind_ok]
      exact (methK2_ap (n := 1) (F := F_Way_flipped) (g := fun z => z ++ []) (d := t.w) (ds := []) rfl).trans (wflip_sm st)
    have z2 : (ifS (valB (binE (eqD false) (binE ixD (nameE 1) (constE (.int 2))) (constE (.int 1)))) (setS 9 (lcE (anyI (nameE 9)) (nameG 10) yesB e_law_1 [10])) passS) (SE o0 (some (.cell p)) o2 o5 o6 o7 L u.w v.w none none) M = .nx (SE o0 (some (.cell p)) o2 o5 o6 o7 L u.flip.w v.flip.w none none) M := by
      rw [ifS_ap, t2, hk]
      show setS 9 _ _ M = _
      rw [setS_ap, lc]
      rfl
    rw [z2, SRes.seq_nx]
    exact endq_run h0 (fl u su) (fl v sv) c6 hs
  · have z2 : (ifS (valB (binE (eqD false) (binE ixD (nameE 1) (constE (.int 2))) (constE (.int 1)))) (setS 9 (lcE (anyI (nameE 9)) (nameG 10) yesB e_law_1 [10])) passS) (SE o0 (some (.cell p)) o2 o5 o6 o7 L u.w v.w none none) M = .nx (SE o0 (some (.cell p)) o2 o5 o6 o7 L u.w v.w none none) M := by
      rw [ifS_ap, t2, show (k2 == 1) = false from beq_eq_false_iff_ne.mpr hk]
      rfl
    rw [z2, SRes.seq_nx]
    exact endq_run h0 su sv c5 hs
end
theorem unp3 {M M1 : MS} {sd sd' : SD} {m : ME} {is : List Nat} {d : D} (h : m sd M = .ok d M1) (h2 : tupG is d sd = some sd') : unpS (tupG is) m sd M = .nx sd' M1 := by
  rw [unpS_ap, h, SRes.ofE_ok]
  exact unpK_ap h2
theorem ren_run {M : MS} {sd : SD} {i : Nat} {t : T} {w0 w1 w2 : Lr} (h0 : low w0) (h1 : low w1) (h2 : low w2) (k : ∀ w, w ∈ t.ws → w ∈ b5) (hl : (xyt t).txt.length ≤ 100) (hs : sd[i]? = some (some (.str (xyt t).txt))) : renE i w0 w1 w2 sd M = .ok (.str (t.rn (nmF3 w0 w1 w2)).txt) M := by
  unfold renE
  rw [hs]
  show (if (xyt t).txt.length ≤ 100 then _ else _) = _
  rw [if_pos hl]
  unfold xyt
  rw [ren_text h0 h1 h2 (rn_chars t k), rn_text t k]
theorem k_run {M : MS} (h0 : M[0]? = some (.tab 0 "Rules" "every")) {p n : Nat} {k1 k2 : Int} {o0 o2 o5 : Option D} (hn : n < 16) (i0 : ixD (.cell p) (.int 0) M = .ok (.int (n : Nat)) M) (i1 : ixD (.cell p) (.int 1) M = .ok (.int k1) M) (i2 : ixD (.cell p) (.int 2) M = .ok (.int k2) M)
    {w0 w1 w2 : Lr} (nm : Nm3 w0 w1 w2) (l0 : low w0) (l1 : low w1) (l2 : low w2) : k_law w0 w1 w2 [o0, some (.cell p), o2, none, none, o5, none, none, none, none, none, none] M = .ret (.bl true) M := by
  have hn' : n < prs55.length := hn
  obtain ⟨q, hq⟩ : ∃ q, prs55[n]? = some q := ⟨_, List.getElem?_eq_getElem hn'⟩
  have hm := List.mem_of_getElem? hq
  have sm := List.all_eq_true.mp prs_small q hm
  have ck := List.all_eq_true.mp chk55 q hm
  obtain ⟨A, B, L⟩ := q
  simp only [Bool.and_eq_true, decide_eq_true_eq, beq_iff_eq] at sm ck
  obtain ⟨⟨⟨bA, bB⟩, la, lb, lx, ly⟩, ls⟩ := sm
  obtain ⟨⟨⟨c1, c2⟩, c3⟩, c4⟩ := ck
  have bA := inB_mem bA
  have bB := inB_mem bB
  have hs : ∀ x, x ∈ L → x ∈ subs := fun x hx => of_decide_eq_true (List.all_eq_true.mp ls x hx)
  have hx : (txs55.map prD)[n]? = some (prD ((xyt A).txt, (xyt B).txt, L)) := by
    rw [txs_fit, List.getElem?_map, List.getElem?_map, hq]
    rfl
  unfold k_law
  have e0 : binE ixD (callE 0 F_l_pairs (· ++ []) nilA) (binE ixD (nameE 1) (constE (.int 0))) [o0, some (.cell p), o2, none, none, o5, none, none, none, none, none, none] M = .ok (prD ((xyt A).txt, (xyt B).txt, L)) M := by
    have a1 : callE 0 F_l_pairs (· ++ []) nilA [o0, some (.cell p), o2, none, none, o5, none, none, none, none, none, none] M = .ok (.lst (txs55.map prD)) M := (callE_at (n := 0) (ds := []) rfl rfl).trans pairs_run
    have a2 : binE ixD (nameE 1) (constE (.int 0)) [o0, some (.cell p), o2, none, none, o5, none, none, none, none, none, none] M = .ok (.int (n : Nat)) M := (bin_at (x := .cell p) (y := .int 0) rfl rfl).trans i0
    rw [bin_at a1 a2]
    exact ixD_lst (atI_of hx)
  have z0 := unp3 (is := [6, 7, 8]) (sd' := [o0, some (.cell p), o2, none, none, o5, some (.str (xyt A).txt), some (.str (xyt B).txt), some (.lst (L.map D.str)), none, none, none]) e0 rfl
  rw [seqS_ap, z0, SRes.seq_nx]
  have sa : Sm (A.rn (nmF3 w0 w1 w2)) := ⟨T.rn_ok (nmF3_ok nm) A (ok_b5 A bA), by rw [rn_len]; exact la⟩
  have sb : Sm (B.rn (nmF3 w0 w1 w2)) := ⟨T.rn_ok (nmF3_ok nm) B (ok_b5 B bB), by rw [rn_len]; exact lb⟩
  have ea : callE 1 (mkT "Way" F_WayD_initD) (· ++ []) (consA (renE 6 w0 w1 w2) nilA) [o0, some (.cell p), o2, none, none, o5, some (.str (xyt A).txt), some (.str (xyt B).txt), some (.lst (L.map D.str)), none, none, none] M = .ok (A.rn (nmF3 w0 w1 w2)).w M :=
    (callE_at (n := 1) (one_arg (ren_run l0 l1 l2 bA lx rfl)) rfl).trans (way_sm sa)
  have eb : callE 1 (mkT "Way" F_WayD_initD) (· ++ []) (consA (renE 7 w0 w1 w2) nilA) [o0, some (.cell p), o2, none, none, o5, some (.str (xyt A).txt), some (.str (xyt B).txt), some (.lst (L.map D.str)), none, none, none] M = .ok (B.rn (nmF3 w0 w1 w2)).w M :=
    (callE_at (n := 1) (one_arg (ren_run l0 l1 l2 bB ly rfl)) rfl).trans (way_sm sb)
  have z1 : setS 9 (lstE (consA (callE 1 (mkT "Way" F_WayD_initD) (· ++ []) (consA (renE 6 w0 w1 w2) nilA)) (consA (callE 1 (mkT "Way" F_WayD_initD) (· ++ []) (consA (renE 7 w0 w1 w2) nilA)) nilA))) [o0, some (.cell p), o2, none, none, o5, some (.str (xyt A).txt), some (.str (xyt B).txt), some (.lst (L.map D.str)), none, none, none] M =
      .nx (SE o0 (some (.cell p)) o2 o5 (some (.str (xyt A).txt)) (some (.str (xyt B).txt)) L (A.rn (nmF3 w0 w1 w2)).w (B.rn (nmF3 w0 w1 w2)).w none none) M := by
    rw [setS_ap, lstE_ap, cons_arg ea (one_arg eb), Res.bind_ok, lstK_ap (by simp)]
    rfl
  rw [seqS_ap, z1, SRes.seq_nx]
  have n1 := need_rn nm (ok_b5 A bA) (ok_b5 B bB) bA bB
  have n2 := need_rn nm (ok_b5 B bB) (ok_b5 A bA) bB bA
  have n3 := need_rn nm (ok_b5 A.flip (flip_b5 A bA)) (ok_b5 B.flip (flip_b5 B bB)) (flip_b5 A bA) (flip_b5 B bB)
  have n4 := need_rn nm (ok_b5 B.flip (flip_b5 B bB)) (ok_b5 A.flip (flip_b5 A bA)) (flip_b5 B bB) (flip_b5 A bA)
  exact r_run h0 i1 i2 sa sb hs (by rw [n1]; exact c1) (by rw [n2]; exact c2) (by rw [T.rn_flip, T.rn_flip, n3]; exact c3) (by rw [T.rn_flip, T.rn_flip, n4]; exact c4)
theorem law_plain (ns : List Int) (hn : ns.length ≤ 63) : ∃ M', F_law [.flst (ns.map D.int)] [.tab 0 "Rules" "every"] = .ok (.bl true) M' := by
  have h0 : ([.tab 0 "Rules" "every"] : MS)[0]? = some (.tab 0 "Rules" "every") := rfl
  generalize ([.tab 0 "Rules" "every"] : MS) = M0 at *
  obtain ⟨c0, e0⟩ := cell_run ns 0 (by omega) M0
  obtain ⟨xs, d0, x0⟩ := draws_run (M := M0) (c := c0) (sizes := [16, 2, 2]) (by decide) (by decide)
  have d0 : F_l_draws [.int c0, .lst [.int 16, .int 2, .int 2]] M0 = .ok (.cell M0.length) (M0 ++ [.lst (xs.map D.int)]) := d0
  have h1 := get_app (L := [MO.lst (xs.map D.int)]) h0
  have g1 : (M0 ++ [MO.lst (xs.map D.int)])[M0.length]? = some (.lst (xs.map D.int)) := get_last
  generalize M0.length = p at *
  generalize M0 ++ [MO.lst (xs.map D.int)] = M1 at *
  obtain ⟨c1, e1⟩ := cell_run ns 1 (by omega) M1
  obtain ⟨ys, d1, y0⟩ := draws_run (M := M1) (c := c1) (sizes := [6, 5, 4]) (by decide) (by decide)
  have d1 : F_l_draws [.int c1, .lst [.int 6, .int 5, .int 4]] M1 = .ok (.cell M1.length) (M1 ++ [.lst (ys.map D.int)]) := d1
  have h2 := get_app (L := [MO.lst (ys.map D.int)]) h1
  have g2 := get_app (L := [MO.lst (ys.map D.int)]) g1
  have g3 : (M1 ++ [MO.lst (ys.map D.int)])[M1.length]? = some (.lst (ys.map D.int)) := get_last
  generalize M1.length = q at *
  generalize M1 ++ [MO.lst (ys.map D.int)] = M2 at *
  obtain ⟨a0, _, i0, a1, a2⟩ := x0.ix g2 0 16 rfl
  obtain ⟨b0, _, j0, b1, b2⟩ := x0.ix g2 1 2 rfl
  obtain ⟨f0, _, k0, f1, f2⟩ := x0.ix g2 2 2 rfl
  obtain ⟨u0, _, v0, u1, u2⟩ := y0.ix g3 0 6 rfl
  obtain ⟨u3, _, v1, u4, u5⟩ := y0.ix g3 1 5 rfl
  obtain ⟨u6, _, v2, u7, u8⟩ := y0.ix g3 2 4 rfl
  obtain ⟨n, rfl⟩ : ∃ n : Nat, a0 = (n : Int) := ⟨a0.toNat, by omega⟩
  obtain ⟨r0, rfl⟩ : ∃ n : Nat, u0 = (n : Int) := ⟨u0.toNat, by omega⟩
  obtain ⟨r1, rfl⟩ : ∃ n : Nat, u3 = (n : Int) := ⟨u3.toNat, by omega⟩
  obtain ⟨r2, rfl⟩ : ∃ n : Nat, u6 = (n : Int) := ⟨u6.toNat, by omega⟩
  refine ⟨M2, ?_⟩
  unfold F_law
  rw [runD_ap, show startD 12 [D.flst (ns.map D.int)] = [some (.flst (ns.map D.int)), none, none, none, none, none, none, none, none, none, none, none] from rfl]
  unfold m_law
  have z0 : (setS 1 (callE 2 F_l_draws (· ++ []) (consA (callE 2 F_l_cell (· ++ []) (consA (nameE 0) (consA (constE (.int 0)) nilA))) (consA (lstE (consA (constE (.int 16)) (consA (constE (.int 2)) (consA (constE (.int 2)) nilA)))) nilA)))) [some (.flst (ns.map D.int)), none, none, none, none, none, none, none, none, none, none, none] M0 = .nx [some (.flst (ns.map D.int)), some (.cell p), none, none, none, none, none, none, none, none, none, none] M1 := by
    generalize ns.map D.int = nd at *
    simp [callK_ap, e0, lstK_ap, d0]
  have z1 : (setS 2 (callE 2 F_l_draws (· ++ []) (consA (callE 2 F_l_cell (· ++ []) (consA (nameE 0) (consA (constE (.int 1)) nilA))) (consA (lstE (consA (constE (.int 6)) (consA (constE (.int 5)) (consA (constE (.int 4)) nilA)))) nilA)))) [some (.flst (ns.map D.int)), some (.cell p), none, none, none, none, none, none, none, none, none, none] M1 = .nx [some (.flst (ns.map D.int)), some (.cell p), some (.cell q), none, none, none, none, none, none, none, none, none] M2 := by
    generalize ns.map D.int = nd at *
    simp [callK_ap, e1, lstK_ap, d1]
  obtain ⟨w0, w1, w2, nm, l0, l1, l2, z2⟩ := named_run (kr := k_law) (o0 := some (.flst (ns.map D.int))) (o1 := some (.cell p)) v0 v1 v2 (by omega) (by omega) (by omega)
  have kr := k_run (o0 := some (.flst (ns.map D.int))) (o2 := some (.cell q)) (o5 := some (.int ((2 : Nat) : Int))) h2 (n := n) (by omega) i0 j0 k0 nm l0 l1 l2
  rw [seqS_ap, z0, SRes.seq_nx, seqS_ap, z1, SRes.seq_nx, z2, kr]
  rfl
end Lk55
namespace Lk55
open PySem PySem.Spec L2 DL
open PyProof.Rows hiding St
set_option maxHeartbeats 0 in
theorem facts {l : PySem.W.OpenLaw} {w : World} {K : PySem.W.Frag} {h : Heap} {mg : Str → Option Value} {fa : Addr} (X : K.In h) (G : h.Ns mainGlobals mg) (hfa : mg "law" = some (.ref fa))
    {c_BadRule : Addr}
    {c_Family : Addr}
    {c_NoWay : Addr}
    {c_Rules : Addr}
    {c_Way : Addr}
    {c_WayError : Addr}
    {f_l_draws : Addr}
    {od_l_draws an_l_draws : Option Addr}
    {sl_l_draws : Array (Option Value)}
    {oc_l_draws kV_l_draws dc_l_draws pm_l_draws cd_l_draws ct_l_draws : Value}
    {f_l_cell : Addr}
    {od_l_cell an_l_cell : Option Addr}
    {sl_l_cell : Array (Option Value)}
    {oc_l_cell kV_l_cell dc_l_cell pm_l_cell cd_l_cell ct_l_cell : Value}
    {f_l_pairs : Addr}
    {od_l_pairs an_l_pairs : Option Addr}
    {sl_l_pairs : Array (Option Value)}
    {oc_l_pairs kV_l_pairs dc_l_pairs pm_l_pairs cd_l_pairs ct_l_pairs : Value}
    {f_NoWayD_initD : Addr}
    {od_NoWayD_initD an_NoWayD_initD : Option Addr}
    {sl_NoWayD_initD : Array (Option Value)}
    {oc_NoWayD_initD kV_NoWayD_initD dc_NoWayD_initD pm_NoWayD_initD cd_NoWayD_initD ct_NoWayD_initD : Value}
    {f_expected : Addr}
    {od_expected an_expected : Option Addr}
    {sl_expected : Array (Option Value)}
    {oc_expected kV_expected dc_expected pm_expected cd_expected ct_expected : Value}
    {f_end_of : Addr}
    {od_end_of an_end_of : Option Addr}
    {sl_end_of : Array (Option Value)}
    {oc_end_of kV_end_of dc_end_of pm_end_of cd_end_of ct_end_of : Value}
    {f_WayD_initD : Addr}
    {od_WayD_initD an_WayD_initD : Option Addr}
    {sl_WayD_initD : Array (Option Value)}
    {oc_WayD_initD kV_WayD_initD dc_WayD_initD pm_WayD_initD cd_WayD_initD ct_WayD_initD : Value}
    {f_l_renamed : Addr}
    {od_l_renamed an_l_renamed : Option Addr}
    {sl_l_renamed : Array (Option Value)}
    {oc_l_renamed kV_l_renamed dc_l_renamed pm_l_renamed cd_l_renamed ct_l_renamed : Value}
    {f_WayD_mulD : Addr}
    {od_WayD_mulD an_WayD_mulD : Option Addr}
    {sl_WayD_mulD : Array (Option Value)}
    {oc_WayD_mulD kV_WayD_mulD dc_WayD_mulD pm_WayD_mulD cd_WayD_mulD ct_WayD_mulD : Value}
    {f_Way_flipped : Addr}
    {od_Way_flipped an_Way_flipped : Option Addr}
    {sl_Way_flipped : Array (Option Value)}
    {oc_Way_flipped kV_Way_flipped dc_Way_flipped pm_Way_flipped cd_Way_flipped ct_Way_flipped : Value}
    {f_RulesD_strD : Addr}
    {od_RulesD_strD an_RulesD_strD : Option Addr}
    {sl_RulesD_strD : Array (Option Value)}
    {oc_RulesD_strD kV_RulesD_strD dc_RulesD_strD pm_RulesD_strD cd_RulesD_strD ct_RulesD_strD : Value}
    {f_Rules_within : Addr}
    {od_Rules_within an_Rules_within : Option Addr}
    {sl_Rules_within : Array (Option Value)}
    {oc_Rules_within kV_Rules_within dc_Rules_within pm_Rules_within cd_Rules_within ct_Rules_within : Value}
    {f_RulesD_eqD : Addr}
    {od_RulesD_eqD an_RulesD_eqD : Option Addr}
    {sl_RulesD_eqD : Array (Option Value)}
    {oc_RulesD_eqD kV_RulesD_eqD dc_RulesD_eqD pm_RulesD_eqD cd_RulesD_eqD ct_RulesD_eqD : Value}
    {f_Family_above_another : Addr}
    {od_Family_above_another an_Family_above_another : Option Addr}
    {sl_Family_above_another : Array (Option Value)}
    {oc_Family_above_another kV_Family_above_another dc_Family_above_another pm_Family_above_another cd_Family_above_another ct_Family_above_another : Value}
    {f_Family_least : Addr}
    {od_Family_least an_Family_least : Option Addr}
    {sl_Family_least : Array (Option Value)}
    {oc_Family_least kV_Family_least dc_Family_least pm_Family_least cd_Family_least ct_Family_least : Value}
    {f_BadRuleD_initD : Addr}
    {od_BadRuleD_initD an_BadRuleD_initD : Option Addr}
    {sl_BadRuleD_initD : Array (Option Value)}
    {oc_BadRuleD_initD kV_BadRuleD_initD dc_BadRuleD_initD pm_BadRuleD_initD cd_BadRuleD_initD ct_BadRuleD_initD : Value}
    {f_RulesD_initD : Addr}
    {od_RulesD_initD an_RulesD_initD : Option Addr}
    {sl_RulesD_initD : Array (Option Value)}
    {oc_RulesD_initD kV_RulesD_initD dc_RulesD_initD pm_RulesD_initD cd_RulesD_initD ct_RulesD_initD : Value}
    {T_RulesD_initD : Addr}
    {tk_RulesD_initD_0 : Tok}
    {Toc_RulesD_initD : Value}
    {Tod_RulesD_initD : Option Addr}
    {Tn_RulesD_initD : Nat}
    {Tsl_RulesD_initD : Array (Option Value)}
    {f_Rules_every : Addr}
    {od_Rules_every an_Rules_every : Option Addr}
    {sl_Rules_every : Array (Option Value)}
    {oc_Rules_every kV_Rules_every dc_Rules_every pm_Rules_every ct_Rules_every : Value}
    {K_Rules_every t_Rules_every : Addr}
    {p_Rules_every : Addr}
    {rs_Rules_every : List Value}
    {co_Rules_every : Value}
    {ce_Rules_every : Option Addr}
    {cv_Rules_every : Array Value}
    {cs_Rules_every : Array (Option Value)}
    {f_FamilyD_initD : Addr}
    {od_FamilyD_initD an_FamilyD_initD : Option Addr}
    {sl_FamilyD_initD : Array (Option Value)}
    {oc_FamilyD_initD kV_FamilyD_initD dc_FamilyD_initD pm_FamilyD_initD cd_FamilyD_initD ct_FamilyD_initD : Value}
    {f_RulesD_containsD : Addr}
    {od_RulesD_containsD an_RulesD_containsD : Option Addr}
    {sl_RulesD_containsD : Array (Option Value)}
    {oc_RulesD_containsD kV_RulesD_containsD dc_RulesD_containsD pm_RulesD_containsD cd_RulesD_containsD ct_RulesD_containsD : Value}
    {f_tree_form : Addr}
    {od_tree_form an_tree_form : Option Addr}
    {sl_tree_form : Array (Option Value)}
    {oc_tree_form kV_tree_form dc_tree_form pm_tree_form cd_tree_form ct_tree_form : Value}
    {f_different : Addr}
    {od_different an_different : Option Addr}
    {sl_different : Array (Option Value)}
    {oc_different kV_different dc_different pm_different cd_different ct_different : Value}
    {f_beginning : Addr}
    {od_beginning an_beginning : Option Addr}
    {sl_beginning : Array (Option Value)}
    {oc_beginning kV_beginning dc_beginning pm_beginning cd_beginning ct_beginning : Value}
    {f_ending : Addr}
    {od_ending an_ending : Option Addr}
    {sl_ending : Array (Option Value)}
    {oc_ending kV_ending dc_ending pm_ending cd_ending ct_ending : Value}
    {f_merged : Addr}
    {od_merged an_merged : Option Addr}
    {sl_merged : Array (Option Value)}
    {oc_merged kV_merged dc_merged pm_merged cd_merged ct_merged : Value}
    {f_band_form : Addr}
    {od_band_form an_band_form : Option Addr}
    {sl_band_form : Array (Option Value)}
    {oc_band_form kV_band_form dc_band_form pm_band_form cd_band_form ct_band_form : Value}
    {f_word_form : Addr}
    {od_word_form an_word_form : Option Addr}
    {sl_word_form : Array (Option Value)}
    {oc_word_form kV_word_form dc_word_form pm_word_form cd_word_form ct_word_form : Value}
    {f_plain : Addr}
    {od_plain an_plain : Option Addr}
    {sl_plain : Array (Option Value)}
    {oc_plain dc_plain pm_plain cd_plain ct_plain : Value}
    {f_alike : Addr}
    {od_alike an_alike : Option Addr}
    {sl_alike : Array (Option Value)}
    {oc_alike dc_alike pm_alike cd_alike ct_alike : Value}
    {f_needed : Addr}
    {od_needed an_needed : Option Addr}
    {sl_needed : Array (Option Value)}
    {oc_needed kV_needed dc_needed pm_needed cd_needed ct_needed : Value}
    {f_law : Addr}
    {od_law an_law : Option Addr}
    {sl_law : Array (Option Value)}
    {oc_law kV_law dc_law pm_law cd_law ct_law : Value}
    {Xnm_BadRule Xq_BadRule : Str}
    {XN_BadRule : Addr}
    {Xbs_BadRule Xbm_BadRule Xsub_BadRule : List Value}
    {Xsn_BadRule : List Str}
    {Xab_BadRule : Bool}
    {Xcol_BadRule : Option Bool}
    {Xdd_BadRule : Option Addr}
    {X0_BadRule X1_BadRule X2_BadRule X3_BadRule X5_BadRule : Option Value}
    {Xnm_NoWay Xq_NoWay : Str}
    {XN_NoWay : Addr}
    {Xbs_NoWay Xbm_NoWay Xsub_NoWay : List Value}
    {Xsn_NoWay : List Str}
    {Xab_NoWay : Bool}
    {Xcol_NoWay : Option Bool}
    {Xdd_NoWay : Option Addr}
    {X0_NoWay X1_NoWay X2_NoWay X3_NoWay X5_NoWay : Option Value}
    {tk_LETTERS_rules : Tok}
    {tk_LETTERS_ways : Tok}
    {tk_LONGEST_NAME : Tok}
    (aC_BadRule : PySem.W.nsIn K mainGlobals "BadRule" = some (some (.ref c_BadRule)))
    (aC_Family : PySem.W.nsIn K mainGlobals "Family" = some (some (.ref c_Family)))
    (aC_NoWay : PySem.W.nsIn K mainGlobals "NoWay" = some (some (.ref c_NoWay)))
    (aC_Rules : PySem.W.nsIn K mainGlobals "Rules" = some (some (.ref c_Rules)))
    (aC_Way : PySem.W.nsIn K mainGlobals "Way" = some (some (.ref c_Way)))
    (aC_WayError : PySem.W.nsIn K mainGlobals "WayError" = some (some (.ref c_WayError)))
    (a_l_draws : PySem.W.nsIn K mainGlobals "_law_draws" = some (some (.ref f_l_draws)))
    (l_l_draws : K.lookup f_l_draws = some ⟨oc_l_draws, od_l_draws, .func (PySem.W.fnOf "_law_draws" "_law_draws" (defArgs s_l_draws) (defBody s_l_draws) (defScope s_l_draws) .none kV_l_draws dc_l_draws pm_l_draws an_l_draws cd_l_draws ct_l_draws), sl_l_draws⟩)
    (c_l_draws : PySem.W.codeIn K cd_l_draws "_law_draws" = true)
    (k_l_draws : PySem.W.keepIn K (.ref f_l_draws) = true)
    (a_l_cell : PySem.W.nsIn K mainGlobals "_law_cell" = some (some (.ref f_l_cell)))
    (l_l_cell : K.lookup f_l_cell = some ⟨oc_l_cell, od_l_cell, .func (PySem.W.fnOf "_law_cell" "_law_cell" (defArgs s_l_cell) (defBody s_l_cell) (defScope s_l_cell) .none kV_l_cell dc_l_cell pm_l_cell an_l_cell cd_l_cell ct_l_cell), sl_l_cell⟩)
    (c_l_cell : PySem.W.codeIn K cd_l_cell "_law_cell" = true)
    (k_l_cell : PySem.W.keepIn K (.ref f_l_cell) = true)
    (a_l_pairs : PySem.W.nsIn K mainGlobals "_law_pairs" = some (some (.ref f_l_pairs)))
    (l_l_pairs : K.lookup f_l_pairs = some ⟨oc_l_pairs, od_l_pairs, .func (PySem.W.fnOf "_law_pairs" "_law_pairs" (defArgs s_l_pairs) (defBody s_l_pairs) (defScope s_l_pairs) .none kV_l_pairs dc_l_pairs pm_l_pairs an_l_pairs cd_l_pairs ct_l_pairs), sl_l_pairs⟩)
    (c_l_pairs : PySem.W.codeIn K cd_l_pairs "_law_pairs" = true)
    (k_l_pairs : PySem.W.keepIn K (.ref f_l_pairs) = true)
    (a_NoWayD_initD : PySem.W.findIn K (.ref c_NoWay) "__init__" = some (some (.ref f_NoWayD_initD)))
    (i_NoWayD_initD : PySem.W.isFn K (.ref f_NoWayD_initD) = true)
    (l_NoWayD_initD : K.lookup f_NoWayD_initD = some ⟨oc_NoWayD_initD, od_NoWayD_initD, .func (PySem.W.fnOf "__init__" "NoWay.__init__" (defArgs s_NoWayD_initD) (defBody s_NoWayD_initD) (defScope s_NoWayD_initD) .none kV_NoWayD_initD dc_NoWayD_initD pm_NoWayD_initD an_NoWayD_initD cd_NoWayD_initD ct_NoWayD_initD), sl_NoWayD_initD⟩)
    (c_NoWayD_initD : PySem.W.codeIn K cd_NoWayD_initD "NoWay.__init__" = true)
    (k_NoWayD_initD : PySem.W.keepIn K (.ref f_NoWayD_initD) = true)
    (a_expected : PySem.W.nsIn K mainGlobals "expected" = some (some (.ref f_expected)))
    (l_expected : K.lookup f_expected = some ⟨oc_expected, od_expected, .func (PySem.W.fnOf "expected" "expected" (defArgs s_expected) (defBody s_expected) (defScope s_expected) .none kV_expected dc_expected pm_expected an_expected cd_expected ct_expected), sl_expected⟩)
    (c_expected : PySem.W.codeIn K cd_expected "expected" = true)
    (k_expected : PySem.W.keepIn K (.ref f_expected) = true)
    (a_end_of : PySem.W.nsIn K mainGlobals "end_of" = some (some (.ref f_end_of)))
    (l_end_of : K.lookup f_end_of = some ⟨oc_end_of, od_end_of, .func (PySem.W.fnOf "end_of" "end_of" (defArgs s_end_of) (defBody s_end_of) (defScope s_end_of) .none kV_end_of dc_end_of pm_end_of an_end_of cd_end_of ct_end_of), sl_end_of⟩)
    (c_end_of : PySem.W.codeIn K cd_end_of "end_of" = true)
    (k_end_of : PySem.W.keepIn K (.ref f_end_of) = true)
    (a_WayD_initD : PySem.W.findIn K (.ref c_Way) "__init__" = some (some (.ref f_WayD_initD)))
    (i_WayD_initD : PySem.W.isFn K (.ref f_WayD_initD) = true)
    (l_WayD_initD : K.lookup f_WayD_initD = some ⟨oc_WayD_initD, od_WayD_initD, .func (PySem.W.fnOf "__init__" "Way.__init__" (defArgs s_WayD_initD) (defBody s_WayD_initD) (defScope s_WayD_initD) .none kV_WayD_initD dc_WayD_initD pm_WayD_initD an_WayD_initD cd_WayD_initD ct_WayD_initD), sl_WayD_initD⟩)
    (c_WayD_initD : PySem.W.codeIn K cd_WayD_initD "Way.__init__" = true)
    (k_WayD_initD : PySem.W.keepIn K (.ref f_WayD_initD) = true)
    (a_l_renamed : PySem.W.nsIn K mainGlobals "_law_renamed" = some (some (.ref f_l_renamed)))
    (l_l_renamed : K.lookup f_l_renamed = some ⟨oc_l_renamed, od_l_renamed, .func (PySem.W.fnOf "_law_renamed" "_law_renamed" (defArgs s_l_renamed) (defBody s_l_renamed) (defScope s_l_renamed) .none kV_l_renamed dc_l_renamed pm_l_renamed an_l_renamed cd_l_renamed ct_l_renamed), sl_l_renamed⟩)
    (c_l_renamed : PySem.W.codeIn K cd_l_renamed "_law_renamed" = true)
    (k_l_renamed : PySem.W.keepIn K (.ref f_l_renamed) = true)
    (a_WayD_mulD : PySem.W.findIn K (.ref c_Way) "__mul__" = some (some (.ref f_WayD_mulD)))
    (i_WayD_mulD : PySem.W.isFn K (.ref f_WayD_mulD) = true)
    (l_WayD_mulD : K.lookup f_WayD_mulD = some ⟨oc_WayD_mulD, od_WayD_mulD, .func (PySem.W.fnOf "__mul__" "Way.__mul__" (defArgs s_WayD_mulD) (defBody s_WayD_mulD) (defScope s_WayD_mulD) .none kV_WayD_mulD dc_WayD_mulD pm_WayD_mulD an_WayD_mulD cd_WayD_mulD ct_WayD_mulD), sl_WayD_mulD⟩)
    (c_WayD_mulD : PySem.W.codeIn K cd_WayD_mulD "Way.__mul__" = true)
    (k_WayD_mulD : PySem.W.keepIn K (.ref f_WayD_mulD) = true)
    (a_Way_flipped : PySem.W.findIn K (.ref c_Way) "flipped" = some (some (.ref f_Way_flipped)))
    (i_Way_flipped : PySem.W.isFn K (.ref f_Way_flipped) = true)
    (l_Way_flipped : K.lookup f_Way_flipped = some ⟨oc_Way_flipped, od_Way_flipped, .func (PySem.W.fnOf "flipped" "Way.flipped" (defArgs s_Way_flipped) (defBody s_Way_flipped) (defScope s_Way_flipped) .none kV_Way_flipped dc_Way_flipped pm_Way_flipped an_Way_flipped cd_Way_flipped ct_Way_flipped), sl_Way_flipped⟩)
    (c_Way_flipped : PySem.W.codeIn K cd_Way_flipped "Way.flipped" = true)
    (k_Way_flipped : PySem.W.keepIn K (.ref f_Way_flipped) = true)
    (a_RulesD_strD : PySem.W.findIn K (.ref c_Rules) "__str__" = some (some (.ref f_RulesD_strD)))
    (i_RulesD_strD : PySem.W.isFn K (.ref f_RulesD_strD) = true)
    (l_RulesD_strD : K.lookup f_RulesD_strD = some ⟨oc_RulesD_strD, od_RulesD_strD, .func (PySem.W.fnOf "__str__" "Rules.__str__" (defArgs s_RulesD_strD) (defBody s_RulesD_strD) (defScope s_RulesD_strD) .none kV_RulesD_strD dc_RulesD_strD pm_RulesD_strD an_RulesD_strD cd_RulesD_strD ct_RulesD_strD), sl_RulesD_strD⟩)
    (c_RulesD_strD : PySem.W.codeIn K cd_RulesD_strD "Rules.__str__" = true)
    (k_RulesD_strD : PySem.W.keepIn K (.ref f_RulesD_strD) = true)
    (a_Rules_within : PySem.W.findIn K (.ref c_Rules) "within" = some (some (.ref f_Rules_within)))
    (i_Rules_within : PySem.W.isFn K (.ref f_Rules_within) = true)
    (l_Rules_within : K.lookup f_Rules_within = some ⟨oc_Rules_within, od_Rules_within, .func (PySem.W.fnOf "within" "Rules.within" (defArgs s_Rules_within) (defBody s_Rules_within) (defScope s_Rules_within) .none kV_Rules_within dc_Rules_within pm_Rules_within an_Rules_within cd_Rules_within ct_Rules_within), sl_Rules_within⟩)
    (c_Rules_within : PySem.W.codeIn K cd_Rules_within "Rules.within" = true)
    (k_Rules_within : PySem.W.keepIn K (.ref f_Rules_within) = true)
    (a_RulesD_eqD : PySem.W.findIn K (.ref c_Rules) "__eq__" = some (some (.ref f_RulesD_eqD)))
    (i_RulesD_eqD : PySem.W.isFn K (.ref f_RulesD_eqD) = true)
    (l_RulesD_eqD : K.lookup f_RulesD_eqD = some ⟨oc_RulesD_eqD, od_RulesD_eqD, .func (PySem.W.fnOf "__eq__" "Rules.__eq__" (defArgs s_RulesD_eqD) (defBody s_RulesD_eqD) (defScope s_RulesD_eqD) .none kV_RulesD_eqD dc_RulesD_eqD pm_RulesD_eqD an_RulesD_eqD cd_RulesD_eqD ct_RulesD_eqD), sl_RulesD_eqD⟩)
    (c_RulesD_eqD : PySem.W.codeIn K cd_RulesD_eqD "Rules.__eq__" = true)
    (k_RulesD_eqD : PySem.W.keepIn K (.ref f_RulesD_eqD) = true)
    (a_Family_above_another : PySem.W.findIn K (.ref c_Family) "above_another" = some (some (.ref f_Family_above_another)))
    (i_Family_above_another : PySem.W.isFn K (.ref f_Family_above_another) = true)
    (l_Family_above_another : K.lookup f_Family_above_another = some ⟨oc_Family_above_another, od_Family_above_another, .func (PySem.W.fnOf "above_another" "Family.above_another" (defArgs s_Family_above_another) (defBody s_Family_above_another) (defScope s_Family_above_another) .none kV_Family_above_another dc_Family_above_another pm_Family_above_another an_Family_above_another cd_Family_above_another ct_Family_above_another), sl_Family_above_another⟩)
    (c_Family_above_another : PySem.W.codeIn K cd_Family_above_another "Family.above_another" = true)
    (k_Family_above_another : PySem.W.keepIn K (.ref f_Family_above_another) = true)
    (a_Family_least : PySem.W.findIn K (.ref c_Family) "least" = some (some (.ref f_Family_least)))
    (i_Family_least : PySem.W.isFn K (.ref f_Family_least) = true)
    (l_Family_least : K.lookup f_Family_least = some ⟨oc_Family_least, od_Family_least, .func (PySem.W.fnOf "least" "Family.least" (defArgs s_Family_least) (defBody s_Family_least) (defScope s_Family_least) .none kV_Family_least dc_Family_least pm_Family_least an_Family_least cd_Family_least ct_Family_least), sl_Family_least⟩)
    (c_Family_least : PySem.W.codeIn K cd_Family_least "Family.least" = true)
    (k_Family_least : PySem.W.keepIn K (.ref f_Family_least) = true)
    (a_BadRuleD_initD : PySem.W.findIn K (.ref c_BadRule) "__init__" = some (some (.ref f_BadRuleD_initD)))
    (i_BadRuleD_initD : PySem.W.isFn K (.ref f_BadRuleD_initD) = true)
    (l_BadRuleD_initD : K.lookup f_BadRuleD_initD = some ⟨oc_BadRuleD_initD, od_BadRuleD_initD, .func (PySem.W.fnOf "__init__" "BadRule.__init__" (defArgs s_BadRuleD_initD) (defBody s_BadRuleD_initD) (defScope s_BadRuleD_initD) .none kV_BadRuleD_initD dc_BadRuleD_initD pm_BadRuleD_initD an_BadRuleD_initD cd_BadRuleD_initD ct_BadRuleD_initD), sl_BadRuleD_initD⟩)
    (c_BadRuleD_initD : PySem.W.codeIn K cd_BadRuleD_initD "BadRule.__init__" = true)
    (k_BadRuleD_initD : PySem.W.keepIn K (.ref f_BadRuleD_initD) = true)
    (a_RulesD_initD : PySem.W.findIn K (.ref c_Rules) "__init__" = some (some (.ref f_RulesD_initD)))
    (i_RulesD_initD : PySem.W.isFn K (.ref f_RulesD_initD) = true)
    (l_RulesD_initD : K.lookup f_RulesD_initD = some ⟨oc_RulesD_initD, od_RulesD_initD, .func (PySem.W.fnOf "__init__" "Rules.__init__" (defArgs s_RulesD_initD) (defBody s_RulesD_initD) (defScope s_RulesD_initD) (.ref T_RulesD_initD) kV_RulesD_initD dc_RulesD_initD pm_RulesD_initD an_RulesD_initD cd_RulesD_initD ct_RulesD_initD), sl_RulesD_initD⟩)
    (c_RulesD_initD : PySem.W.codeIn K cd_RulesD_initD "Rules.__init__" = true)
    (k_RulesD_initD : PySem.W.keepIn K (.ref f_RulesD_initD) = true)
    (lT_RulesD_initD : K.lookup T_RulesD_initD = some ⟨Toc_RulesD_initD, Tod_RulesD_initD, .seq ([.str (Str.ofString "") tk_RulesD_initD_0] : List Value).toArray Tn_RulesD_initD, Tsl_RulesD_initD⟩)
    (cm_Rules_every : PySem.W.findCls K (.ref c_Rules) (.type "type") "every" = some (.get (.builtin "classmethod.__get__") (.ref p_Rules_every) .none (.ref c_Rules)))
    (rc_Rules_every : PySem.W.recIn K p_Rules_every "classmethod" = some (.ref f_Rules_every :: rs_Rules_every))
    (fi_Rules_every : PySem.W.fnIn K f_Rules_every = true)
    (l_Rules_every : K.lookup f_Rules_every = some ⟨oc_Rules_every, od_Rules_every, .func (PySem.W.fnOf "every" "Rules.every" (defArgs s_Rules_every) (defBody s_Rules_every) (defScope s_Rules_every) .none kV_Rules_every dc_Rules_every pm_Rules_every an_Rules_every (.ref K_Rules_every) ct_Rules_every), sl_Rules_every⟩)
    (c_Rules_every : PySem.W.codeIn K (.ref K_Rules_every) "Rules.every" = true)
    (kf_Rules_every : K.lookup K_Rules_every = some ⟨co_Rules_every, ce_Rules_every, .fields cv_Rules_every, cs_Rules_every⟩)
    (tb_Rules_every : cv_Rules_every[11]? = some (.ref t_Rules_every))
    (ht_Rules_every : PySem.W.codeHdIn K K_Rules_every t_Rules_every = true)
    (nt_Rules_every : K.lookup t_Rules_every = none)
    (et_Rules_every : h.get? t_Rules_every = some { cls := .none, data := .fields #[] })
    (k_Rules_every : PySem.W.keepIn K (.ref f_Rules_every) = true)
    (a_FamilyD_initD : PySem.W.findIn K (.ref c_Family) "__init__" = some (some (.ref f_FamilyD_initD)))
    (i_FamilyD_initD : PySem.W.isFn K (.ref f_FamilyD_initD) = true)
    (l_FamilyD_initD : K.lookup f_FamilyD_initD = some ⟨oc_FamilyD_initD, od_FamilyD_initD, .func (PySem.W.fnOf "__init__" "Family.__init__" (defArgs s_FamilyD_initD) (defBody s_FamilyD_initD) (defScope s_FamilyD_initD) .none kV_FamilyD_initD dc_FamilyD_initD pm_FamilyD_initD an_FamilyD_initD cd_FamilyD_initD ct_FamilyD_initD), sl_FamilyD_initD⟩)
    (c_FamilyD_initD : PySem.W.codeIn K cd_FamilyD_initD "Family.__init__" = true)
    (k_FamilyD_initD : PySem.W.keepIn K (.ref f_FamilyD_initD) = true)
    (a_RulesD_containsD : PySem.W.findIn K (.ref c_Rules) "__contains__" = some (some (.ref f_RulesD_containsD)))
    (i_RulesD_containsD : PySem.W.isFn K (.ref f_RulesD_containsD) = true)
    (l_RulesD_containsD : K.lookup f_RulesD_containsD = some ⟨oc_RulesD_containsD, od_RulesD_containsD, .func (PySem.W.fnOf "__contains__" "Rules.__contains__" (defArgs s_RulesD_containsD) (defBody s_RulesD_containsD) (defScope s_RulesD_containsD) .none kV_RulesD_containsD dc_RulesD_containsD pm_RulesD_containsD an_RulesD_containsD cd_RulesD_containsD ct_RulesD_containsD), sl_RulesD_containsD⟩)
    (c_RulesD_containsD : PySem.W.codeIn K cd_RulesD_containsD "Rules.__contains__" = true)
    (k_RulesD_containsD : PySem.W.keepIn K (.ref f_RulesD_containsD) = true)
    (a_tree_form : PySem.W.nsIn K mainGlobals "tree_form" = some (some (.ref f_tree_form)))
    (l_tree_form : K.lookup f_tree_form = some ⟨oc_tree_form, od_tree_form, .func (PySem.W.fnOf "tree_form" "tree_form" (defArgs s_tree_form) (defBody s_tree_form) (defScope s_tree_form) .none kV_tree_form dc_tree_form pm_tree_form an_tree_form cd_tree_form ct_tree_form), sl_tree_form⟩)
    (c_tree_form : PySem.W.codeIn K cd_tree_form "tree_form" = true)
    (k_tree_form : PySem.W.keepIn K (.ref f_tree_form) = true)
    (a_different : PySem.W.nsIn K mainGlobals "different" = some (some (.ref f_different)))
    (l_different : K.lookup f_different = some ⟨oc_different, od_different, .func (PySem.W.fnOf "different" "different" (defArgs s_different) (defBody s_different) (defScope s_different) .none kV_different dc_different pm_different an_different cd_different ct_different), sl_different⟩)
    (c_different : PySem.W.codeIn K cd_different "different" = true)
    (k_different : PySem.W.keepIn K (.ref f_different) = true)
    (a_beginning : PySem.W.nsIn K mainGlobals "beginning" = some (some (.ref f_beginning)))
    (l_beginning : K.lookup f_beginning = some ⟨oc_beginning, od_beginning, .func (PySem.W.fnOf "beginning" "beginning" (defArgs s_beginning) (defBody s_beginning) (defScope s_beginning) .none kV_beginning dc_beginning pm_beginning an_beginning cd_beginning ct_beginning), sl_beginning⟩)
    (c_beginning : PySem.W.codeIn K cd_beginning "beginning" = true)
    (k_beginning : PySem.W.keepIn K (.ref f_beginning) = true)
    (a_ending : PySem.W.nsIn K mainGlobals "ending" = some (some (.ref f_ending)))
    (l_ending : K.lookup f_ending = some ⟨oc_ending, od_ending, .func (PySem.W.fnOf "ending" "ending" (defArgs s_ending) (defBody s_ending) (defScope s_ending) .none kV_ending dc_ending pm_ending an_ending cd_ending ct_ending), sl_ending⟩)
    (c_ending : PySem.W.codeIn K cd_ending "ending" = true)
    (k_ending : PySem.W.keepIn K (.ref f_ending) = true)
    (a_merged : PySem.W.nsIn K mainGlobals "merged" = some (some (.ref f_merged)))
    (l_merged : K.lookup f_merged = some ⟨oc_merged, od_merged, .func (PySem.W.fnOf "merged" "merged" (defArgs s_merged) (defBody s_merged) (defScope s_merged) .none kV_merged dc_merged pm_merged an_merged cd_merged ct_merged), sl_merged⟩)
    (c_merged : PySem.W.codeIn K cd_merged "merged" = true)
    (k_merged : PySem.W.keepIn K (.ref f_merged) = true)
    (a_band_form : PySem.W.nsIn K mainGlobals "band_form" = some (some (.ref f_band_form)))
    (l_band_form : K.lookup f_band_form = some ⟨oc_band_form, od_band_form, .func (PySem.W.fnOf "band_form" "band_form" (defArgs s_band_form) (defBody s_band_form) (defScope s_band_form) .none kV_band_form dc_band_form pm_band_form an_band_form cd_band_form ct_band_form), sl_band_form⟩)
    (c_band_form : PySem.W.codeIn K cd_band_form "band_form" = true)
    (k_band_form : PySem.W.keepIn K (.ref f_band_form) = true)
    (a_word_form : PySem.W.nsIn K mainGlobals "word_form" = some (some (.ref f_word_form)))
    (l_word_form : K.lookup f_word_form = some ⟨oc_word_form, od_word_form, .func (PySem.W.fnOf "word_form" "word_form" (defArgs s_word_form) (defBody s_word_form) (defScope s_word_form) .none kV_word_form dc_word_form pm_word_form an_word_form cd_word_form ct_word_form), sl_word_form⟩)
    (c_word_form : PySem.W.codeIn K cd_word_form "word_form" = true)
    (k_word_form : PySem.W.keepIn K (.ref f_word_form) = true)
    (a_plain : PySem.W.nsIn K mainGlobals "plain" = some (some (.ref f_plain)))
    (l_plain : K.lookup f_plain = some ⟨oc_plain, od_plain, .func (PySem.W.fnOf "plain" "plain" (defArgs s_plain) (defBody s_plain) (defScope s_plain) .none kV_plain dc_plain pm_plain an_plain cd_plain ct_plain), sl_plain⟩)
    (c_plain : PySem.W.codeIn K cd_plain "plain" = true)
    (k_plain : PySem.W.keepIn K (.ref f_plain) = true)
    (a_alike : PySem.W.nsIn K mainGlobals "alike" = some (some (.ref f_alike)))
    (l_alike : K.lookup f_alike = some ⟨oc_alike, od_alike, .func (PySem.W.fnOf "alike" "alike" (defArgs s_alike) (defBody s_alike) (defScope s_alike) .none kV_alike dc_alike pm_alike an_alike cd_alike ct_alike), sl_alike⟩)
    (c_alike : PySem.W.codeIn K cd_alike "alike" = true)
    (k_alike : PySem.W.keepIn K (.ref f_alike) = true)
    (a_needed : PySem.W.nsIn K mainGlobals "needed" = some (some (.ref f_needed)))
    (l_needed : K.lookup f_needed = some ⟨oc_needed, od_needed, .func (PySem.W.fnOf "needed" "needed" (defArgs s_needed) (defBody s_needed) (defScope s_needed) .none kV_needed dc_needed pm_needed an_needed cd_needed ct_needed), sl_needed⟩)
    (c_needed : PySem.W.codeIn K cd_needed "needed" = true)
    (k_needed : PySem.W.keepIn K (.ref f_needed) = true)
    (a_law : PySem.W.nsIn K mainGlobals "law" = some (some (.ref f_law)))
    (l_law : K.lookup f_law = some ⟨oc_law, od_law, .func (PySem.W.fnOf "law" "law" (defArgs s_law) (defBody s_law) (defScope s_law) .none kV_law dc_law pm_law an_law cd_law ct_law), sl_law⟩)
    (c_law : PySem.W.codeIn K cd_law "law" = true)
    (k_law : PySem.W.keepIn K (.ref f_law) = true)
    (pg_Family : PySem.W.plainGet K c_Family Str.empty = true)
    (hd_Family : PySem.W.hasDictIn K c_Family = true)
    (po_Family : PySem.W.plainOver K c_Family = true)
    (sa_Family : PySem.W.findIn K (.ref c_Family) "__setattr__" = some (some (.builtin "object.__setattr__")))
    (mk_Family : PySem.W.makesIn K c_Family = true)
    (kc_Family : PySem.W.keepIn K (.ref c_Family) = true)
    (na_Family_members : PySem.W.findIn K (.ref c_Family) "members" = some none)
    (pg_Rules : PySem.W.plainGet K c_Rules Str.empty = true)
    (hd_Rules : PySem.W.hasDictIn K c_Rules = true)
    (po_Rules : PySem.W.plainOver K c_Rules = true)
    (sa_Rules : PySem.W.findIn K (.ref c_Rules) "__setattr__" = some (some (.builtin "object.__setattr__")))
    (mk_Rules : PySem.W.makesIn K c_Rules = true)
    (kc_Rules : PySem.W.keepIn K (.ref c_Rules) = true)
    (na_Rules_letters : PySem.W.findIn K (.ref c_Rules) "letters" = some none)
    (pg_Way : PySem.W.plainGet K c_Way Str.empty = true)
    (hd_Way : PySem.W.hasDictIn K c_Way = true)
    (po_Way : PySem.W.plainOver K c_Way = true)
    (sa_Way : PySem.W.findIn K (.ref c_Way) "__setattr__" = some (some (.builtin "object.__setattr__")))
    (mk_Way : PySem.W.makesIn K c_Way = true)
    (kc_Way : PySem.W.keepIn K (.ref c_Way) = true)
    (na_Way_leaves : PySem.W.findIn K (.ref c_Way) "leaves" = some none)
    (na_Way_left : PySem.W.findIn K (.ref c_Way) "left" = some none)
    (na_Way_name : PySem.W.findIn K (.ref c_Way) "name" = some none)
    (na_Way_right : PySem.W.findIn K (.ref c_Way) "right" = some none)
    (na_Way_text : PySem.W.findIn K (.ref c_Way) "text" = some none)
    (sf_Way : PySem.W.selfFirst K c_Way = true)
    (mo_Family : PySem.W.mroIn K c_Family (.type "object") = some true)
    (mo_Rules : PySem.W.mroIn K c_Rules (.type "object") = some true)
    (ohn : PySem.W.specialIn K (.builtin "object.__class__") "__get__" = some (some (.builtin "getset_descriptor.__get__")))
    (otk : PySem.W.takesIn K (.builtin "object.__class__") = some true)
    (oha_Rules : PySem.W.findIn K (.ref c_Rules) "__class__" = some (some (.builtin "object.__class__")))
    (oha_Family : PySem.W.findIn K (.ref c_Family) "__class__" = some (some (.builtin "object.__class__")))
    (is_0 : PySem.W.subIn K (.ref c_Rules) (.ref c_Rules) = some true)
    (cf_Rules : PySem.W.isClsIn K c_Rules = true)
    (ct_Rules : PySem.W.typeIn K (.ref c_Rules) = some (.type "type"))
    (is_1 : PySem.W.subIn K (.ref c_Family) (.ref c_Family) = some true)
    (cf_Family : PySem.W.isClsIn K c_Family = true)
    (ct_Family : PySem.W.typeIn K (.ref c_Family) = some (.type "type"))
    (br_WayError : PySem.W.readsIn K c_WayError (.type "type") = true)
    (bg_WayError : PySem.W.specialIn K (.ref c_WayError) "__getattribute__" = some (some (.builtin "type.__getattribute__")))
    (bv_WayError : PySem.W.findCls K (.ref c_WayError) (.type "type") "__init__" = some (.val (.builtin "ValueError.__init__")))
    (xl_BadRule : K.lookup c_BadRule = some (excClassObj Xnm_BadRule Xq_BadRule c_BadRule XN_BadRule Xbs_BadRule Xbm_BadRule true Xsn_BadRule Xsub_BadRule Xab_BadRule Xcol_BadRule Xdd_BadRule X0_BadRule X1_BadRule X2_BadRule X3_BadRule X5_BadRule "ValueError.__new__"))
    (xr_BadRule : PySem.HandSPX.refsVE Xbm_BadRule = true)
    (xs_BadRule : PySem.W.findIn K (.ref c_BadRule) "__setattr__" = some (some (.builtin "object.__setattr__")))
    (xe_BadRule : PySem.W.subIn K (.ref c_BadRule) (.type "BaseException") = some true)
    (xt_BadRule : PySem.W.typeIn K (.ref c_BadRule) = some (.type "type"))
    (xk_BadRule : PySem.W.keepIn K (.ref c_BadRule) = true)
    (xi_BadRule : PySem.W.typeIn K (.ref f_BadRuleD_initD) = some (.type "function"))
    (xn_BadRule_letter : PySem.W.findIn K (.ref c_BadRule) "letter" = some none)
    (xl_NoWay : K.lookup c_NoWay = some (excClassObj Xnm_NoWay Xq_NoWay c_NoWay XN_NoWay Xbs_NoWay Xbm_NoWay true Xsn_NoWay Xsub_NoWay Xab_NoWay Xcol_NoWay Xdd_NoWay X0_NoWay X1_NoWay X2_NoWay X3_NoWay X5_NoWay "ValueError.__new__"))
    (xr_NoWay : PySem.HandSPX.refsVE Xbm_NoWay = true)
    (xs_NoWay : PySem.W.findIn K (.ref c_NoWay) "__setattr__" = some (some (.builtin "object.__setattr__")))
    (xe_NoWay : PySem.W.subIn K (.ref c_NoWay) (.type "BaseException") = some true)
    (xt_NoWay : PySem.W.typeIn K (.ref c_NoWay) = some (.type "type"))
    (xk_NoWay : PySem.W.keepIn K (.ref c_NoWay) = true)
    (xi_NoWay : PySem.W.typeIn K (.ref f_NoWayD_initD) = some (.type "function"))
    (xn_NoWay_at : PySem.W.findIn K (.ref c_NoWay) "at" = some none)
    (n_abs : PySem.W.nsIn K mainGlobals "abs" = some none)
    (n_all : PySem.W.nsIn K mainGlobals "all" = some none)
    (n_any : PySem.W.nsIn K mainGlobals "any" = some none)
    (n_enumerate : PySem.W.nsIn K mainGlobals "enumerate" = some none)
    (n_int : PySem.W.nsIn K mainGlobals "int" = some none)
    (n_isinstance : PySem.W.nsIn K mainGlobals "isinstance" = some none)
    (n_len : PySem.W.nsIn K mainGlobals "len" = some none)
    (n_list : PySem.W.nsIn K mainGlobals "list" = some none)
    (n_min : PySem.W.nsIn K mainGlobals "min" = some none)
    (n_range : PySem.W.nsIn K mainGlobals "range" = some none)
    (n_reversed : PySem.W.nsIn K mainGlobals "reversed" = some none)
    (n_set : PySem.W.nsIn K mainGlobals "set" = some none)
    (n_sorted : PySem.W.nsIn K mainGlobals "sorted" = some none)
    (n_str : PySem.W.nsIn K mainGlobals "str" = some none)
    (s_LETTERS_rules : PySem.W.nsIn K mainGlobals "LETTERS_rules" = some (some (.str (Str.ofString "ACIUZ") tk_LETTERS_rules)))
    (s_LETTERS_ways : PySem.W.nsIn K mainGlobals "LETTERS_ways" = some (some (.str (Str.ofString "abcdefghijklmnopqrstuvwxyz") tk_LETTERS_ways)))
    (s_LONGEST_NAME : PySem.W.nsIn K mainGlobals "LONGEST_NAME" = some (some (.int 6 tk_LONGEST_NAME)))
    (cr_Rules : PySem.W.readsIn K c_Rules (.type "type") = true)
    (cg_Rules : PySem.W.specialIn K (.ref c_Rules) "__getattribute__" = some (some (.builtin "type.__getattribute__")))
    : ∃ (fd : FuncData) (c T : Addr), (∀ (s : Shared) (u : Value), BindsTo s fd ⟨[u], []⟩ [("_law_script", u)]) ∧ h.get? T = some { cls := .none, data := .fields #[] } ∧ K.lookup T = none ∧ PySem.W.codeHdIn K c T = true ∧ ∀ base : Heap, K.In base → base.Ns mainGlobals mg → LamX.TabB base mg c T → FnOk l.prog w K mg base (L2.CX l.prog w) 124 fa fd ["_law_script"] (spLaw1 K T) := by
  letI hWw : HashW := ⟨hashStr w⟩
  have e := hfa.symm.trans (PySem.W.mg_of X G a_law)
  have e2 : f_law = fa := by cases e; rfl
  subst e2
  have F_l_draws : FnP K "_law_draws" "_law_draws" s_l_draws [] [] f_l_draws _ := fnP_mk l_l_draws c_l_draws k_l_draws
  have F_l_cell : FnP K "_law_cell" "_law_cell" s_l_cell [] [] f_l_cell _ := fnP_mk l_l_cell c_l_cell k_l_cell
  have F_l_pairs : FnP K "_law_pairs" "_law_pairs" s_l_pairs [] [] f_l_pairs _ := fnP_mk l_l_pairs c_l_pairs k_l_pairs
  have F_NoWayD_initD : FnP K "__init__" "NoWay.__init__" s_NoWayD_initD [] [] f_NoWayD_initD _ := fnP_mk l_NoWayD_initD c_NoWayD_initD k_NoWayD_initD
  have F_expected : FnP K "expected" "expected" s_expected [] [] f_expected _ := fnP_mk l_expected c_expected k_expected
  have F_end_of : FnP K "end_of" "end_of" s_end_of [] [] f_end_of _ := fnP_mk l_end_of c_end_of k_end_of
  have F_WayD_initD : FnP K "__init__" "Way.__init__" s_WayD_initD [] [] f_WayD_initD _ := fnP_mk l_WayD_initD c_WayD_initD k_WayD_initD
  have F_l_renamed : FnP K "_law_renamed" "_law_renamed" s_l_renamed [] [] f_l_renamed _ := fnP_mk l_l_renamed c_l_renamed k_l_renamed
  have F_WayD_mulD : FnP K "__mul__" "Way.__mul__" s_WayD_mulD [] [] f_WayD_mulD _ := fnP_mk l_WayD_mulD c_WayD_mulD k_WayD_mulD
  have F_Way_flipped : FnP K "flipped" "Way.flipped" s_Way_flipped [] [] f_Way_flipped _ := fnP_mk l_Way_flipped c_Way_flipped k_Way_flipped
  have F_RulesD_strD : FnP K "__str__" "Rules.__str__" s_RulesD_strD [] [] f_RulesD_strD _ := fnP_mk l_RulesD_strD c_RulesD_strD k_RulesD_strD
  have F_Rules_within : FnP K "within" "Rules.within" s_Rules_within [] [] f_Rules_within _ := fnP_mk l_Rules_within c_Rules_within k_Rules_within
  have F_RulesD_eqD : FnP K "__eq__" "Rules.__eq__" s_RulesD_eqD [] [] f_RulesD_eqD _ := fnP_mk l_RulesD_eqD c_RulesD_eqD k_RulesD_eqD
  have F_Family_above_another : FnP K "above_another" "Family.above_another" s_Family_above_another [] [] f_Family_above_another _ := fnP_mk l_Family_above_another c_Family_above_another k_Family_above_another
  have F_Family_least : FnP K "least" "Family.least" s_Family_least [] [] f_Family_least _ := fnP_mk l_Family_least c_Family_least k_Family_least
  have F_BadRuleD_initD : FnP K "__init__" "BadRule.__init__" s_BadRuleD_initD [] [] f_BadRuleD_initD _ := fnP_mk l_BadRuleD_initD c_BadRuleD_initD k_BadRuleD_initD
  have F_RulesD_initD : FnP K "__init__" "Rules.__init__" s_RulesD_initD [(.str (Str.ofString ""))] [] f_RulesD_initD _ := fnP_mkD (its := [.str (Str.ofString "") tk_RulesD_initD_0]) l_RulesD_initD c_RulesD_initD k_RulesD_initD lT_RulesD_initD rfl (.cons ⟨_, rfl⟩ .nil) (List.cons_ne_nil _ _)
  have F_Rules_every : FnP K "every" "Rules.every" s_Rules_every [] [] f_Rules_every _ := fnP_mk l_Rules_every c_Rules_every k_Rules_every
  have F_FamilyD_initD : FnP K "__init__" "Family.__init__" s_FamilyD_initD [] [] f_FamilyD_initD _ := fnP_mk l_FamilyD_initD c_FamilyD_initD k_FamilyD_initD
  have F_RulesD_containsD : FnP K "__contains__" "Rules.__contains__" s_RulesD_containsD [] [] f_RulesD_containsD _ := fnP_mk l_RulesD_containsD c_RulesD_containsD k_RulesD_containsD
  have F_tree_form : FnP K "tree_form" "tree_form" s_tree_form [] [] f_tree_form _ := fnP_mk l_tree_form c_tree_form k_tree_form
  have F_different : FnP K "different" "different" s_different [] [] f_different _ := fnP_mk l_different c_different k_different
  have F_beginning : FnP K "beginning" "beginning" s_beginning [] [] f_beginning _ := fnP_mk l_beginning c_beginning k_beginning
  have F_ending : FnP K "ending" "ending" s_ending [] [] f_ending _ := fnP_mk l_ending c_ending k_ending
  have F_merged : FnP K "merged" "merged" s_merged [] [] f_merged _ := fnP_mk l_merged c_merged k_merged
  have F_band_form : FnP K "band_form" "band_form" s_band_form [] [] f_band_form _ := fnP_mk l_band_form c_band_form k_band_form
  have F_word_form : FnP K "word_form" "word_form" s_word_form [] [] f_word_form _ := fnP_mk l_word_form c_word_form k_word_form
  have F_plain : FnP K "plain" "plain" s_plain [] [] f_plain _ := fnP_mk l_plain c_plain k_plain
  have F_alike : FnP K "alike" "alike" s_alike [] [] f_alike _ := fnP_mk l_alike c_alike k_alike
  have F_needed : FnP K "needed" "needed" s_needed [] [] f_needed _ := fnP_mk l_needed c_needed k_needed
  have F_law : FnP K "law" "law" s_law [] [] f_law _ := fnP_mk l_law c_law k_law
  let A : Ad := {f_l_draws := f_l_draws, d_l_draws := (PySem.W.fnOf "_law_draws" "_law_draws" (defArgs s_l_draws) (defBody s_l_draws) (defScope s_l_draws) .none kV_l_draws dc_l_draws pm_l_draws an_l_draws cd_l_draws ct_l_draws), f_l_cell := f_l_cell, d_l_cell := (PySem.W.fnOf "_law_cell" "_law_cell" (defArgs s_l_cell) (defBody s_l_cell) (defScope s_l_cell) .none kV_l_cell dc_l_cell pm_l_cell an_l_cell cd_l_cell ct_l_cell), f_l_pairs := f_l_pairs, d_l_pairs := (PySem.W.fnOf "_law_pairs" "_law_pairs" (defArgs s_l_pairs) (defBody s_l_pairs) (defScope s_l_pairs) .none kV_l_pairs dc_l_pairs pm_l_pairs an_l_pairs cd_l_pairs ct_l_pairs), f_NoWayD_initD := f_NoWayD_initD, d_NoWayD_initD := (PySem.W.fnOf "__init__" "NoWay.__init__" (defArgs s_NoWayD_initD) (defBody s_NoWayD_initD) (defScope s_NoWayD_initD) .none kV_NoWayD_initD dc_NoWayD_initD pm_NoWayD_initD an_NoWayD_initD cd_NoWayD_initD ct_NoWayD_initD), f_expected := f_expected, d_expected := (PySem.W.fnOf "expected" "expected" (defArgs s_expected) (defBody s_expected) (defScope s_expected) .none kV_expected dc_expected pm_expected an_expected cd_expected ct_expected), f_end_of := f_end_of, d_end_of := (PySem.W.fnOf "end_of" "end_of" (defArgs s_end_of) (defBody s_end_of) (defScope s_end_of) .none kV_end_of dc_end_of pm_end_of an_end_of cd_end_of ct_end_of), f_WayD_initD := f_WayD_initD, d_WayD_initD := (PySem.W.fnOf "__init__" "Way.__init__" (defArgs s_WayD_initD) (defBody s_WayD_initD) (defScope s_WayD_initD) .none kV_WayD_initD dc_WayD_initD pm_WayD_initD an_WayD_initD cd_WayD_initD ct_WayD_initD), f_l_renamed := f_l_renamed, d_l_renamed := (PySem.W.fnOf "_law_renamed" "_law_renamed" (defArgs s_l_renamed) (defBody s_l_renamed) (defScope s_l_renamed) .none kV_l_renamed dc_l_renamed pm_l_renamed an_l_renamed cd_l_renamed ct_l_renamed), f_WayD_mulD := f_WayD_mulD, d_WayD_mulD := (PySem.W.fnOf "__mul__" "Way.__mul__" (defArgs s_WayD_mulD) (defBody s_WayD_mulD) (defScope s_WayD_mulD) .none kV_WayD_mulD dc_WayD_mulD pm_WayD_mulD an_WayD_mulD cd_WayD_mulD ct_WayD_mulD), f_Way_flipped := f_Way_flipped, d_Way_flipped := (PySem.W.fnOf "flipped" "Way.flipped" (defArgs s_Way_flipped) (defBody s_Way_flipped) (defScope s_Way_flipped) .none kV_Way_flipped dc_Way_flipped pm_Way_flipped an_Way_flipped cd_Way_flipped ct_Way_flipped), f_RulesD_strD := f_RulesD_strD, d_RulesD_strD := (PySem.W.fnOf "__str__" "Rules.__str__" (defArgs s_RulesD_strD) (defBody s_RulesD_strD) (defScope s_RulesD_strD) .none kV_RulesD_strD dc_RulesD_strD pm_RulesD_strD an_RulesD_strD cd_RulesD_strD ct_RulesD_strD), f_Rules_within := f_Rules_within, d_Rules_within := (PySem.W.fnOf "within" "Rules.within" (defArgs s_Rules_within) (defBody s_Rules_within) (defScope s_Rules_within) .none kV_Rules_within dc_Rules_within pm_Rules_within an_Rules_within cd_Rules_within ct_Rules_within), f_RulesD_eqD := f_RulesD_eqD, d_RulesD_eqD := (PySem.W.fnOf "__eq__" "Rules.__eq__" (defArgs s_RulesD_eqD) (defBody s_RulesD_eqD) (defScope s_RulesD_eqD) .none kV_RulesD_eqD dc_RulesD_eqD pm_RulesD_eqD an_RulesD_eqD cd_RulesD_eqD ct_RulesD_eqD), f_Family_above_another := f_Family_above_another, d_Family_above_another := (PySem.W.fnOf "above_another" "Family.above_another" (defArgs s_Family_above_another) (defBody s_Family_above_another) (defScope s_Family_above_another) .none kV_Family_above_another dc_Family_above_another pm_Family_above_another an_Family_above_another cd_Family_above_another ct_Family_above_another), f_Family_least := f_Family_least, d_Family_least := (PySem.W.fnOf "least" "Family.least" (defArgs s_Family_least) (defBody s_Family_least) (defScope s_Family_least) .none kV_Family_least dc_Family_least pm_Family_least an_Family_least cd_Family_least ct_Family_least), f_BadRuleD_initD := f_BadRuleD_initD, d_BadRuleD_initD := (PySem.W.fnOf "__init__" "BadRule.__init__" (defArgs s_BadRuleD_initD) (defBody s_BadRuleD_initD) (defScope s_BadRuleD_initD) .none kV_BadRuleD_initD dc_BadRuleD_initD pm_BadRuleD_initD an_BadRuleD_initD cd_BadRuleD_initD ct_BadRuleD_initD), f_RulesD_initD := f_RulesD_initD, d_RulesD_initD := (PySem.W.fnOf "__init__" "Rules.__init__" (defArgs s_RulesD_initD) (defBody s_RulesD_initD) (defScope s_RulesD_initD) (.ref T_RulesD_initD) kV_RulesD_initD dc_RulesD_initD pm_RulesD_initD an_RulesD_initD cd_RulesD_initD ct_RulesD_initD), f_Rules_every := f_Rules_every, d_Rules_every := (PySem.W.fnOf "every" "Rules.every" (defArgs s_Rules_every) (defBody s_Rules_every) (defScope s_Rules_every) .none kV_Rules_every dc_Rules_every pm_Rules_every an_Rules_every (.ref K_Rules_every) ct_Rules_every), f_FamilyD_initD := f_FamilyD_initD, d_FamilyD_initD := (PySem.W.fnOf "__init__" "Family.__init__" (defArgs s_FamilyD_initD) (defBody s_FamilyD_initD) (defScope s_FamilyD_initD) .none kV_FamilyD_initD dc_FamilyD_initD pm_FamilyD_initD an_FamilyD_initD cd_FamilyD_initD ct_FamilyD_initD), f_RulesD_containsD := f_RulesD_containsD, d_RulesD_containsD := (PySem.W.fnOf "__contains__" "Rules.__contains__" (defArgs s_RulesD_containsD) (defBody s_RulesD_containsD) (defScope s_RulesD_containsD) .none kV_RulesD_containsD dc_RulesD_containsD pm_RulesD_containsD an_RulesD_containsD cd_RulesD_containsD ct_RulesD_containsD), f_tree_form := f_tree_form, d_tree_form := (PySem.W.fnOf "tree_form" "tree_form" (defArgs s_tree_form) (defBody s_tree_form) (defScope s_tree_form) .none kV_tree_form dc_tree_form pm_tree_form an_tree_form cd_tree_form ct_tree_form), f_different := f_different, d_different := (PySem.W.fnOf "different" "different" (defArgs s_different) (defBody s_different) (defScope s_different) .none kV_different dc_different pm_different an_different cd_different ct_different), f_beginning := f_beginning, d_beginning := (PySem.W.fnOf "beginning" "beginning" (defArgs s_beginning) (defBody s_beginning) (defScope s_beginning) .none kV_beginning dc_beginning pm_beginning an_beginning cd_beginning ct_beginning), f_ending := f_ending, d_ending := (PySem.W.fnOf "ending" "ending" (defArgs s_ending) (defBody s_ending) (defScope s_ending) .none kV_ending dc_ending pm_ending an_ending cd_ending ct_ending), f_merged := f_merged, d_merged := (PySem.W.fnOf "merged" "merged" (defArgs s_merged) (defBody s_merged) (defScope s_merged) .none kV_merged dc_merged pm_merged an_merged cd_merged ct_merged), f_band_form := f_band_form, d_band_form := (PySem.W.fnOf "band_form" "band_form" (defArgs s_band_form) (defBody s_band_form) (defScope s_band_form) .none kV_band_form dc_band_form pm_band_form an_band_form cd_band_form ct_band_form), f_word_form := f_word_form, d_word_form := (PySem.W.fnOf "word_form" "word_form" (defArgs s_word_form) (defBody s_word_form) (defScope s_word_form) .none kV_word_form dc_word_form pm_word_form an_word_form cd_word_form ct_word_form), f_plain := f_plain, d_plain := (PySem.W.fnOf "plain" "plain" (defArgs s_plain) (defBody s_plain) (defScope s_plain) .none kV_plain dc_plain pm_plain an_plain cd_plain ct_plain), f_alike := f_alike, d_alike := (PySem.W.fnOf "alike" "alike" (defArgs s_alike) (defBody s_alike) (defScope s_alike) .none kV_alike dc_alike pm_alike an_alike cd_alike ct_alike), f_needed := f_needed, d_needed := (PySem.W.fnOf "needed" "needed" (defArgs s_needed) (defBody s_needed) (defScope s_needed) .none kV_needed dc_needed pm_needed an_needed cd_needed ct_needed), f_law := f_law, d_law := (PySem.W.fnOf "law" "law" (defArgs s_law) (defBody s_law) (defScope s_law) .none kV_law dc_law pm_law an_law cd_law ct_law), c_BadRule := c_BadRule, c_Family := c_Family, c_NoWay := c_NoWay, c_Rules := c_Rules, c_Way := c_Way, c_WayError := c_WayError, k_Rules_every := K_Rules_every, t_Rules_every := t_Rules_every, p_Rules_every := p_Rules_every}
  have g_BadRule : mg "BadRule" = some (.ref c_BadRule) := PySem.W.mg_of X G aC_BadRule
  have g_Family : mg "Family" = some (.ref c_Family) := PySem.W.mg_of X G aC_Family
  have g_NoWay : mg "NoWay" = some (.ref c_NoWay) := PySem.W.mg_of X G aC_NoWay
  have g_Rules : mg "Rules" = some (.ref c_Rules) := PySem.W.mg_of X G aC_Rules
  have g_Way : mg "Way" = some (.ref c_Way) := PySem.W.mg_of X G aC_Way
  have g_WayError : mg "WayError" = some (.ref c_WayError) := PySem.W.mg_of X G aC_WayError
  have ci_Family : CInfo K mg "Family" c_Family ["members"] := ⟨g_Family, ⟨pg_Family, hd_Family, po_Family, sa_Family⟩, (na_cons na_Family_members na_nil)⟩
  have ci_Rules : CInfo K mg "Rules" c_Rules ["letters"] := ⟨g_Rules, ⟨pg_Rules, hd_Rules, po_Rules, sa_Rules⟩, (na_cons na_Rules_letters na_nil)⟩
  have ci_Way : CInfo K mg "Way" c_Way ["leaves", "left", "name", "right", "text"] := ⟨g_Way, ⟨pg_Way, hd_Way, po_Way, sa_Way⟩, (na_cons na_Way_leaves (na_cons na_Way_left (na_cons na_Way_name (na_cons na_Way_right (na_cons na_Way_text na_nil)))))⟩
  have T : Fx w K mg A := {
    hw := fun _ => rfl,
    n_abs := PySem.W.mg_none_of X G n_abs,
    n_all := PySem.W.mg_none_of X G n_all,
    n_any := PySem.W.mg_none_of X G n_any,
    n_enumerate := PySem.W.mg_none_of X G n_enumerate,
    n_int := PySem.W.mg_none_of X G n_int,
    n_isinstance := PySem.W.mg_none_of X G n_isinstance,
    n_len := PySem.W.mg_none_of X G n_len,
    n_list := PySem.W.mg_none_of X G n_list,
    n_min := PySem.W.mg_none_of X G n_min,
    n_range := PySem.W.mg_none_of X G n_range,
    n_reversed := PySem.W.mg_none_of X G n_reversed,
    n_set := PySem.W.mg_none_of X G n_set,
    n_sorted := PySem.W.mg_none_of X G n_sorted,
    n_str := PySem.W.mg_none_of X G n_str,
    s_LETTERS_rules := ⟨_, PySem.W.mg_of X G s_LETTERS_rules⟩,
    s_LETTERS_ways := ⟨_, PySem.W.mg_of X G s_LETTERS_ways⟩,
    s_LONGEST_NAME := ⟨_, PySem.W.mg_of X G s_LONGEST_NAME⟩,
    F_l_draws := F_l_draws,
    g_l_draws := PySem.W.mg_of X G a_l_draws,
    F_l_cell := F_l_cell,
    g_l_cell := PySem.W.mg_of X G a_l_cell,
    F_l_pairs := F_l_pairs,
    g_l_pairs := PySem.W.mg_of X G a_l_pairs,
    F_NoWayD_initD := F_NoWayD_initD,
    F_expected := F_expected,
    g_expected := PySem.W.mg_of X G a_expected,
    F_end_of := F_end_of,
    g_end_of := PySem.W.mg_of X G a_end_of,
    F_WayD_initD := F_WayD_initD,
    F_l_renamed := F_l_renamed,
    g_l_renamed := PySem.W.mg_of X G a_l_renamed,
    F_WayD_mulD := F_WayD_mulD,
    F_Way_flipped := F_Way_flipped,
    F_RulesD_strD := F_RulesD_strD,
    F_Rules_within := F_Rules_within,
    F_RulesD_eqD := F_RulesD_eqD,
    F_Family_above_another := F_Family_above_another,
    F_Family_least := F_Family_least,
    F_BadRuleD_initD := F_BadRuleD_initD,
    F_RulesD_initD := F_RulesD_initD,
    F_Rules_every := F_Rules_every,
    F_FamilyD_initD := F_FamilyD_initD,
    F_RulesD_containsD := F_RulesD_containsD,
    F_tree_form := F_tree_form,
    g_tree_form := PySem.W.mg_of X G a_tree_form,
    F_different := F_different,
    g_different := PySem.W.mg_of X G a_different,
    F_beginning := F_beginning,
    g_beginning := PySem.W.mg_of X G a_beginning,
    F_ending := F_ending,
    g_ending := PySem.W.mg_of X G a_ending,
    F_merged := F_merged,
    g_merged := PySem.W.mg_of X G a_merged,
    F_band_form := F_band_form,
    g_band_form := PySem.W.mg_of X G a_band_form,
    F_word_form := F_word_form,
    g_word_form := PySem.W.mg_of X G a_word_form,
    F_plain := F_plain,
    g_plain := PySem.W.mg_of X G a_plain,
    F_alike := F_alike,
    g_alike := PySem.W.mg_of X G a_alike,
    F_needed := F_needed,
    g_needed := PySem.W.mg_of X G a_needed,
    F_law := F_law,
    g_law := PySem.W.mg_of X G a_law,
    b_Family_above_another_2 := dflK_none (F_Family_above_another.bindsN fun _ _ _ _ _ _ us hl => match us, hl with | [_, _], _ => rfl),
    b_Family_least_1 := dflK_none (F_Family_least.bindsN fun _ _ _ _ _ _ us hl => match us, hl with | [_], _ => rfl),
    b_RulesD_initD_2 := dflK_of (F_RulesD_initD.binds1 2 1 (List.cons_ne_nil _ _) rfl fun _ _ _ _ _ _ _ us its h1 h2 => match us, its, h1, h2 with | [_, _], [_], _, _ => ⟨_, rfl, rfl⟩) fun _ _ => rfl,
    b_Rules_within_2 := dflK_none (F_Rules_within.bindsN fun _ _ _ _ _ _ us hl => match us, hl with | [_, _], _ => rfl),
    b_WayD_initD_2 := dflK_none (F_WayD_initD.bindsN fun _ _ _ _ _ _ us hl => match us, hl with | [_, _], _ => rfl),
    b_Way_flipped_1 := dflK_none (F_Way_flipped.bindsN fun _ _ _ _ _ _ us hl => match us, hl with | [_], _ => rfl),
    b_l_cell_2 := dflK_none (F_l_cell.bindsN fun _ _ _ _ _ _ us hl => match us, hl with | [_, _], _ => rfl),
    b_l_draws_2 := dflK_none (F_l_draws.bindsN fun _ _ _ _ _ _ us hl => match us, hl with | [_, _], _ => rfl),
    b_l_pairs_0 := dflK_none (F_l_pairs.bindsN fun _ _ _ _ _ _ us hl => match us, hl with | [], _ => rfl),
    b_l_renamed_2 := dflK_none (F_l_renamed.bindsN fun _ _ _ _ _ _ us hl => match us, hl with | [_, _], _ => rfl),
    b_band_form_1 := dflK_none (F_band_form.bindsN fun _ _ _ _ _ _ us hl => match us, hl with | [_], _ => rfl),
    b_beginning_1 := dflK_none (F_beginning.bindsN fun _ _ _ _ _ _ us hl => match us, hl with | [_], _ => rfl),
    b_different_1 := dflK_none (F_different.bindsN fun _ _ _ _ _ _ us hl => match us, hl with | [_], _ => rfl),
    b_end_of_2 := dflK_none (F_end_of.bindsN fun _ _ _ _ _ _ us hl => match us, hl with | [_, _], _ => rfl),
    b_ending_1 := dflK_none (F_ending.bindsN fun _ _ _ _ _ _ us hl => match us, hl with | [_], _ => rfl),
    b_expected_3 := dflK_none (F_expected.bindsN fun _ _ _ _ _ _ us hl => match us, hl with | [_, _, _], _ => rfl),
    b_merged_2 := dflK_none (F_merged.bindsN fun _ _ _ _ _ _ us hl => match us, hl with | [_, _], _ => rfl),
    b_needed_2 := dflK_none (F_needed.bindsN fun _ _ _ _ _ _ us hl => match us, hl with | [_, _], _ => rfl),
    b_tree_form_2 := dflK_none (F_tree_form.bindsN fun _ _ _ _ _ _ us hl => match us, hl with | [_, _], _ => rfl),
    b_word_form_2 := dflK_none (F_word_form.bindsN fun _ _ _ _ _ _ us hl => match us, hl with | [_, _], _ => rfl),
    k_plain_1_rules := kwB_plain F_plain 1 ["rules"] fun _ _ _ _ _ _ us ws l1 l2 => match us, ws, l1, l2 with | [_], [_], _, _ => rfl,
    bv_FamilyD_initD := StX.bind_star1 (B := fun us => bindArgs (PySem.W.fnOf "__init__" "Family.__init__" (defArgs s_FamilyD_initD) (defBody s_FamilyD_initD) (defScope s_FamilyD_initD) .none kV_FamilyD_initD dc_FamilyD_initD pm_FamilyD_initD an_FamilyD_initD cd_FamilyD_initD ct_FamilyD_initD) ⟨us, []⟩) (fun _ => rfl) (fun _ _ _ => rfl),
    bv_alike := bindVK_1_1 (fun _ _ => rfl) (fun _ _ _ _ => rfl),
    bd_BadRuleD_initD := F_BadRuleD_initD.bindsN fun _ _ _ _ _ _ us hl => match us, hl with | [_, _], _ => rfl,
    bd_NoWayD_initD := F_NoWayD_initD.bindsN fun _ _ _ _ _ _ us hl => match us, hl with | [_, _], _ => rfl,
    bd_RulesD_containsD := F_RulesD_containsD.bindsN fun _ _ _ _ _ _ us hl => match us, hl with | [_, _], _ => rfl,
    bd_RulesD_eqD := F_RulesD_eqD.bindsN fun _ _ _ _ _ _ us hl => match us, hl with | [_, _], _ => rfl,
    bd_RulesD_strD := F_RulesD_strD.bindsN fun _ _ _ _ _ _ us hl => match us, hl with | [_], _ => rfl,
    bd_Rules_every := F_Rules_every.bindsN fun _ _ _ _ _ _ us hl => match us, hl with | [_], _ => rfl,
    bd_WayD_mulD := F_WayD_mulD.bindsN fun _ _ _ _ _ _ us hl => match us, hl with | [_, _], _ => rfl,
    g_BadRule := g_BadRule,
    g_Family := g_Family,
    g_NoWay := g_NoWay,
    g_Rules := g_Rules,
    g_Way := g_Way,
    g_WayError := g_WayError,
    ci_Family := ci_Family,
    ci_Rules := ci_Rules,
    ci_Way := ci_Way,
    mk_Family := ⟨mk_Family, a_FamilyD_initD, i_FamilyD_initD, kc_Family⟩,
    mk_Rules := ⟨mk_Rules, a_RulesD_initD, i_RulesD_initD, kc_Rules⟩,
    mk_Way := ⟨mk_Way, a_WayD_initD, i_WayD_initD, kc_Way⟩,
    FC_Rules_every := ⟨⟨_, _, _, _, _, _, _, _, _, rfl, l_Rules_every⟩, c_Rules_every, k_Rules_every⟩,
    it_Rules_every := .inr ⟨by decide, c_Rules, p_Rules_every, f_Rules_every, _, g_Rules, cm_Rules_every, rc_Rules_every, ⟨_, _, _, _, K_Rules_every, l_Rules_every, rfl, ht_Rules_every⟩⟩,
    cr_Rules := ⟨cr_Rules, cg_Rules⟩,
    cm_Rules_every := ⟨cm_Rules_every, ⟨_, rc_Rules_every⟩, fi_Rules_every⟩,
    m_Family_above_another := ⟨a_Family_above_another, i_Family_above_another, k_Family_above_another⟩,
    m_Family_least := ⟨a_Family_least, i_Family_least, k_Family_least⟩,
    m_RulesD_containsD := ⟨a_RulesD_containsD, i_RulesD_containsD, k_RulesD_containsD⟩,
    m_RulesD_eqD := ⟨a_RulesD_eqD, i_RulesD_eqD, k_RulesD_eqD⟩,
    m_RulesD_strD := ⟨a_RulesD_strD, i_RulesD_strD, k_RulesD_strD⟩,
    m_Rules_within := ⟨a_Rules_within, i_Rules_within, k_Rules_within⟩,
    m_WayD_mulD := ⟨a_WayD_mulD, i_WayD_mulD, k_WayD_mulD⟩,
    m_Way_flipped := ⟨a_Way_flipped, i_Way_flipped, k_Way_flipped⟩,
    sf_Way := sf_Way,
    er_Rules := eqRight_of g_Rules nb_nil,
    fs_Family__members := (fs_cons ci_Family (by decide) fs_nil),
    fs_Rules__letters := (fs_cons ci_Rules (by decide) fs_nil),
    fs_Way__leaves := (fs_cons ci_Way (by decide) fs_nil),
    fs_Way__left := (fs_cons ci_Way (by decide) fs_nil),
    fs_Way__name := (fs_cons ci_Way (by decide) fs_nil),
    fs_Way__right := (fs_cons ci_Way (by decide) fs_nil),
    fs_Way__text := (fs_cons ci_Way (by decide) fs_nil),
    bx_WayError := ⟨br_WayError, bg_WayError, bv_WayError⟩,
    ex_BadRule := ⟨g_BadRule, oexC_mk xl_BadRule xr_BadRule xs_BadRule xe_BadRule xt_BadRule xk_BadRule, a_BadRuleD_initD, xi_BadRule, (na_cons xn_BadRule_letter na_nil)⟩,
    ex_NoWay := ⟨g_NoWay, oexC_mk xl_NoWay xr_NoWay xs_NoWay xe_NoWay xt_NoWay xk_NoWay, a_NoWayD_initD, xi_NoWay, (na_cons xn_NoWay_at na_nil)⟩,
    tb_isi := (tblL_cons (tn_c g_Rules).1 (tn_c g_Rules).2 (kit_own (.inr rfl) cf_Rules ct_Rules is_0) (tblL_cons (tn_c g_Family).1 (tn_c g_Family).2 (kit_own (.inr rfl) cf_Family ct_Family is_1) tblL_nil)),
    ic_isi := (isC_cons g_Rules ⟨ci_Rules.cl, oha_Rules, ohn, otk, mo_Rules⟩ (isC_cons g_Family ⟨ci_Family.cl, oha_Family, ohn, otk, mo_Family⟩ isC_nil)) }
  have b := FunD.bindsA (ps := ["_law_script"]) F_law fun _ _ _ _ _ _ us hl => match us, hl with | [_], _ => rfl
  exact ⟨_, K_Rules_every, t_Rules_every, fun s v => b s [v] rfl, et_Rules_every, nt_Rules_every, ht_Rules_every, fun base _ _ TB => dok_law1 T.it_Rules_every (ok_law T TB) law_plain⟩
end Lk55
open PySem PySem.W PyProof.Rows
set_option maxRecDepth 100000 in
set_option maxHeartbeats 0 in
theorem PySem.Challenge.cw_neededlaws_k55_known_least_rules_holds : PySem.Challenge.rw_neededlaws_k55_known_least_rules.Holds := by
  w_on; o_law; k_head; (case hw => w_witness2)
  k_fill
  refine DL.walkD1 (l := PySem.Challenge.rw_neededlaws_k55_known_least_rules) "_law_script" 124 rfl rfl ⟨rfl, by decide, by decide⟩ (fun w h Y => PySem.W.km_in_of Y) ?F
  case F =>
    intro w mg fa h Y KX G hmg
    refine' Lk55.facts KX G hmg ?aC_BadRule ?aC_Family ?aC_NoWay ?aC_Rules ?aC_Way ?aC_WayError ?a_l_draws ?l_l_draws ?c_l_draws ?k_l_draws ?a_l_cell ?l_l_cell ?c_l_cell ?k_l_cell ?a_l_pairs ?l_l_pairs ?c_l_pairs ?k_l_pairs ?a_NoWayD_initD ?i_NoWayD_initD ?l_NoWayD_initD ?c_NoWayD_initD ?k_NoWayD_initD ?a_expected ?l_expected ?c_expected ?k_expected ?a_end_of ?l_end_of ?c_end_of ?k_end_of ?a_WayD_initD ?i_WayD_initD ?l_WayD_initD ?c_WayD_initD ?k_WayD_initD ?a_l_renamed ?l_l_renamed ?c_l_renamed ?k_l_renamed ?a_WayD_mulD ?i_WayD_mulD ?l_WayD_mulD ?c_WayD_mulD ?k_WayD_mulD ?a_Way_flipped ?i_Way_flipped ?l_Way_flipped ?c_Way_flipped ?k_Way_flipped ?a_RulesD_strD ?i_RulesD_strD ?l_RulesD_strD ?c_RulesD_strD ?k_RulesD_strD ?a_Rules_within ?i_Rules_within ?l_Rules_within ?c_Rules_within ?k_Rules_within ?a_RulesD_eqD ?i_RulesD_eqD ?l_RulesD_eqD ?c_RulesD_eqD ?k_RulesD_eqD ?a_Family_above_another ?i_Family_above_another ?l_Family_above_another ?c_Family_above_another ?k_Family_above_another ?a_Family_least ?i_Family_least ?l_Family_least ?c_Family_least ?k_Family_least ?a_BadRuleD_initD ?i_BadRuleD_initD ?l_BadRuleD_initD ?c_BadRuleD_initD ?k_BadRuleD_initD ?a_RulesD_initD ?i_RulesD_initD ?l_RulesD_initD ?c_RulesD_initD ?k_RulesD_initD ?lT_RulesD_initD ?cm_Rules_every ?rc_Rules_every ?fi_Rules_every ?l_Rules_every ?c_Rules_every ?kf_Rules_every ?tb_Rules_every ?ht_Rules_every ?nt_Rules_every ?et_Rules_every ?k_Rules_every ?a_FamilyD_initD ?i_FamilyD_initD ?l_FamilyD_initD ?c_FamilyD_initD ?k_FamilyD_initD ?a_RulesD_containsD ?i_RulesD_containsD ?l_RulesD_containsD ?c_RulesD_containsD ?k_RulesD_containsD ?a_tree_form ?l_tree_form ?c_tree_form ?k_tree_form ?a_different ?l_different ?c_different ?k_different ?a_beginning ?l_beginning ?c_beginning ?k_beginning ?a_ending ?l_ending ?c_ending ?k_ending ?a_merged ?l_merged ?c_merged ?k_merged ?a_band_form ?l_band_form ?c_band_form ?k_band_form ?a_word_form ?l_word_form ?c_word_form ?k_word_form ?a_plain ?l_plain ?c_plain ?k_plain ?a_alike ?l_alike ?c_alike ?k_alike ?a_needed ?l_needed ?c_needed ?k_needed ?a_law ?l_law ?c_law ?k_law ?pg_Family ?hd_Family ?po_Family ?sa_Family ?mk_Family ?kc_Family ?na_Family_members ?pg_Rules ?hd_Rules ?po_Rules ?sa_Rules ?mk_Rules ?kc_Rules ?na_Rules_letters ?pg_Way ?hd_Way ?po_Way ?sa_Way ?mk_Way ?kc_Way ?na_Way_leaves ?na_Way_left ?na_Way_name ?na_Way_right ?na_Way_text ?sf_Way ?mo_Family ?mo_Rules ?ohn ?otk ?oha_Rules ?oha_Family ?is_0 ?cf_Rules ?ct_Rules ?is_1 ?cf_Family ?ct_Family ?br_WayError ?bg_WayError ?bv_WayError ?xl_BadRule ?xr_BadRule ?xs_BadRule ?xe_BadRule ?xt_BadRule ?xk_BadRule ?xi_BadRule ?xn_BadRule_letter ?xl_NoWay ?xr_NoWay ?xs_NoWay ?xe_NoWay ?xt_NoWay ?xk_NoWay ?xi_NoWay ?xn_NoWay_at ?n_abs ?n_all ?n_any ?n_enumerate ?n_int ?n_isinstance ?n_len ?n_list ?n_min ?n_range ?n_reversed ?n_set ?n_sorted ?n_str ?s_LETTERS_rules ?s_LETTERS_ways ?s_LONGEST_NAME ?cr_Rules ?cg_Rules
    (case aC_BadRule => k_is)
    (case aC_Family => k_is)
    (case aC_NoWay => k_is)
    (case aC_Rules => k_is)
    (case aC_Way => k_is)
    (case aC_WayError => k_is)
    (case a_l_draws => k_is)
    (case l_l_draws => k_is)
    (case c_l_draws => k_is)
    (case k_l_draws => k_is)
    (case a_l_cell => k_is)
    (case l_l_cell => k_is)
    (case c_l_cell => k_is)
    (case k_l_cell => k_is)
    (case a_l_pairs => k_is)
    (case l_l_pairs => k_is)
    (case c_l_pairs => k_is)
    (case k_l_pairs => k_is)
    (case a_NoWayD_initD => k_is)
    (case i_NoWayD_initD => k_is)
    (case l_NoWayD_initD => k_is)
    (case c_NoWayD_initD => k_is)
    (case k_NoWayD_initD => k_is)
    (case a_expected => k_is)
    (case l_expected => k_is)
    (case c_expected => k_is)
    (case k_expected => k_is)
    (case a_end_of => k_is)
    (case l_end_of => k_is)
    (case c_end_of => k_is)
    (case k_end_of => k_is)
    (case a_WayD_initD => k_is)
    (case i_WayD_initD => k_is)
    (case l_WayD_initD => k_is)
    (case c_WayD_initD => k_is)
    (case k_WayD_initD => k_is)
    (case a_l_renamed => k_is)
    (case l_l_renamed => k_is)
    (case c_l_renamed => k_is)
    (case k_l_renamed => k_is)
    (case a_WayD_mulD => k_is)
    (case i_WayD_mulD => k_is)
    (case l_WayD_mulD => k_is)
    (case c_WayD_mulD => k_is)
    (case k_WayD_mulD => k_is)
    (case a_Way_flipped => k_is)
    (case i_Way_flipped => k_is)
    (case l_Way_flipped => k_is)
    (case c_Way_flipped => k_is)
    (case k_Way_flipped => k_is)
    (case a_RulesD_strD => k_is)
    (case i_RulesD_strD => k_is)
    (case l_RulesD_strD => k_is)
    (case c_RulesD_strD => k_is)
    (case k_RulesD_strD => k_is)
    (case a_Rules_within => k_is)
    (case i_Rules_within => k_is)
    (case l_Rules_within => k_is)
    (case c_Rules_within => k_is)
    (case k_Rules_within => k_is)
    (case a_RulesD_eqD => k_is)
    (case i_RulesD_eqD => k_is)
    (case l_RulesD_eqD => k_is)
    (case c_RulesD_eqD => k_is)
    (case k_RulesD_eqD => k_is)
    (case a_Family_above_another => k_is)
    (case i_Family_above_another => k_is)
    (case l_Family_above_another => k_is)
    (case c_Family_above_another => k_is)
    (case k_Family_above_another => k_is)
    (case a_Family_least => k_is)
    (case i_Family_least => k_is)
    (case l_Family_least => k_is)
    (case c_Family_least => k_is)
    (case k_Family_least => k_is)
    (case a_BadRuleD_initD => k_is)
    (case i_BadRuleD_initD => k_is)
    (case l_BadRuleD_initD => k_is)
    (case c_BadRuleD_initD => k_is)
    (case k_BadRuleD_initD => k_is)
    (case a_RulesD_initD => k_is)
    (case i_RulesD_initD => k_is)
    (case l_RulesD_initD => k_is)
    (case c_RulesD_initD => k_is)
    (case k_RulesD_initD => k_is)
    (case lT_RulesD_initD => k_is)
    (case cm_Rules_every => k_is)
    (case rc_Rules_every => k_is)
    (case fi_Rules_every => k_is)
    (case l_Rules_every => k_is)
    (case c_Rules_every => k_is)
    (case kf_Rules_every => k_is)
    (case tb_Rules_every => rfl)
    (case ht_Rules_every => kernel_rfl)
    (case nt_Rules_every => first | rfl | kernel_rfl)
    (case et_Rules_every => exact PySem.W.km_tabs_of Y _ (by k_mem))
    (case k_Rules_every => k_is)
    (case a_FamilyD_initD => k_is)
    (case i_FamilyD_initD => k_is)
    (case l_FamilyD_initD => k_is)
    (case c_FamilyD_initD => k_is)
    (case k_FamilyD_initD => k_is)
    (case a_RulesD_containsD => k_is)
    (case i_RulesD_containsD => k_is)
    (case l_RulesD_containsD => k_is)
    (case c_RulesD_containsD => k_is)
    (case k_RulesD_containsD => k_is)
    (case a_tree_form => k_is)
    (case l_tree_form => k_is)
    (case c_tree_form => k_is)
    (case k_tree_form => k_is)
    (case a_different => k_is)
    (case l_different => k_is)
    (case c_different => k_is)
    (case k_different => k_is)
    (case a_beginning => k_is)
    (case l_beginning => k_is)
    (case c_beginning => k_is)
    (case k_beginning => k_is)
    (case a_ending => k_is)
    (case l_ending => k_is)
    (case c_ending => k_is)
    (case k_ending => k_is)
    (case a_merged => k_is)
    (case l_merged => k_is)
    (case c_merged => k_is)
    (case k_merged => k_is)
    (case a_band_form => k_is)
    (case l_band_form => k_is)
    (case c_band_form => k_is)
    (case k_band_form => k_is)
    (case a_word_form => k_is)
    (case l_word_form => k_is)
    (case c_word_form => k_is)
    (case k_word_form => k_is)
    (case a_plain => k_is)
    (case l_plain => k_is)
    (case c_plain => k_is)
    (case k_plain => k_is)
    (case a_alike => k_is)
    (case l_alike => k_is)
    (case c_alike => k_is)
    (case k_alike => k_is)
    (case a_needed => k_is)
    (case l_needed => k_is)
    (case c_needed => k_is)
    (case k_needed => k_is)
    (case a_law => k_is)
    (case l_law => k_is)
    (case c_law => k_is)
    (case k_law => k_is)
    (case pg_Family => k_is)
    (case hd_Family => k_is)
    (case po_Family => k_is)
    (case sa_Family => k_is)
    (case mk_Family => k_is)
    (case kc_Family => k_is)
    (case na_Family_members => k_is)
    (case pg_Rules => k_is)
    (case hd_Rules => k_is)
    (case po_Rules => k_is)
    (case sa_Rules => k_is)
    (case mk_Rules => k_is)
    (case kc_Rules => k_is)
    (case na_Rules_letters => k_is)
    (case pg_Way => k_is)
    (case hd_Way => k_is)
    (case po_Way => k_is)
    (case sa_Way => k_is)
    (case mk_Way => k_is)
    (case kc_Way => k_is)
    (case na_Way_leaves => k_is)
    (case na_Way_left => k_is)
    (case na_Way_name => k_is)
    (case na_Way_right => k_is)
    (case na_Way_text => k_is)
    (case sf_Way => k_is)
    (case mo_Family => k_is)
    (case mo_Rules => k_is)
    (case ohn => k_is)
    (case otk => k_is)
    (case oha_Rules => k_is)
    (case oha_Family => k_is)
    (case is_0 => k_is)
    (case cf_Rules => k_is)
    (case ct_Rules => k_is)
    (case is_1 => k_is)
    (case cf_Family => k_is)
    (case ct_Family => k_is)
    (case br_WayError => k_is)
    (case bg_WayError => k_is)
    (case bv_WayError => k_is)
    (case xl_BadRule => k_is)
    (case xr_BadRule => rfl)
    (case xs_BadRule => k_is)
    (case xe_BadRule => k_is)
    (case xt_BadRule => k_is)
    (case xk_BadRule => k_is)
    (case xi_BadRule => k_is)
    (case xn_BadRule_letter => k_is)
    (case xl_NoWay => k_is)
    (case xr_NoWay => rfl)
    (case xs_NoWay => k_is)
    (case xe_NoWay => k_is)
    (case xt_NoWay => k_is)
    (case xk_NoWay => k_is)
    (case xi_NoWay => k_is)
    (case xn_NoWay_at => k_is)
    (case n_abs => k_is)
    (case n_all => k_is)
    (case n_any => k_is)
    (case n_enumerate => k_is)
    (case n_int => k_is)
    (case n_isinstance => k_is)
    (case n_len => k_is)
    (case n_list => k_is)
    (case n_min => k_is)
    (case n_range => k_is)
    (case n_reversed => k_is)
    (case n_set => k_is)
    (case n_sorted => k_is)
    (case n_str => k_is)
    (case s_LETTERS_rules => k_is)
    (case s_LETTERS_ways => k_is)
    (case s_LONGEST_NAME => k_is)
    (case cr_Rules => k_is)
    (case cg_Rules => k_is)
