import PyProof.Rows.All
import Wide.All
import OpenK.AllK
import Wide.FinOn
import HandS.ForMost
import HandS.ForExc
import HandS.CallSlots
import HandS.ClsMeth
import HandS.Lambda
import KE.KNestM
import HandS.Wide
import HandS.TupAny
import HandS.Deep
import HandS.IsInst
import HandS.More
import HandS.StrMore
import HandS.Flow
import HandS.Iter
import HandS.RevRange
import HandS.Defaults
import HandS.OwnEq
import HandS.Text
import HandS.WordsExc
import KE.KOpsOwn
import KE.KCallOwn
import HandS.SlotsOwn
import HandS.RaiseMore
import HandS.Small
import HandS.Style
import HandS.TryOnly
import HandS.ExcInit
import HandS.ExcField
import HandS.FStr
import HandS.StrSplit
import KE.SortKeyHeap
import KE.KSortKey
import HandS.EndTab
import HandS.HeadWalk
import KE.KRevSl
import HandS.HotCalls
import KE.GoesEnum
import HandS.SetFor
import HandS.Dict
import HandS.Conv
import HandS.NoneIn
import HandS.SetBool
import HandS.Star
import HandS.TupLe
import HandS.MakeKwOnly
import HandS.ReplaceLit
import HandS.ReplaceDef
import PyProof.EqAt
import HandS.OwnIter
import HandS.IterVal
import PyProof.NeKinds
import HandS.SuiteRaise
import HandS.ExcInitHot
import HandS.RaiseFrom
import HandS.DictComp
import HandS.ReplaceList
import PySem.Challenge.RW_neededlaws_k91_forms_counted
set_option Elab.async false
set_option linter.all false
set_option maxRecDepth 100000
namespace DL
open PySem PySem.Spec L2
open PyProof.Rows hiding St
/-- plain data; a text is its codes; an object carries its class's name, its attributes' names and values -/
inductive D where
  | non
  | bl (b : Bool)
  | int (i : Int)
  | str (x : List Nat)
  | tup (ds : List D)
  | lst (ds : List D)
  | flst (ds : List D)
  | obj (C : String) (ns : List String) (ds : List D)
  | dic (ks : List D) (ds : List D)
  | glo (x : String)
  | ty (n : String)
  | exn (C : String) (ns : List String) (ds : List D) (x d : Addr)
  | cell (n : Nat)
/-- what stands in a changeable place -/
inductive MO where
  | lst (ds : List D)
  | obj (C : String) (ns : List String) (ds : List D)
  | dic (ks : List D) (ds : List D)
  /-- place i is the table of the code of C.m -/
  | tab (i : Nat) (C m : String)
abbrev MS := List MO
/-- how a piece of the program ends -/
inductive Res (A : Type) where
  | ok (a : A) (M : MS)
  | exc (C : String) (ns : List String) (ds : List D) (M : MS)
  | stuck
def Res.bind {A B : Type} (x : Res A) (k : A → MS → Res B) : Res B :=
  match x with
  | .ok a M => k a M
  | .exc C ns ds M => .exc C ns ds M
  | .stuck => .stuck
@[simp] theorem Res.bind_ok {A B : Type} (a : A) (M : MS) (k : A → MS → Res B) : (Res.ok a M).bind k = k a M := rfl
@[simp] theorem Res.bind_exc {A B : Type} (C : String) (ns : List String) (ds : List D) (M : MS) (k : A → MS → Res B) : (Res.exc C ns ds M : Res A).bind k = .exc C ns ds M := rfl
@[simp] theorem Res.bind_stuck {A B : Type} (k : A → MS → Res B) : (Res.stuck : Res A).bind k = .stuck := rfl
/-- the places that are looked through: changeable ones by number, and hidden ones -/
structure Pl where
  ro : List Addr
  hid : List Addr
abbrev Pl.all (p : Pl) : List Addr := p.ro ++ p.hid
abbrev tx (x : List Nat) : Str := ⟨x.toArray⟩
def zipF (ns : List String) (vs : List V) : List (Str × V) := (ns.map Str.ofString).zip vs
/-- a key of a dict, as data -/
def keyD : D → Option Key
  | .int i => some (.inl i)
  | .str x => some (.inr (tx x))
  | _ => none
def keysD : List D → Option (List Key)
  | [] => some []
  | d :: r => match keyD d, keysD r with
    | some k, some l => some (k :: l)
    | _, _ => none
def KL (K : PySem.W.Frag) (a : Addr) (xs : List V) : Prop :=
  ∃ (o : Obj) (its : Array Value) (n : Nat), K.lookup a = some o ∧ o.cls = .type "list" ∧ o.dict = none ∧ o.data = .seq its n ∧ its.size ≤ sizeLine ∧ Vals xs its.toList
def KT (K : PySem.W.Frag) (a : Addr) (xs : List V) : Prop :=
  ∃ (o : Obj) (its : Array Value) (n : Nat), K.lookup a = some o ∧ o.cls = .type "tuple" ∧ o.data = .seq its n ∧ its.size ≤ sizeLine ∧ Vals xs its.toList
/-- a list, a tuple that stays as it is: no changeable place, or one of the written part -/
def SL (K : PySem.W.Frag) (ro : Pl) (H : Hp) (a : Addr) (xs : List V) : Prop := (Rd H a (.lst xs) ∧ a ∉ ro.all) ∨ KL K a xs
def ST (K : PySem.W.Frag) (ro : Pl) (H : Hp) (a : Addr) (xs : List V) : Prop := (Rd H a (.tup xs) ∧ a ∉ ro.all) ∨ KT K a xs
theorem SL.sq {K : PySem.W.Frag} {ro : Pl} {H : Hp} {a : Addr} {xs : List V} (h : SL K ro H a xs) : SqL K H a xs := by
  rcases h with ⟨h, _⟩ | h
  · exact .inl h
  · exact .inr h
theorem ST.sq {K : PySem.W.Frag} {ro : Pl} {H : Hp} {a : Addr} {xs : List V} (h : ST K ro H a xs) : SqT K H a xs := by
  rcases h with ⟨h, _⟩ | h
  · exact .inl h
  · exact .inr h
mutual
/-- the value v stands for the datum, with the changeable places at ro -/
def Rep (K : PySem.W.Frag) (mg : Str → Option Value) (ro : Pl) (H : Hp) : D → V → Prop
  | .non, v => v = .non
  | .bl b, v => v = .bl b
  | .int i, v => v = .int i
  | .str x, v => v = .str (tx x)
  | .tup ds, v => ∃ a vs, v = .ref a ∧ ST K ro H a vs ∧ Reps K mg ro H ds vs
  | .lst ds, v => ∃ a vs, v = .ref a ∧ H a = some (.lst vs) ∧ a ∉ ro.all ∧ Reps K mg ro H ds vs
  | .flst ds, v => ∃ a vs, v = .ref a ∧ SL K ro H a vs ∧ Reps K mg ro H ds vs
  | .obj C ns ds, v => ∃ a c dx vs, v = .ref a ∧ mg (Str.ofString C) = some (.ref c) ∧ H a = some (.ins c dx (zipF ns vs)) ∧ a ∉ ro.all ∧ ns.length = vs.length ∧ Reps K mg ro H ds vs
  | .dic ks ds, v => ∃ a kl vs, v = .ref a ∧ keysD ks = some kl ∧ kl.length = vs.length ∧ H a = some (.dK (kl.zip vs)) ∧ a ∉ ro.all ∧ Reps K mg ro H ds vs
  | .glo x, v => ∃ a, v = .ref a ∧ mg (Str.ofString x) = some (.ref a)
  | .ty n, v => v = .ty n
  | .exn C ns ds x d, v => ∃ a vs, (v = .ref a ∧ a = x) ∧ H d = some (.xd (zipF ns vs)) ∧ d ∉ ro.all ∧ ns.length = vs.length ∧ Reps K mg ro H ds vs
  | .cell n, v => ∃ a, v = .ref a ∧ ro.ro[n]? = some a
def Reps (K : PySem.W.Frag) (mg : Str → Option Value) (ro : Pl) (H : Hp) : List D → List V → Prop
  | [], vs => vs = []
  | d :: ds, vs => ∃ v r, vs = v :: r ∧ Rep K mg ro H d v ∧ Reps K mg ro H ds r
end
/-- what was tracked outside of the changeable places stands; changeable places are old ones or new -/
structure Pres (ro : Pl) (H : Hp) (ro' : Pl) (H' : Hp) : Prop where
  pre : ∃ t, ro'.ro = ro.ro ++ t
  hid : ro'.hid = ro.hid
  keep : ∀ a o, H a = some o → a ∉ ro.ro → H' a = some o
  new : ∀ a, a ∈ ro'.ro → a ∈ ro.ro ∨ H a = none
theorem Pres.refl (ro : Pl) (H : Hp) : Pres ro H ro H := ⟨⟨[], by simp⟩, rfl, fun _ _ h _ => h, fun _ h => .inl h⟩
theorem Pres.mem {ro ro' : Pl} {H H' : Hp} (p : Pres ro H ro' H') {a : Addr} (h : a ∈ ro.ro) : a ∈ ro'.ro := by
  obtain ⟨t, e⟩ := p.pre
  rw [e]; exact List.mem_append_left _ h
theorem Pres.trans {r0 r1 r2 : Pl} {H0 H1 H2 : Hp} (p : Pres r0 H0 r1 H1) (q : Pres r1 H1 r2 H2) : Pres r0 H0 r2 H2 := by
  refine ⟨?_, q.hid.trans p.hid, fun a o h hn => ?_, fun a h => ?_⟩
  · obtain ⟨t, e⟩ := p.pre
    obtain ⟨u, e'⟩ := q.pre
    exact ⟨t ++ u, by rw [e', e, List.append_assoc]⟩
  · refine q.keep a o (p.keep a o h hn) fun hm => ?_
    rcases p.new a hm with z | z
    · exact hn z
    · rw [h] at z; cases z
  · rcases q.new a h with z | z
    · exact p.new a z
    · by_cases hm : a ∈ r0.ro
      · exact .inl hm
      · refine .inr ?_
        cases e : H0 a with
        | none => rfl
        | some o => rw [p.keep a o e hm] at z; cases z
theorem Pl.out_ro {p : Pl} {a : Addr} (h : a ∉ p.all) : a ∉ p.ro := fun z => h (List.mem_append_left _ z)
theorem Pl.out_hid {p : Pl} {a : Addr} (h : a ∉ p.all) : a ∉ p.hid := fun z => h (List.mem_append_right _ z)
theorem Pres.out {ro ro' : Pl} {H H' : Hp} (p : Pres ro H ro' H') {a : Addr} (hn : a ∉ ro.all) (hl : H a ≠ none) : a ∉ ro'.all := fun hm => by
  rcases List.mem_append.mp hm with hm | hm
  · rcases p.new a hm with z | z
    · exact Pl.out_ro hn z
    · exact hl z
  · rw [p.hid] at hm; exact Pl.out_hid hn hm
theorem Pres.get {ro ro' : Pl} {H H' : Hp} (p : Pres ro H ro' H') {n : Nat} {a : Addr} (h : ro.ro[n]? = some a) : ro'.ro[n]? = some a := by
  obtain ⟨t, e⟩ := p.pre
  rw [e, List.getElem?_append_left (List.getElem?_eq_some_iff.mp h).1]
  exact h
/-- the same where more may be hidden -/
structure PresW (ro : Pl) (H : Hp) (ro' : Pl) (H' : Hp) : Prop where
  pre : ∃ t, ro'.ro = ro.ro ++ t
  keep : ∀ a o, H a = some o → a ∉ ro.all → H' a = some o
  new : ∀ a, a ∈ ro'.all → a ∈ ro.all ∨ H a = none
theorem Pres.w {ro ro' : Pl} {H H' : Hp} (p : Pres ro H ro' H') : PresW ro H ro' H' := ⟨p.pre, fun a o h n => p.keep a o h (Pl.out_ro n), fun a h => by
  rcases List.mem_append.mp h with h | h
  · rcases p.new a h with z | z
    · exact .inl (List.mem_append_left _ z)
    · exact .inr z
  · rw [p.hid] at h; exact .inl (List.mem_append_right _ h)⟩
theorem PresW.out {ro ro' : Pl} {H H' : Hp} (p : PresW ro H ro' H') {a : Addr} (hn : a ∉ ro.all) (hl : H a ≠ none) : a ∉ ro'.all := fun hm => by
  rcases p.new a hm with z | z
  · exact hn z
  · exact hl z
theorem PresW.get {ro ro' : Pl} {H H' : Hp} (p : PresW ro H ro' H') {n : Nat} {a : Addr} (h : ro.ro[n]? = some a) : ro'.ro[n]? = some a := by
  obtain ⟨t, e⟩ := p.pre
  rw [e, List.getElem?_append_left (List.getElem?_eq_some_iff.mp h).1]
  exact h
section
variable {K : PySem.W.Frag} {mg : Str → Option Value} {ro ro' : Pl} {H H' : Hp}
theorem PresW.rd (p : PresW ro H ro' H') {a : Addr} {u : HO} (h : Rd H a u) (hn : a ∉ ro.all) : Rd H' a u ∧ a ∉ ro'.all := by
  rcases h with h | ⟨o, h⟩
  · exact ⟨.inl (p.keep a _ h hn), p.out hn (by rw [h]; simp)⟩
  · exact ⟨.inr ⟨o, p.keep a _ h hn⟩, p.out hn (by rw [h]; simp)⟩
theorem PresW.sl (p : PresW ro H ro' H') {a : Addr} {vs : List V} (h : SL K ro H a vs) : SL K ro' H' a vs := by
  rcases h with ⟨h, n⟩ | h
  · exact .inl (p.rd h n)
  · exact .inr h
theorem PresW.st (p : PresW ro H ro' H') {a : Addr} {vs : List V} (h : ST K ro H a vs) : ST K ro' H' a vs := by
  rcases h with ⟨h, n⟩ | h
  · exact .inl (p.rd h n)
  · exact .inr h
mutual
theorem Rep.monoW (p : PresW ro H ro' H') : ∀ (d : D) (v : V), Rep K mg ro H d v → Rep K mg ro' H' d v
  | .non, v, h => h
  | .bl b, v, h => h
  | .int i, v, h => h
  | .str x, v, h => h
  | .tup ds, v, ⟨a, vs, e, q, r⟩ => ⟨a, vs, e, p.st q, Reps.monoW p ds vs r⟩
  | .lst ds, v, ⟨a, vs, e, q, n, r⟩ => ⟨a, vs, e, p.keep a _ q n, p.out n (by rw [q]; simp), Reps.monoW p ds vs r⟩
  | .flst ds, v, ⟨a, vs, e, q, r⟩ => ⟨a, vs, e, p.sl q, Reps.monoW p ds vs r⟩
  | .obj C ns ds, v, ⟨a, c, dx, vs, e, g, q, n, l, r⟩ => ⟨a, c, dx, vs, e, g, p.keep a _ q n, p.out n (by rw [q]; simp), l, Reps.monoW p ds vs r⟩
  | .dic ks ds, v, ⟨a, kl, vs, e, g, l, q, n, r⟩ => ⟨a, kl, vs, e, g, l, p.keep a _ q n, p.out n (by rw [q]; simp), Reps.monoW p ds vs r⟩
  | .glo x, v, h => h
  | .ty n, v, h => h
  | .exn C ns ds x d, v, ⟨a, vs, e, q, n, l, r⟩ => ⟨a, vs, e, p.keep d _ q n, p.out n (by rw [q]; simp), l, Reps.monoW p ds vs r⟩
  | .cell n, v, ⟨a, e, g⟩ => ⟨a, e, p.get g⟩
theorem Reps.monoW (p : PresW ro H ro' H') : ∀ (ds : List D) (vs : List V), Reps K mg ro H ds vs → Reps K mg ro' H' ds vs
  | [], vs, h => h
  | d :: ds, vs, ⟨v, r, e, h, t⟩ => ⟨v, r, e, Rep.monoW p d v h, Reps.monoW p ds r t⟩
end
theorem Rep.mono (p : Pres ro H ro' H') (d : D) (v : V) (h : Rep K mg ro H d v) : Rep K mg ro' H' d v := Rep.monoW p.w d v h
theorem Reps.mono (p : Pres ro H ro' H') (ds : List D) (vs : List V) (h : Reps K mg ro H ds vs) : Reps K mg ro' H' ds vs := Reps.monoW p.w ds vs h
end
/-- the def at g has the table P -/
def TabOf (K : PySem.W.Frag) (g P : Addr) : Prop := ∃ (oc : Value) (od : Option Addr) (fd : FuncData) (sl : Array (Option Value)) (c : Addr), K.lookup g = some ⟨oc, od, .func fd, sl⟩ ∧ fd.code = .ref c ∧ PySem.W.codeHdIn K c P = true
/-- the table of the classmethod C.m, of the def m -/
def IsTab (K : PySem.W.Frag) (mg : Str → Option Value) (C m : String) (P : Addr) : Prop :=
  (C = "" ∧ ∃ g, mg (Str.ofString m) = some (.ref g) ∧ TabOf K g P) ∨
  (C ≠ "" ∧ ∃ c p g rest, mg (Str.ofString C) = some (.ref c) ∧ PySem.W.findCls K (.ref c) (.type "type") (Str.ofString m) = some (.get (.builtin "classmethod.__get__") (.ref p) .none (.ref c)) ∧ PySem.W.recIn K p "classmethod" = some (.ref g :: rest) ∧ TabOf K g P)
/-- the name of the code that the def C.m's lambda has -/
def lamQ (C m : String) : Str := (if C = "" then Str.ofString m else Str.ofString C ++ "." ++ Str.ofString m) ++ ".<locals>." ++ "<lambda>"
/-- what stands at a changeable place -/
def MRel (K : PySem.W.Frag) (mg : Str → Option Value) (ro : Pl) (H : Hp) : MO → HO → Prop
  | .lst ds, ho => ∃ vs, ho = .lst vs ∧ Reps K mg ro H ds vs
  | .obj C ns ds, ho => ∃ c dx vs, ho = .ins c dx (zipF ns vs) ∧ mg (Str.ofString C) = some (.ref c) ∧ ns.length = vs.length ∧ Reps K mg ro H ds vs
  | .dic ks ds, ho => ∃ kl vs, ho = .dK (kl.zip vs) ∧ keysD ks = some kl ∧ kl.length = vs.length ∧ Reps K mg ro H ds vs
  | .tab i C m, ho => ∃ ps P, ho = .tbl ps ∧ (TriplesOk ps.toList ∧ ∀ (pos : Pos) (cv : Value), codeAmong pos ps.toList = some cv → ∃ c, cv = .ref c ∧ H c = some (LamX.CodeO c (lamQ C m)) ∧ c ∉ ro.all) ∧ ro.ro[i]? = some P ∧ IsTab K mg C m P
/-- the changeable places -/
structure RelS (K : PySem.W.Frag) (mg : Str → Option Value) (ro : Pl) (M : MS) (H : Hp) : Prop where
  len : ro.ro.length = M.length
  nd : ro.ro.Nodup
  live : ∀ a, a ∈ ro.hid → ∃ o, H a = some o
  dis : ∀ a, a ∈ ro.ro → a ∉ ro.hid
  at_ : ∀ (i : Nat) mo a, M[i]? = some mo → ro.ro[i]? = some a → ∃ ho, H a = some ho ∧ MRel K mg ro H mo ho
/-- the slots -/
def RepSt (K : PySem.W.Frag) (mg : Str → Option Value) (ro : Pl) (H : Hp) (sd : List (Option D)) (st : St) : Prop :=
  sd.length = st.length ∧ ∀ (i : Nat) d, sd[i]? = some (some d) → ∃ v, st[i]? = some (some v) ∧ Rep K mg ro H d v
theorem RepSt.mono {K : PySem.W.Frag} {mg : Str → Option Value} {ro ro' : Pl} {H H' : Hp} {sd : List (Option D)} {st : St} (p : Pres ro H ro' H') (h : RepSt K mg ro H sd st) : RepSt K mg ro' H' sd st :=
  ⟨h.1, fun i d e => let ⟨v, e', r⟩ := h.2 i d e; ⟨v, e', Rep.mono p d v r⟩⟩
theorem RepSt.monoW {K : PySem.W.Frag} {mg : Str → Option Value} {ro ro' : Pl} {H H' : Hp} {sd : List (Option D)} {st : St} (p : PresW ro H ro' H') (h : RepSt K mg ro H sd st) : RepSt K mg ro' H' sd st :=
  ⟨h.1, fun i d e => let ⟨v, e', r⟩ := h.2 i d e; ⟨v, e', Rep.monoW p d v r⟩⟩
theorem RepSt.set {K : PySem.W.Frag} {mg : Str → Option Value} {ro : Pl} {H : Hp} {sd : List (Option D)} {st : St} (h : RepSt K mg ro H sd st) {i : Nat} {d : D} {v : V} (r : Rep K mg ro H d v) : RepSt K mg ro H (sd.set i (some d)) (st.set i (some v)) := by
  refine ⟨by simp [h.1], fun j e q => ?_⟩
  by_cases hj : i = j
  · subst hj
    by_cases hl : i < sd.length
    · rw [List.getElem?_set_self hl] at q
      cases q
      exact ⟨v, by rw [List.getElem?_set_self (by rw [← h.1]; exact hl)], r⟩
    · rw [List.getElem?_eq_none (by simpa using hl)] at q; cases q
  · rw [List.getElem?_set_ne hj] at q
    obtain ⟨w, e', r'⟩ := h.2 j e q
    exact ⟨w, by rw [List.getElem?_set_ne hj]; exact e', r'⟩
theorem RepSt.unset {K : PySem.W.Frag} {mg : Str → Option Value} {ro : Pl} {H : Hp} {sd : List (Option D)} {st : St} (h : RepSt K mg ro H sd st) {i : Nat} {o : Option V} : RepSt K mg ro H (sd.set i none) (st.set i o) := by
  refine ⟨by simp [h.1], fun j e q => ?_⟩
  by_cases hj : i = j
  · subst hj
    by_cases hl : i < sd.length
    · rw [List.getElem?_set_self hl] at q; cases q
    · rw [List.getElem?_eq_none (by simpa using hl)] at q; cases q
  · rw [List.getElem?_set_ne hj] at q
    obtain ⟨w, e', r'⟩ := h.2 j e q
    exact ⟨w, by rw [List.getElem?_set_ne hj]; exact e', r'⟩
/-- an exception as HandS tells it: its class and its own dict -/
def RepX (K : PySem.W.Frag) (mg : Str → Option Value) (ro : Pl) (H : Hp) (C : String) (ns : List String) (ds : List D) (cls : Value) (dd : Option Addr) : Prop :=
  ∃ c, cls = .ref c ∧ mg (Str.ofString C) = some (.ref c) ∧ ((dd = none ∧ ns = [] ∧ ds = []) ∨ ∃ d vs, dd = some d ∧ H d = some (.xd (zipF ns vs)) ∧ d ∉ ro.all ∧ ns.length = vs.length ∧ Reps K mg ro H ds vs)
/-- what is to be shown where a piece has ended so; W: what is wished of an exception -/
def Post {A B : Type} (R : Pl → Hp → A → B → Prop) (K : PySem.W.Frag) (mg : Str → Option Value) (E : XK) (ro : Pl) (H : Hp) (Q : B → Hp → Prop) : Res A → Prop
  | .ok a M => ∀ ro' H' v, RelS K mg ro' M H' → Pres ro H ro' H' → R ro' H' a v → Q v H'
  | .exc C ns ds M => ∀ ro' H' cls dd, RelS K mg ro' M H' → Pres ro H ro' H' → RepX K mg ro' H' C ns ds cls dd → E cls dd H'
  | .stuck => False
section
variable {A A' B B' : Type} {R : Pl → Hp → A → B → Prop} {R' : Pl → Hp → A' → B' → Prop} {K : PySem.W.Frag} {mg : Str → Option Value} {E : XK} {ro ro1 : Pl} {H H1 : Hp} {Q : B → Hp → Prop}
theorem Post.moves {x : Res A} (h : Post R K mg E ro H Q x) (p : Pres ro H ro1 H1) : Post R K mg E ro1 H1 Q x := by
  cases x with
  | ok a M => exact fun ro' H' v rs q r => h ro' H' v rs (p.trans q) r
  | exc C ns ds M => exact fun ro' H' cls dd rs q r => h ro' H' cls dd rs (p.trans q) r
  | stuck => exact h
/-- one piece behind another -/
theorem Post.bind {x : Res A} {k : A → MS → Res A'} {Q' : B' → Hp → Prop} (h : Post R' K mg E ro H Q' (x.bind k)) :
    Post R K mg E ro H (fun v H1 => ∃ ro1 M1 a, RelS K mg ro1 M1 H1 ∧ Pres ro H ro1 H1 ∧ R ro1 H1 a v ∧ Post R' K mg E ro1 H1 Q' (k a M1)) x := by
  cases x with
  | ok a M => exact fun ro' H' v rs q r => ⟨ro', M, a, rs, q, r, Post.moves h q⟩
  | exc C ns ds M => exact h
  | stuck => exact h
theorem Post.imp {x : Res A} {Q' : B → Hp → Prop} (h : Post R K mg E ro H Q x) (f : ∀ v H', Q v H' → Q' v H') : Post R K mg E ro H Q' x := by
  cases x with
  | ok a M => exact fun ro' H' v rs q r => f _ _ (h ro' H' v rs q r)
  | exc C ns ds M => exact h
  | stuck => exact h
end
abbrev PostD (K : PySem.W.Frag) (mg : Str → Option Value) (E : XK) (ro : Pl) (H : Hp) (Q : VK) (x : Res D) : Prop := Post (fun ro' H' d v => Rep K mg ro' H' d v) K mg E ro H Q x
abbrev PostB (K : PySem.W.Frag) (mg : Str → Option Value) (E : XK) (ro : Pl) (H : Hp) (Q : Bool → Hp → Prop) (x : Res Bool) : Prop := Post (fun _ _ (b : Bool) c => c = b) K mg E ro H Q x
abbrev PostA (K : PySem.W.Frag) (mg : Str → Option Value) (E : XK) (ro : Pl) (H : Hp) (Q : List V → Hp → Prop) (x : Res (List D)) : Prop := Post (fun ro' H' ds vs => Reps K mg ro' H' ds vs) K mg E ro H Q x
abbrev SD := List (Option D)
abbrev ME := SD → MS → Res D
abbrev MB := SD → MS → Res Bool
abbrev MA := SD → MS → Res (List D)
def liftE (K : PySem.W.Frag) (mg : Str → Option Value) (W : WX) (m : ME) : TE := fun st H Q => ∃ ro sd M, RelS K mg ro M H ∧ RepSt K mg ro H sd st ∧ PostD K mg (fun c d H' => W c d st H') ro H Q (m sd M)
def liftB (K : PySem.W.Frag) (mg : Str → Option Value) (W : WX) (m : MB) : TT := fun st H Q => ∃ ro sd M, RelS K mg ro M H ∧ RepSt K mg ro H sd st ∧ PostB K mg (fun c d H' => W c d st H') ro H Q (m sd M)
def liftA (K : PySem.W.Frag) (mg : Str → Option Value) (W : WX) (m : MA) : TA := fun st H Q => ∃ ro sd M, RelS K mg ro M H ∧ RepSt K mg ro H sd st ∧ PostA K mg (fun c d H' => W c d st H') ro H Q (m sd M)
structure DE (X : Cx) (W : WX) (e : Expr) (m : ME) : Prop where
  pe : PE X e (liftE X.K X.mg W m)
structure DT (X : Cx) (W : WX) (e : Expr) (m : MB) : Prop where
  pt : PT X e (liftB X.K X.mg W m)
structure DW (X : Cx) (W : WX) (e : Expr) (m : MB) : Prop where
  pw : PW X e (liftB X.K X.mg W m)
structure DA (X : Cx) (W : WX) (es : List Expr) (m : MA) : Prop where
  pa : PA X es (liftA X.K X.mg W m)
/-- how a statement ends -/
inductive SRes where
  | nx (sd : SD) (M : MS)
  | ret (d : D) (M : MS)
  | brk (sd : SD) (M : MS)
  | ct (sd : SD) (M : MS)
  | exc (C : String) (ns : List String) (ds : List D) (sd : SD) (M : MS)
  | stuck
abbrev MST := SD → MS → SRes
def PostS (K : PySem.W.Frag) (mg : Str → Option Value) (W : WX) (ro : Pl) (H : Hp) (D0 : Ends) : SRes → Prop
  | .nx sd M => ∀ ro' H' st, RelS K mg ro' M H' → Pres ro H ro' H' → RepSt K mg ro' H' sd st → D0.nx st H'
  | .ret d M => ∀ ro' H' v, RelS K mg ro' M H' → Pres ro H ro' H' → Rep K mg ro' H' d v → D0.rt v H'
  | .brk sd M => ∀ ro' H' st, RelS K mg ro' M H' → Pres ro H ro' H' → RepSt K mg ro' H' sd st → D0.bk st H'
  | .ct sd M => ∀ ro' H' st, RelS K mg ro' M H' → Pres ro H ro' H' → RepSt K mg ro' H' sd st → D0.ct st H'
  | .exc C ns ds sd M => ∀ ro' H' st cls dd, RelS K mg ro' M H' → Pres ro H ro' H' → RepSt K mg ro' H' sd st → RepX K mg ro' H' C ns ds cls dd → W cls dd st H'
  | .stuck => False
def liftS (K : PySem.W.Frag) (mg : Str → Option Value) (W : WX) (m : MST) : TS := fun D0 st H => ∃ ro sd M, RelS K mg ro M H ∧ RepSt K mg ro H sd st ∧ PostS K mg W ro H D0 (m sd M)
structure DS (X : Cx) (W : WX) (s : Stmt) (m : MST) : Prop where
  ps : PS X s (liftS X.K X.mg W m)
structure DSs (X : Cx) (W : WX) (s : List Stmt) (m : MST) : Prop where
  ps : PSs X s (liftS X.K X.mg W m)
end DL
namespace DL
open PySem PySem.Spec L2
open PyProof.Rows hiding St
section
variable {K : PySem.W.Frag} {mg : Str → Option Value} {ro : Pl} {H : Hp} {M : MS}
theorem Reps.len : ∀ {ds : List D} {vs : List V}, Reps K mg ro H ds vs → ds.length = vs.length
  | [], vs, h => by cases (show vs = [] from h); rfl
  | d :: ds, vs, ⟨v, r, e, _, t⟩ => by subst e; simp [Reps.len t]
theorem Reps.append : ∀ {ds es : List D} {vs ws : List V}, Reps K mg ro H ds vs → Reps K mg ro H es ws → Reps K mg ro H (ds ++ es) (vs ++ ws)
  | [], es, vs, ws, h, h' => by cases (show vs = [] from h); exact h'
  | d :: ds, es, vs, ws, ⟨v, r, e, q, t⟩, h' => by subst e; exact ⟨v, r ++ ws, rfl, q, Reps.append t h'⟩
theorem Reps.get : ∀ {ds : List D} {vs : List V} {i : Nat} {d : D}, Reps K mg ro H ds vs → ds[i]? = some d → ∃ v, vs[i]? = some v ∧ Rep K mg ro H d v
  | [], vs, i, d, h, e => by simp at e
  | x :: ds, vs, 0, d, ⟨v, r, e, q, t⟩, e' => by subst e; simp at e'; subst e'; exact ⟨v, rfl, q⟩
  | x :: ds, vs, i + 1, d, ⟨v, r, e, q, t⟩, e' => by subst e; simp at e'; simpa using Reps.get t e'
theorem Reps.take : ∀ {ds : List D} {vs : List V} (n : Nat), Reps K mg ro H ds vs → Reps K mg ro H (ds.take n) (vs.take n)
  | ds, vs, 0, h => by simp [Reps]
  | [], vs, n + 1, h => by cases (show vs = [] from h); simp [Reps]
  | d :: ds, vs, n + 1, ⟨v, r, e, q, t⟩ => by subst e; exact ⟨v, r.take n, rfl, q, Reps.take n t⟩
theorem Reps.drop : ∀ {ds : List D} {vs : List V} (n : Nat), Reps K mg ro H ds vs → Reps K mg ro H (ds.drop n) (vs.drop n)
  | ds, vs, 0, h => h
  | [], vs, n + 1, h => by cases (show vs = [] from h); simp [Reps]
  | d :: ds, vs, n + 1, ⟨v, r, e, q, t⟩ => by subst e; exact Reps.drop n t
theorem Reps.set : ∀ {ds : List D} {vs : List V} {d : D} {v : V} (i : Nat), Reps K mg ro H ds vs → Rep K mg ro H d v → Reps K mg ro H (ds.set i d) (vs.set i v)
  | [], vs, d, v, i, h, _ => by cases (show vs = [] from h); simp [Reps]
  | x :: ds, vs, d, v, 0, ⟨w, r, e, q, t⟩, h => by subst e; exact ⟨v, r, rfl, h, t⟩
  | x :: ds, vs, d, v, i + 1, ⟨w, r, e, q, t⟩, h => by subst e; exact ⟨w, r.set i v, rfl, q, Reps.set i t h⟩
theorem Reps.rev : ∀ {ds : List D} {vs : List V}, Reps K mg ro H ds vs → Reps K mg ro H ds.reverse vs.reverse
  | [], vs, h => by cases (show vs = [] from h); simp [Reps]
  | d :: ds, vs, ⟨v, r, e, q, t⟩ => by
    subst e
    rw [List.reverse_cons, List.reverse_cons]
    exact (Reps.rev t).append ⟨v, [], rfl, q, rfl⟩
theorem Reps.dropLast {ds : List D} {vs : List V} (h : Reps K mg ro H ds vs) : Reps K mg ro H ds.dropLast vs.dropLast := by
  rw [List.dropLast_eq_take, List.dropLast_eq_take, h.len]
  exact h.take _
theorem Reps.one {d : D} {v : V} (h : Rep K mg ro H d v) : Reps K mg ro H [d] [v] := ⟨v, [], rfl, h, rfl⟩
theorem Reps.strs : ∀ {xs : List (List Nat)} {vs : List V}, Reps K mg ro H (xs.map D.str) vs → vs = (xs.map tx).map V.str
  | [], vs, h => h
  | x :: xs, vs, ⟨v, r, e, q, t⟩ => by subst e; rw [Reps.strs t, show v = V.str (tx x) from q]; rfl
theorem Reps.ints : ∀ {xs : List Int} {vs : List V}, Reps K mg ro H (xs.map D.int) vs → vs = xs.map V.int
  | [], vs, h => h
  | x :: xs, vs, ⟨v, r, e, q, t⟩ => by subst e; rw [Reps.ints t, show v = V.int x from q]; rfl
theorem Reps.flatten_replicate {ds : List D} {vs : List V} (h : Reps K mg ro H ds vs) : ∀ n, Reps K mg ro H (List.replicate n ds).flatten (List.replicate n vs).flatten
  | 0 => by simp [Reps]
  | n + 1 => by
    rw [List.replicate_succ, List.replicate_succ, List.flatten_cons, List.flatten_cons]
    exact h.append (Reps.flatten_replicate h n)
/-- what is read as a list; as a list or a tuple -/
def lstOf (M : MS) : D → Option (List D)
  | .lst ds => some ds
  | .cell n => match M[n]? with
    | some (.lst ds) => some ds
    | _ => none
  | _ => none
def seqOf (M : MS) : D → Option (List D)
  | .lst ds => some ds
  | .flst ds => some ds
  | .tup ds => some ds
  | .cell n => match M[n]? with
    | some (.lst ds) => some ds
    | _ => none
  | _ => none
@[simp] theorem lstOf_lst (ds : List D) : lstOf M (.lst ds) = some ds := rfl
@[simp] theorem seqOf_lst (ds : List D) : seqOf M (.lst ds) = some ds := rfl
@[simp] theorem seqOf_flst (ds : List D) : seqOf M (.flst ds) = some ds := rfl
@[simp] theorem seqOf_tup (ds : List D) : seqOf M (.tup ds) = some ds := rfl
theorem RelS.cellAt (R : RelS K mg ro M H) {n : Nat} {mo : MO} {x : V} (r : Rep K mg ro H (.cell n) x) (e : M[n]? = some mo) : ∃ a ho, x = .ref a ∧ ro.ro[n]? = some a ∧ H a = some ho ∧ MRel K mg ro H mo ho := by
  obtain ⟨a, rfl, g⟩ := r
  obtain ⟨ho, h, m⟩ := R.at_ n mo a e g
  exact ⟨a, ho, rfl, g, h, m⟩
theorem lst_of (R : RelS K mg ro M H) {d : D} {x : V} {ds : List D} (r : Rep K mg ro H d x) (e : lstOf M d = some ds) : ∃ a vs, x = .ref a ∧ H a = some (.lst vs) ∧ Reps K mg ro H ds vs := by
  cases d with
  | lst es =>
    cases (show some es = some ds from e)
    obtain ⟨a, vs, rfl, h, _, q⟩ := r
    exact ⟨a, vs, rfl, h, q⟩
  | cell n =>
    have e' : (match M[n]? with | some (.lst ds) => some ds | _ => none) = some ds := e
    split at e'
    · rename_i es hm
      cases e'
      obtain ⟨a, ho, rfl, _, h, vs, rfl, q⟩ := R.cellAt r hm
      exact ⟨a, vs, rfl, h, q⟩
    · cases e'
  | _ => cases e
theorem seq_of (R : RelS K mg ro M H) {d : D} {x : V} {ds : List D} (r : Rep K mg ro H d x) (e : seqOf M d = some ds) : ∃ a vs, x = .ref a ∧ (SqL K H a vs ∨ SqT K H a vs) ∧ Reps K mg ro H ds vs := by
  cases d with
  | lst es =>
    cases (show some es = some ds from e)
    obtain ⟨a, vs, rfl, h, _, q⟩ := r
    exact ⟨a, vs, rfl, .inl (SqL.of h), q⟩
  | flst es =>
    cases (show some es = some ds from e)
    obtain ⟨a, vs, rfl, h, q⟩ := r
    exact ⟨a, vs, rfl, .inl h.sq, q⟩
  | tup es =>
    cases (show some es = some ds from e)
    obtain ⟨a, vs, rfl, h, q⟩ := r
    exact ⟨a, vs, rfl, .inr h.sq, q⟩
  | cell n =>
    have e' : (match M[n]? with | some (.lst ds) => some ds | _ => none) = some ds := e
    split at e'
    · rename_i es hm
      cases e'
      obtain ⟨a, ho, rfl, _, h, vs, rfl, q⟩ := R.cellAt r hm
      exact ⟨a, vs, rfl, .inl (SqL.of h), q⟩
    · cases e'
  | _ => cases e
theorem RelS.liv (R : RelS K mg ro M H) {a : Addr} (h : a ∈ ro.ro) : H a ≠ none := by
  obtain ⟨i, hi⟩ := List.getElem?_of_mem h
  have hl : i < M.length := by rw [← R.len]; exact (List.getElem?_eq_some_iff.mp hi).1
  obtain ⟨ho, e, _⟩ := R.at_ i _ a (List.getElem?_eq_getElem hl) hi
  rw [e]; simp
theorem RelS.liveN (R : RelS K mg ro M H) (a : Addr) (h : a ∈ ro.hid) : H a ≠ none := by
  obtain ⟨xs, e⟩ := R.live a h
  rw [e]; simp
theorem RelS.fresh (R : RelS K mg ro M H) {p : Addr} (hp : H p = none) : p ∉ ro.all := fun h => by
  rcases List.mem_append.mp h with h | h
  · exact R.liv h hp
  · exact R.liveN p h hp
theorem MRel.monoW {ro ro' : Pl} {H H' : Hp} (p : PresW ro H ro' H') {mo : MO} {ho : HO} (h : MRel K mg ro H mo ho) : MRel K mg ro' H' mo ho := by
  cases mo with
  | lst ds => obtain ⟨vs, e, r⟩ := h; exact ⟨vs, e, Reps.monoW p ds vs r⟩
  | obj C ns ds => obtain ⟨c, dx, vs, e, g, l, r⟩ := h; exact ⟨c, dx, vs, e, g, l, Reps.monoW p ds vs r⟩
  | dic ks ds => obtain ⟨kl, vs, e, g, l, r⟩ := h; exact ⟨kl, vs, e, g, l, Reps.monoW p ds vs r⟩
  | tab i C m => obtain ⟨ps, P, e, t, g, k⟩ := h; exact ⟨ps, P, e, ⟨t.1, fun ps cv hc => let ⟨c, e1, e2, e3⟩ := t.2 ps cv hc; ⟨c, e1, p.keep c _ e2 e3, p.out e3 (by rw [e2]; simp)⟩⟩, p.get g, k⟩
theorem MRel.mono {ro ro' : Pl} {H H' : Hp} (p : Pres ro H ro' H') {mo : MO} {ho : HO} (h : MRel K mg ro H mo ho) : MRel K mg ro' H' mo ho := h.monoW p.w
theorem RelS.grow (R : RelS K mg ro M H) {H' : Hp} (h : ∀ a o, H a = some o → H' a = some o) : RelS K mg ro M H' ∧ Pres ro H ro H' := by
  have p : Pres ro H ro H' := ⟨⟨[], by simp⟩, rfl, fun a o e _ => h a o e, fun _ h => .inl h⟩
  refine ⟨⟨R.len, R.nd, fun a ha => ?_, R.dis, fun i mo a e1 e2 => ?_⟩, p⟩
  · obtain ⟨xs, e⟩ := R.live a ha
    exact ⟨xs, h a _ e⟩
  · obtain ⟨ho, e, m⟩ := R.at_ i mo a e1 e2
    exact ⟨ho, h a _ e, m.mono p⟩
theorem upd_grow {H : Hp} {p : Addr} {o : HO} (hp : H p = none) : ∀ a u, H a = some u → upd H p o a = some u := fun a u e => by rw [upd_ne (ne_of_none e hp)]; exact e
theorem RelS.alloc (R : RelS K mg ro M H) {p : Addr} {o : HO} (hp : H p = none) : RelS K mg ro M (upd H p o) ∧ Pres ro H ro (upd H p o) := R.grow (upd_grow hp)
abbrev Pl.add (p : Pl) (a : Addr) : Pl := ⟨p.ro ++ [a], p.hid⟩
/-- a new changeable place -/
theorem RelS.allocM (R : RelS K mg ro M H) {p : Addr} {o : HO} {mo : MO} (hp : H p = none) (m : MRel K mg ro H mo o) : RelS K mg (ro.add p) (M ++ [mo]) (upd H p o) ∧ Pres ro H (ro.add p) (upd H p o) := by
  have pr : Pres ro H (ro.add p) (upd H p o) := ⟨⟨[p], rfl⟩, rfl, fun a u e _ => upd_grow hp a u e, fun a h => by
    rcases List.mem_append.mp h with h | h
    · exact .inl h
    · have : a = p := by simpa using h
      exact .inr (this ▸ hp)⟩
  refine ⟨⟨by simp [R.len], ?_, fun a ha => ?_, fun a ha => ?_, fun i mo' a e1 e2 => ?_⟩, pr⟩
  · rw [List.nodup_append]
    refine ⟨R.nd, by simp, fun a ha b hb => ?_⟩
    have : b = p := by simpa using hb
    rw [this]
    exact fun e => R.fresh hp (List.mem_append_left _ (e ▸ ha))
  · obtain ⟨xs, e⟩ := R.live a ha
    exact ⟨xs, upd_grow hp _ _ e⟩
  · rcases List.mem_append.mp ha with h | h
    · exact R.dis a h
    · have : a = p := by simpa using h
      subst this
      exact fun z => R.liveN a z hp
  · by_cases hi : i < M.length
    · rw [List.getElem?_append_left hi] at e1
      rw [List.getElem?_append_left (by rw [R.len]; exact hi)] at e2
      obtain ⟨ho, e, m'⟩ := R.at_ i mo' a e1 e2
      exact ⟨ho, upd_grow hp _ _ e, m'.mono pr⟩
    · have hi' : i = M.length := by
        have := (List.getElem?_eq_some_iff.mp e1).1
        simp at this; omega
      subst hi'
      rw [List.getElem?_append_right (Nat.le_refl _)] at e1
      simp at e1; subst e1
      rw [← R.len, List.getElem?_append_right (Nat.le_refl _)] at e2
      simp at e2; subst e2
      exact ⟨o, upd_same, m.mono pr⟩
/-- a changeable place is changed -/
theorem RelS.change (R : RelS K mg ro M H) {n : Nat} {a : Addr} {o : HO} {mo : MO} (g : ro.ro[n]? = some a) (m : MRel K mg ro H mo o) : RelS K mg ro (M.set n mo) (upd H a o) ∧ Pres ro H ro (upd H a o) := by
  have hm : a ∈ ro.ro := List.mem_of_getElem? g
  have pr : Pres ro H ro (upd H a o) := ⟨⟨[], by simp⟩, rfl, fun b u e hb => by rw [upd_ne (fun z => hb (by rw [z]; exact hm))]; exact e, fun _ h => .inl h⟩
  refine ⟨⟨by simp [R.len], R.nd, fun b hb => ?_, R.dis, fun i mo' b e1 e2 => ?_⟩, pr⟩
  · rw [upd_ne (fun z => R.dis a hm (by rw [← z]; exact hb))]; exact R.live b hb
  · by_cases hi : n = i
    · subst hi
      rw [g] at e2; cases e2
      have hl : n < M.length := by rw [← R.len]; exact (List.getElem?_eq_some_iff.mp g).1
      rw [List.getElem?_set_self hl] at e1; cases e1
      exact ⟨o, upd_same, m.mono pr⟩
    · rw [List.getElem?_set_ne hi] at e1
      obtain ⟨ho, e, m'⟩ := R.at_ i mo' b e1 e2
      have hb : b ≠ a := fun z => by
        subst z
        obtain ⟨h1, q1⟩ := List.getElem?_eq_some_iff.mp g
        obtain ⟨h2, q2⟩ := List.getElem?_eq_some_iff.mp e2
        exact hi ((List.getElem_inj R.nd).mp (q1.trans q2.symm))
      exact ⟨ho, by rw [upd_ne hb]; exact e, m'.mono pr⟩
/-- a place is hidden; it is shown again -/
abbrev Pl.hide (p : Pl) (a : Addr) : Pl := ⟨p.ro, a :: p.hid⟩
mutual
theorem Rep.less {ro ro' : Pl} (e : ro'.ro = ro.ro) (h : ∀ a, a ∈ ro'.hid → a ∈ ro.hid) : ∀ (d : D) (v : V), Rep K mg ro H d v → Rep K mg ro' H d v
  | .non, v, q => q
  | .bl b, v, q => q
  | .int i, v, q => q
  | .str x, v, q => q
  | .tup ds, v, ⟨a, vs, e1, q, r⟩ => ⟨a, vs, e1, q.imp (fun ⟨z, n⟩ => ⟨z, fun m => n ((List.mem_append.mp m).elim (fun m => List.mem_append_left _ (e ▸ m)) fun m => List.mem_append_right _ (h a m))⟩) id, Reps.less e h ds vs r⟩
  | .lst ds, v, ⟨a, vs, e1, q, n, r⟩ => ⟨a, vs, e1, q, fun m => n ((List.mem_append.mp m).elim (fun m => List.mem_append_left _ (e ▸ m)) fun m => List.mem_append_right _ (h a m)), Reps.less e h ds vs r⟩
  | .flst ds, v, ⟨a, vs, e1, q, r⟩ => ⟨a, vs, e1, q.imp (fun ⟨z, n⟩ => ⟨z, fun m => n ((List.mem_append.mp m).elim (fun m => List.mem_append_left _ (e ▸ m)) fun m => List.mem_append_right _ (h a m))⟩) id, Reps.less e h ds vs r⟩
  | .obj C ns ds, v, ⟨a, c, dx, vs, e1, g, q, n, l, r⟩ => ⟨a, c, dx, vs, e1, g, q, fun m => n ((List.mem_append.mp m).elim (fun m => List.mem_append_left _ (e ▸ m)) fun m => List.mem_append_right _ (h a m)), l, Reps.less e h ds vs r⟩
  | .dic ks ds, v, ⟨a, kl, vs, e1, g, l, q, n, r⟩ => ⟨a, kl, vs, e1, g, l, q, fun m => n ((List.mem_append.mp m).elim (fun m => List.mem_append_left _ (e ▸ m)) fun m => List.mem_append_right _ (h a m)), Reps.less e h ds vs r⟩
  | .glo x, v, q => q
  | .ty n, v, q => q
  | .exn C ns ds x d, v, ⟨a, vs, e1, q, n, l, r⟩ => ⟨a, vs, e1, q, fun m => n ((List.mem_append.mp m).elim (fun m => List.mem_append_left _ (e ▸ m)) fun m => List.mem_append_right _ (h d m)), l, Reps.less e h ds vs r⟩
  | .cell n, v, ⟨a, e1, g⟩ => ⟨a, e1, by rw [e]; exact g⟩
theorem Reps.less {ro ro' : Pl} (e : ro'.ro = ro.ro) (h : ∀ a, a ∈ ro'.hid → a ∈ ro.hid) : ∀ (ds : List D) (vs : List V), Reps K mg ro H ds vs → Reps K mg ro' H ds vs
  | [], vs, q => q
  | d :: ds, vs, ⟨v, r, e1, q, t⟩ => ⟨v, r, e1, Rep.less e h d v q, Reps.less e h ds r t⟩
end
theorem MRel.less {ro ro' : Pl} (e : ro'.ro = ro.ro) (h : ∀ a, a ∈ ro'.hid → a ∈ ro.hid) {mo : MO} {ho : HO} (q : MRel K mg ro H mo ho) : MRel K mg ro' H mo ho := by
  cases mo with
  | lst ds => obtain ⟨vs, e1, r⟩ := q; exact ⟨vs, e1, Reps.less e h ds vs r⟩
  | obj C ns ds => obtain ⟨c, dx, vs, e1, g, l, r⟩ := q; exact ⟨c, dx, vs, e1, g, l, Reps.less e h ds vs r⟩
  | dic ks ds => obtain ⟨kl, vs, e1, g, l, r⟩ := q; exact ⟨kl, vs, e1, g, l, Reps.less e h ds vs r⟩
  | tab i C m => obtain ⟨ps, P, e1, t, g, k⟩ := q; exact ⟨ps, P, e1, ⟨t.1, fun ps cv hc => let ⟨c, e1, e2, e3⟩ := t.2 ps cv hc; ⟨c, e1, e2, fun m => e3 ((List.mem_append.mp m).elim (fun m => List.mem_append_left _ (e ▸ m)) fun m => List.mem_append_right _ (h c m))⟩⟩, by rw [e]; exact g, k⟩
theorem PresW.hide {ro : Pl} {H : Hp} {p : Addr} {o : HO} (hp : H p = none) : PresW ro H (ro.hide p) (upd H p o) := ⟨⟨[], by simp⟩, fun a u e _ => upd_grow hp a u e, fun a h => by
  rcases List.mem_append.mp h with h | h
  · exact .inl (List.mem_append_left _ h)
  · rcases List.mem_cons.mp h with h | h
    · exact .inr (h ▸ hp)
    · exact .inl (List.mem_append_right _ h)⟩
theorem RelS.hide (R : RelS K mg ro M H) {p : Addr} {o : HO} (hp : H p = none) : RelS K mg (ro.hide p) M (upd H p o) := by
  refine ⟨R.len, R.nd, fun a ha => ?_, fun a ha hb => ?_, fun i mo a e1 e2 => ?_⟩
  · rcases List.mem_cons.mp ha with rfl | ha
    · exact ⟨o, upd_same⟩
    · obtain ⟨xs, e⟩ := R.live a ha
      exact ⟨xs, upd_grow hp _ _ e⟩
  · rcases List.mem_cons.mp hb with rfl | hb
    · exact R.liv ha hp
    · exact R.dis a ha hb
  · obtain ⟨ho, e, m⟩ := R.at_ i mo a e1 e2
    exact ⟨ho, upd_grow hp _ _ e, m.monoW (PresW.hide hp)⟩
theorem Pl.ne {ro : Pl} {a p : Addr} (n : a ∉ ro.all) (hp : p ∈ ro.hid) : a ≠ p := fun z => n (by rw [z]; exact List.mem_append_right _ hp)
mutual
theorem Rep.unseen {p : Addr} {o : HO} (hp : p ∈ ro.hid) : ∀ (d : D) (v : V), Rep K mg ro H d v → Rep K mg ro (upd H p o) d v
  | .non, v, q => q
  | .bl b, v, q => q
  | .int i, v, q => q
  | .str x, v, q => q
  | .tup ds, v, ⟨a, vs, e1, q, r⟩ => ⟨a, vs, e1, q.imp (fun ⟨z, n⟩ => ⟨z.imp (fun z => by rw [upd_ne (Pl.ne n hp)]; exact z) fun ⟨u, z⟩ => ⟨u, by rw [upd_ne (Pl.ne n hp)]; exact z⟩, n⟩) id, Reps.unseen hp ds vs r⟩
  | .lst ds, v, ⟨a, vs, e1, q, n, r⟩ => ⟨a, vs, e1, by rw [upd_ne (Pl.ne n hp)]; exact q, n, Reps.unseen hp ds vs r⟩
  | .flst ds, v, ⟨a, vs, e1, q, r⟩ => ⟨a, vs, e1, q.imp (fun ⟨z, n⟩ => ⟨z.imp (fun z => by rw [upd_ne (Pl.ne n hp)]; exact z) fun ⟨u, z⟩ => ⟨u, by rw [upd_ne (Pl.ne n hp)]; exact z⟩, n⟩) id, Reps.unseen hp ds vs r⟩
  | .obj C ns ds, v, ⟨a, c, dx, vs, e1, g, q, n, l, r⟩ => ⟨a, c, dx, vs, e1, g, by rw [upd_ne (Pl.ne n hp)]; exact q, n, l, Reps.unseen hp ds vs r⟩
  | .dic ks ds, v, ⟨a, kl, vs, e1, g, l, q, n, r⟩ => ⟨a, kl, vs, e1, g, l, by rw [upd_ne (Pl.ne n hp)]; exact q, n, Reps.unseen hp ds vs r⟩
  | .glo x, v, q => q
  | .ty n, v, q => q
  | .exn C ns ds x d, v, ⟨a, vs, e1, q, n, l, r⟩ => ⟨a, vs, e1, by rw [upd_ne (Pl.ne n hp)]; exact q, n, l, Reps.unseen hp ds vs r⟩
  | .cell n, v, q => q
theorem Reps.unseen {p : Addr} {o : HO} (hp : p ∈ ro.hid) : ∀ (ds : List D) (vs : List V), Reps K mg ro H ds vs → Reps K mg ro (upd H p o) ds vs
  | [], vs, q => q
  | d :: ds, vs, ⟨v, r, e1, q, t⟩ => ⟨v, r, e1, Rep.unseen hp d v q, Reps.unseen hp ds r t⟩
end
theorem MRel.unseen {p : Addr} {o : HO} (hp : p ∈ ro.hid) {mo : MO} {ho : HO} (q : MRel K mg ro H mo ho) : MRel K mg ro (upd H p o) mo ho := by
  cases mo with
  | lst ds => obtain ⟨vs, e1, r⟩ := q; exact ⟨vs, e1, Reps.unseen hp ds vs r⟩
  | obj C ns ds => obtain ⟨c, dx, vs, e1, g, l, r⟩ := q; exact ⟨c, dx, vs, e1, g, l, Reps.unseen hp ds vs r⟩
  | dic ks ds => obtain ⟨kl, vs, e1, g, l, r⟩ := q; exact ⟨kl, vs, e1, g, l, Reps.unseen hp ds vs r⟩
  | tab i C m => obtain ⟨ps, P, e1, t, g, k⟩ := q; exact ⟨ps, P, e1, ⟨t.1, fun ps cv hc => let ⟨c, e1, e2, e3⟩ := t.2 ps cv hc; ⟨c, e1, by rw [upd_ne (Pl.ne e3 hp)]; exact e2, e3⟩⟩, g, k⟩
theorem RelS.unseen (R : RelS K mg ro M H) {p : Addr} {o : HO} (hp : p ∈ ro.hid) : RelS K mg ro M (upd H p o) := by
  refine ⟨R.len, R.nd, fun a ha => ?_, R.dis, fun i mo a e1 e2 => ?_⟩
  · by_cases e : a = p
    · subst e; exact ⟨o, upd_same⟩
    · rw [upd_ne e]; exact R.live a ha
  · obtain ⟨ho, e, m⟩ := R.at_ i mo a e1 e2
    exact ⟨ho, by rw [upd_ne (fun z => R.dis a (List.mem_of_getElem? e2) (by rw [z]; exact hp))]; exact e, m.unseen hp⟩
variable {E : XK} {Q : VK}
theorem PostD.pure {d : D} (R : RelS K mg ro M H) {v : V} (r : Rep K mg ro H d v) (h : PostD K mg E ro H Q (.ok d M)) : Q v H := h ro H v R (Pres.refl _ _) r
theorem PostD.newL {ds : List D} (R : RelS K mg ro M H) {vs : List V} (r : Reps K mg ro H ds vs) (h : PostD K mg E ro H Q (.ok (.lst ds) M)) : ∀ p, H p = none → Q (.ref p) (upd H p (.lst vs)) := fun p hp => by
  obtain ⟨R', P⟩ := R.alloc (o := .lst vs) hp
  exact h ro _ _ R' P ⟨p, vs, rfl, upd_same, R.fresh hp, Reps.mono P ds vs r⟩
theorem PostD.newT {ds : List D} (R : RelS K mg ro M H) {vs : List V} (r : Reps K mg ro H ds vs) (h : PostD K mg E ro H Q (.ok (.tup ds) M)) : ∀ p, H p = none → Q (.ref p) (upd H p (.tup vs)) := fun p hp => by
  obtain ⟨R', P⟩ := R.alloc (o := .tup vs) hp
  exact h ro _ _ R' P ⟨p, vs, rfl, .inl ⟨.inl upd_same, R.fresh hp⟩, Reps.mono P ds vs r⟩
theorem PostD.newC {ds : List D} (R : RelS K mg ro M H) {vs : List V} (r : Reps K mg ro H ds vs) (h : PostD K mg E ro H Q (.ok (.cell M.length) (M ++ [.lst ds]))) : ∀ p, H p = none → Q (.ref p) (upd H p (.lst vs)) := fun p hp => by
  obtain ⟨R', P⟩ := R.allocM (o := .lst vs) (mo := .lst ds) hp ⟨vs, rfl, r⟩
  exact h _ _ _ R' P ⟨p, rfl, by rw [← R.len, List.getElem?_append_right (Nat.le_refl _)]; simp⟩
end
theorem line_le {n : Nat} (h : n ≤ 1000000) : n ≤ sizeLine := by rw [sizeLine_eq]; omega
theorem line_lt {n : Nat} (h : n < 1000000) : n < sizeLine := by rw [sizeLine_eq]; omega
def nameE (i : Nat) : ME := fun sd M => match sd[i]? with
  | some (some d) => .ok d M
  | _ => .stuck
def constE (d : D) : ME := fun _ M => .ok d M
def binE (f : D → D → MS → Res D) (a b : ME) : ME := fun sd M => (a sd M).bind fun d M1 => (b sd M1).bind fun e M2 => f d e M2
def unE (f : D → MS → Res D) (a : ME) : ME := fun sd M => (a sd M).bind fun d M1 => f d M1
def andE (a b : ME) : ME := fun sd M => (a sd M).bind fun d M1 => match d with
  | .bl true => b sd M1
  | .bl false => .ok (.bl false) M1
  | _ => .stuck
def orE (a b : ME) : ME := fun sd M => (a sd M).bind fun d M1 => match d with
  | .bl true => .ok (.bl true) M1
  | .bl false => b sd M1
  | _ => .stuck
def notE (a : ME) : ME := fun sd M => (a sd M).bind fun d M1 => match d with
  | .bl c => .ok (.bl (!c)) M1
  | _ => .stuck
def ifE (c : MB) (a b : ME) : ME := fun sd M => (c sd M).bind fun k M1 => if k = true then a sd M1 else b sd M1
/-- a truth value as a test -/
def valB (a : ME) : MB := fun sd M => (a sd M).bind fun d M1 => match d with
  | .bl c => .ok c M1
  | _ => .stuck
def truD (M : MS) : D → Option Bool
  | .non => some false
  | .bl b => some b
  | .int i => some (i != 0)
  | .str x => if x.length ≤ 1000000 then some ((x.length : Int) != 0) else none
  | .lst ds => some (!ds.isEmpty)
  | .flst ds => some (!ds.isEmpty)
  | .tup ds => some (!ds.isEmpty)
  | .cell n => match M[n]? with
    | some (.lst ds) => some (!ds.isEmpty)
    | _ => none
  | _ => none
def truB (a : ME) : MB := fun sd M => (a sd M).bind fun d M1 => match truD M1 d with
  | some c => .ok c M1
  | none => .stuck
def andB (a b : MB) : MB := fun sd M => (a sd M).bind fun c M1 => if c = true then b sd M1 else .ok false M1
def orB (a b : MB) : MB := fun sd M => (a sd M).bind fun c M1 => if c = true then .ok true M1 else b sd M1
def notB (a : MB) : MB := fun sd M => (a sd M).bind fun c M1 => .ok (!c) M1
def nilA : MA := fun _ M => .ok [] M
def consA (a : ME) (r : MA) : MA := fun sd M => (a sd M).bind fun d M1 => (r sd M1).bind fun ds M2 => .ok (d :: ds) M2
def tupE (a : MA) : ME := fun sd M => (a sd M).bind fun ds M1 => if ds.length ≤ 1000000 then .ok (.tup ds) M1 else .stuck
def lstE (a : MA) : ME := fun sd M => (a sd M).bind fun ds M1 => if ds.length ≤ 1000000 then .ok (.lst ds) M1 else .stuck
/-- a list that will be changed -/
def celE (a : MA) : ME := fun sd M => (a sd M).bind fun ds M1 => if ds.length ≤ 1000000 then .ok (.cell M1.length) (M1 ++ [.lst ds]) else .stuck
def appE (f : List D → MS → Res D) (a : MA) : ME := fun sd M => (a sd M).bind fun ds M1 => f ds M1
/-- an operation of two values -/
def OpS (X : Cx) (fv : Value → Value → Sem Value) (f : D → D → MS → Res D) : Prop :=
  ∃ r : R2, OpR X fv r ∧ ∀ (ro : Pl) (H : Hp) (M : MS) (d e : D) (x y : V) (E : XK) (Q : VK), RelS X.K X.mg ro M H → Rep X.K X.mg ro H d x → Rep X.K X.mg ro H e y → PostD X.K X.mg E ro H Q (f d e M) → r x y H Q
def UnS (X : Cx) (fv : Value → Sem Value) (f : D → MS → Res D) : Prop :=
  ∃ r : V → Hp → VK → Prop, UnR X fv r ∧ ∀ (ro : Pl) (H : Hp) (M : MS) (d : D) (x : V) (E : XK) (Q : VK), RelS X.K X.mg ro M H → Rep X.K X.mg ro H d x → PostD X.K X.mg E ro H Q (f d M) → r x H Q
/-- a call of a built-in -/
def CallS (X : Cx) (fv : Value) (f : List D → MS → Res D) : Prop :=
  ∃ r : List V → Hp → VK → Prop, CallR X fv r ∧ ∀ (ro : Pl) (H : Hp) (M : MS) (ds : List D) (xs : List V) (E : XK) (Q : VK), RelS X.K X.mg ro M H → Reps X.K X.mg ro H ds xs → PostD X.K X.mg E ro H Q (f ds M) → r xs H Q
/-- a method of a built-in type -/
def MtS (X : Cx) (T id : String) (f : D → List D → MS → Res D) : Prop :=
  ∃ r : V → List V → Hp → VK → Prop, MtR X id r ∧ ∀ (ro : Pl) (H : Hp) (M : MS) (d : D) (ds : List D) (x : V) (xs : List V) (E : XK) (Q : VK), RelS X.K X.mg ro M H → Rep X.K X.mg ro H d x → Reps X.K X.mg ro H ds xs → PostD X.K X.mg E ro H Q (f d ds M) → r x xs H Q
/-- a subscript -/
def IxS (X : Cx) (f : D → D → MS → Res D) : Prop :=
  ∃ r : R2, IxR X r ∧ ∀ (ro : Pl) (H : Hp) (M : MS) (d e : D) (x y : V) (E : XK) (Q : VK), RelS X.K X.mg ro M H → Rep X.K X.mg ro H d x → Rep X.K X.mg ro H e y → PostD X.K X.mg E ro H Q (f d e M) → r x y H Q
section
variable {X : Cx} {W : WX} {a b c e : Expr} {es : List Expr} {pos : Pos} {ma mb mc : ME} {ta tb tc : MB} {ms : MA}
theorem de_name (i : Nat) {x : Str} (hN : X.N[i]? = some x := by rfl) (hv : Vis X.env.scope x := by first | exact Or.inl rfl | exact Or.inr (Or.inl rfl) | exact Or.inr (Or.inr rfl)) (hd : (x == ("__debug__" : Str)) = false := by decide)
    (hcd : (x == ("__classdict__" : Str)) = false := by decide) : DE X W (.Name x pos) (nameE i) := by
  refine ⟨⟨fun pins s st H Q I h => (pe_var hN hv hd hcd).run pins s st H Q I ?_⟩⟩
  obtain ⟨ro, sd, M, R, S, P⟩ := h
  unfold nameE at P
  split at P
  · rename_i d e
    obtain ⟨v, e', r⟩ := S.2 i d e
    exact ⟨v, e', PostD.pure R r P⟩
  · exact P.elim
theorem de_constV {d : D} {v : V} (h : PE X e (tC v)) (r : ∀ ro H, Rep X.K X.mg ro H d v) : DE X W e (constE d) := by
  refine ⟨⟨fun pins s st H Q I q => h.run pins s st H Q I ?_⟩⟩
  obtain ⟨ro, sd, M, R, S, P⟩ := q
  exact PostD.pure R (r ro H) P
theorem de_int {i j} : DE X W (.Constant (.int i) j pos) (constE (.int i)) := de_constV pe_int fun _ _ => rfl
theorem de_bl {b j} : DE X W (.Constant (.bool b) j pos) (constE (.bl b)) := de_constV pe_bl fun _ _ => rfl
theorem de_non {j} : DE X W (.Constant .none j pos) (constE .non) := de_constV pe_non fun _ _ => rfl
/-- a text's codes -/
def sL (s : String) : List Nat := s.toList.map Char.toNat
theorem tx_sL (s : String) : tx (sL s) = Str.ofString s := (Str.ofString_eq_toList s).symm
theorem de_str {s : String} {j} : DE X W (.Constant (.str (Str.ofString s)) j pos) (constE (.str (sL s))) := de_constV pe_str fun _ _ => by
  show V.str _ = V.str (tx (sL s))
  rw [tx_sL]
/-- a text of the module -/
theorem de_gstr {x : Str} {s : String} {t : Tok} (hg : Gl X x) (hm : X.mg x = some (.str (Str.ofString s) t)) (hd : (x == ("__debug__" : Str)) = false := by decide) : DE X W (.Name x pos) (constE (.str (sL s))) :=
  de_constV (pe_glob (v := .str (Str.ofString s)) hg hm ⟨t, rfl⟩ hd) fun _ _ => by
    show V.str _ = V.str (tx (sL s))
    rw [tx_sL]
theorem de_gint {x : Str} {i : Int} {t : Tok} (hg : Gl X x) (hm : X.mg x = some (.int i t)) (hd : (x == ("__debug__" : Str)) = false := by decide) : DE X W (.Name x pos) (constE (.int i)) :=
  de_constV (pe_glob (v := .int i) hg hm ⟨t, rfl⟩ hd) fun _ _ => rfl
theorem de_op2 {t : TE} {f : D → D → MS → Res D} {r : R2} (hpe : PE X e t)
    (ht : ∀ st H Q, tOp r (liftE X.K X.mg W ma) (liftE X.K X.mg W mb) st H Q → t st H Q)
    (hr : ∀ (ro : Pl) (H : Hp) (M : MS) (d e : D) (x y : V) (E : XK) (Q : VK), RelS X.K X.mg ro M H → Rep X.K X.mg ro H d x → Rep X.K X.mg ro H e y → PostD X.K X.mg E ro H Q (f d e M) → r x y H Q) : DE X W e (binE f ma mb) := by
  refine ⟨⟨fun pins s st H Q I h => hpe.run pins s st H Q I (ht _ _ _ ?_)⟩⟩
  obtain ⟨ro, sd, M, R, S, P⟩ := h
  refine ⟨ro, sd, M, R, S, (Post.bind P).imp fun x H1 ⟨ro1, M1, d, R1, P1, r1, q1⟩ => ?_⟩
  refine ⟨ro1, sd, M1, R1, S.mono P1, (Post.bind q1).imp fun y H2 ⟨ro2, M2, e, R2, P2, r2, q2⟩ => ?_⟩
  exact hr ro2 H2 M2 d e x y _ Q R2 (Rep.mono P2 d x r1) r2 q2
theorem de_op {op : Operator} {f : D → D → MS → Res D} (ho : OpS X (binaryOp op) f) (ha : DE X W a ma) (hb : DE X W b mb) : DE X W (.BinOp a op b pos) (binE f ma mb) := by
  obtain ⟨r, h1, h2⟩ := ho
  exact de_op2 (pe_op h1 ha.pe hb.pe) (fun _ _ _ h => h) h2
theorem de_cmp {op : CmpOp} {f : D → D → MS → Res D} (ho : OpS X (compareOp op) f) (ha : DE X W a ma) (hb : DE X W b mb) (hm : behindInMarks op b = false := by first | exact nobehind _ (by decide) (by decide) | rfl) : DE X W (.Compare a [op] [b] pos) (binE f ma mb) := by
  obtain ⟨r, h1, h2⟩ := ho
  exact de_op2 (pe_cmpR h1 ha.pe hb.pe hm) (fun _ _ _ h => h) h2
theorem de_ix {f : D → D → MS → Res D} (ho : IxS X f) (ha : DE X W a ma) (hb : DE X W b mb) (hs : PlainIx b := by exact fun _ _ => rfl) : DE X W (.Subscript a b pos) (binE f ma mb) := by
  obtain ⟨r, h1, h2⟩ := ho
  exact de_op2 (pe_ix h1 ha.pe hb.pe hs) (fun _ _ _ h => h) h2
theorem de_un {op : UnaryOp} {f : D → MS → Res D} (ho : UnS X (unaryOp op) f) (ha : DE X W a ma) : DE X W (.UnaryOp op a pos) (unE f ma) := by
  obtain ⟨r, h1, h2⟩ := ho
  refine ⟨⟨fun pins s st H Q I h => (pe_un h1 ha.pe).run pins s st H Q I ?_⟩⟩
  obtain ⟨ro, sd, M, R, S, P⟩ := h
  exact ⟨ro, sd, M, R, S, (Post.bind P).imp fun x H1 ⟨ro1, M1, d, R1, P1, r1, q1⟩ => h2 ro1 H1 M1 d x _ Q R1 r1 q1⟩
/-- tests -/
theorem dt_cmp {op : CmpOp} {f : D → D → MS → Res D} (ho : OpS X (compareOp op) f) (ha : DE X W a ma) (hb : DE X W b mb) (hm : behindInMarks op b = false := by first | exact nobehind _ (by decide) (by decide) | rfl) : DT X W (.Compare a [op] [b] pos) (valB (binE f ma mb)) := by
  obtain ⟨r, h1, h2⟩ := ho
  refine ⟨⟨fun pins s st H Q I h => (pt_cmpR h1 ha.pe hb.pe hm).run pins s st H Q I ?_⟩⟩
  obtain ⟨ro, sd, M, R, S, P⟩ := h
  have P : PostB X.K X.mg (fun c d H' => W c d st H') ro H Q ((binE f ma mb sd M).bind _) := P
  have P2 := Post.bind (R := fun ro' H' d v => Rep X.K X.mg ro' H' d v) P
  refine ⟨ro, sd, M, R, S, (Post.bind P2).imp fun x H1 ⟨ro1, M1, d, R1, P1, r1, q1⟩ => ?_⟩
  refine ⟨ro1, sd, M1, R1, S.mono P1, (Post.bind q1).imp fun y H2 ⟨ro2, M2, e, R2, Pr2, r2, q2⟩ => ?_⟩
  refine h2 ro2 H2 M2 d e x y _ _ R2 (Rep.mono Pr2 d x r1) r2 (q2.imp fun z H3 ⟨ro3, M3, g, R3, Pr3, r3, q3⟩ => ?_)
  cases g with
  | bl k =>
    cases (show z = V.bl k from r3)
    exact ⟨k, rfl, q3 ro3 H3 k R3 (Pres.refl _ _) rfl⟩
  | _ => exact q3.elim
theorem tru_of {K : PySem.W.Frag} {mg : Str → Option Value} {ro : Pl} {H : Hp} {M : MS} (R : RelS K mg ro M H) {d : D} {x : V} (r : Rep K mg ro H d x) {k : Bool} (e : truD M d = some k) : TruV K x H k := by
  cases d with
  | non => cases (show x = V.non from r); cases e; rfl
  | bl b => cases (show x = V.bl b from r); cases e; rfl
  | int i => cases (show x = V.int i from r); cases e; rfl
  | str y =>
    cases (show x = V.str (tx y) from r)
    have e' : (if y.length ≤ 1000000 then some ((y.length : Int) != 0) else none) = some k := e
    split at e'
    · rename_i h
      cases e'
      exact ⟨by show (tx y).cps.size ≤ _; simpa using line_le h, by simp [Str.length]⟩
    · cases e'
  | lst ds =>
    cases e
    obtain ⟨a, vs, rfl, h, _, q⟩ := r
    refine .inl ⟨vs, SqL.of h, ?_⟩
    have := q.len
    cases ds <;> cases vs <;> simp_all
  | flst ds =>
    cases e
    obtain ⟨a, vs, rfl, h, q⟩ := r
    refine .inl ⟨vs, h.sq, ?_⟩
    have := q.len
    cases ds <;> cases vs <;> simp_all
  | tup ds =>
    cases e
    obtain ⟨a, vs, rfl, h, q⟩ := r
    refine .inr (.inl ⟨vs, h.sq, ?_⟩)
    have := q.len
    cases ds <;> cases vs <;> simp_all
  | cell n =>
    have e' : (match M[n]? with | some (.lst ds) => some (!ds.isEmpty) | _ => none) = some k := e
    split at e'
    · rename_i ds hm
      cases e'
      obtain ⟨a, ho, rfl, _, h, vs, rfl, q⟩ := R.cellAt r hm
      refine .inl ⟨vs, SqL.of h, ?_⟩
      have := q.len
      cases ds <;> cases vs <;> simp_all
    · cases e'
  | _ => cases e
theorem dt_tru (h : DE X W e ma) (he : ∀ whole, isTrue e X.env whole = (do let v ← whole; standAt e.pos; holding [v] (truthy v)) := by intro _; rfl) : DT X W e (truB ma) := by
  refine ⟨⟨fun pins s st H Q I q => (pt_truth h.pe he).run pins s st H Q I ?_⟩⟩
  obtain ⟨ro, sd, M, R, S, P⟩ := q
  refine ⟨ro, sd, M, R, S, (Post.bind P).imp fun x H1 ⟨ro1, M1, d, R1, P1, r1, q1⟩ => ?_⟩
  cases e : truD M1 d with
  | some k =>
    rw [e] at q1
    exact ⟨k, tru_of R1 r1 e, q1 ro1 H1 k R1 (Pres.refl _ _) rfl⟩
  | none => rw [e] at q1; exact q1.elim
theorem DW.dt (h : DW X W e ta) : DT X W e ta := ⟨h.pw.pt⟩
theorem dw_and1 (ha : DT X W a ta) : DW X W (.BoolOp .And [a] pos) ta := ⟨pw_and1 ha.pt⟩
theorem dw_or1 (ha : DT X W a ta) : DW X W (.BoolOp .Or [a] pos) ta := ⟨pw_or1 ha.pt⟩
theorem dw_and (ha : DT X W a ta) (hb : DW X W (.BoolOp .And (b :: es) pos) tb) : DW X W (.BoolOp .And (a :: b :: es) pos) (andB ta tb) := by
  refine ⟨⟨fun wh pins s st H Q I q => (pw_and ha.pt hb.pw).run wh pins s st H Q I ?_⟩⟩
  obtain ⟨ro, sd, M, R, S, P⟩ := q
  refine ⟨ro, sd, M, R, S, (Post.bind P).imp fun x H1 ⟨ro1, M1, d, R1, P1, r1, q1⟩ => ?_⟩
  subst r1
  cases x with
  | true => rw [if_pos rfl] at q1 ⊢; exact ⟨ro1, sd, M1, R1, S.mono P1, q1⟩
  | false => rw [if_neg Bool.false_ne_true] at q1 ⊢; exact q1 ro1 H1 _ R1 (Pres.refl _ _) rfl
theorem dw_or (ha : DT X W a ta) (hb : DW X W (.BoolOp .Or (b :: es) pos) tb) : DW X W (.BoolOp .Or (a :: b :: es) pos) (orB ta tb) := by
  refine ⟨⟨fun wh pins s st H Q I q => (pw_or ha.pt hb.pw).run wh pins s st H Q I ?_⟩⟩
  obtain ⟨ro, sd, M, R, S, P⟩ := q
  refine ⟨ro, sd, M, R, S, (Post.bind P).imp fun x H1 ⟨ro1, M1, d, R1, P1, r1, q1⟩ => ?_⟩
  subst r1
  cases x with
  | false => rw [if_neg Bool.false_ne_true] at q1 ⊢; exact ⟨ro1, sd, M1, R1, S.mono P1, q1⟩
  | true => rw [if_pos rfl] at q1 ⊢; exact q1 ro1 H1 _ R1 (Pres.refl _ _) rfl
/-- truth values -/
theorem de_one {op} (h : DE X W a ma) : DE X W (.BoolOp op [a] pos) ma := ⟨pe_one h.pe⟩
theorem de_and (ha : DE X W a ma) (hb : DE X W (.BoolOp .And (b :: es) pos) mb) : DE X W (.BoolOp .And (a :: b :: es) pos) (andE ma mb) := by
  refine ⟨⟨fun pins s st H Q I q => (pe_and ha.pe hb.pe).run pins s st H Q I ?_⟩⟩
  obtain ⟨ro, sd, M, R, S, P⟩ := q
  refine ⟨ro, sd, M, R, S, (Post.bind P).imp fun x H1 ⟨ro1, M1, d, R1, P1, r1, q1⟩ => ?_⟩
  cases d with
  | bl k =>
    cases (show x = V.bl k from r1)
    refine ⟨k, rfl, ?_⟩
    cases k with
    | true => rw [if_pos rfl]; exact ⟨ro1, sd, M1, R1, S.mono P1, q1⟩
    | false => rw [if_neg Bool.false_ne_true]; exact PostD.pure (d := .bl false) R1 rfl q1
  | _ => exact q1.elim
/-- arguments, displays -/
theorem da_nil : DA X W [] nilA := by
  refine ⟨⟨fun pos pins s st H Q I q => pa_nil.run pos pins s st H Q I ?_⟩⟩
  obtain ⟨ro, sd, M, R, S, P⟩ := q
  exact P ro H [] R (Pres.refl _ _) rfl
theorem da_cons (ha : DE X W e ma) (hr : DA X W es ms) (hs : starEach (e :: es) X.env = (false, eval e X.env) :: starEach es X.env := by rfl) : DA X W (e :: es) (consA ma ms) := by
  refine ⟨⟨fun pos pins s st H Q I q => (pa_cons ha.pe hr.pa hs).run pos pins s st H Q I ?_⟩⟩
  obtain ⟨ro, sd, M, R, S, P⟩ := q
  refine ⟨ro, sd, M, R, S, (Post.bind P).imp fun x H1 ⟨ro1, M1, d, R1, P1, r1, q1⟩ => ?_⟩
  refine ⟨ro1, sd, M1, R1, S.mono P1, (Post.bind q1).imp fun xs H2 ⟨ro2, M2, ds, R2, P2, r2, q2⟩ => ?_⟩
  exact q2 ro2 H2 _ R2 (Pres.refl _ _) ⟨x, xs, rfl, Rep.mono P2 d x r1, r2⟩
theorem de_tup {k} (h : DA X W es ms) : DE X W (.Tuple es k pos) (tupE ms) := by
  refine ⟨⟨fun pins s st H Q I q => (pe_tup h.pa).run pins s st H Q I ?_⟩⟩
  obtain ⟨ro, sd, M, R, S, P⟩ := q
  refine ⟨ro, sd, M, R, S, (Post.bind P).imp fun xs H1 ⟨ro1, M1, ds, R1, P1, r1, q1⟩ => ?_⟩
  split at q1
  · rename_i hl
    exact ⟨by rw [← r1.len]; exact line_le hl, PostD.newT R1 r1 q1⟩
  · exact q1.elim
theorem de_lst (h : DA X W es ms) : DE X W (.List es pos) (lstE ms) := by
  refine ⟨⟨fun pins s st H Q I q => (pe_lst h.pa).run pins s st H Q I ?_⟩⟩
  obtain ⟨ro, sd, M, R, S, P⟩ := q
  refine ⟨ro, sd, M, R, S, (Post.bind P).imp fun xs H1 ⟨ro1, M1, ds, R1, P1, r1, q1⟩ => ?_⟩
  split at q1
  · rename_i hl
    exact ⟨by rw [← r1.len]; exact line_le hl, PostD.newL R1 r1 q1⟩
  · exact q1.elim
theorem de_cel (h : DA X W es ms) : DE X W (.List es pos) (celE ms) := by
  refine ⟨⟨fun pins s st H Q I q => (pe_lst h.pa).run pins s st H Q I ?_⟩⟩
  obtain ⟨ro, sd, M, R, S, P⟩ := q
  refine ⟨ro, sd, M, R, S, (Post.bind P).imp fun xs H1 ⟨ro1, M1, ds, R1, P1, r1, q1⟩ => ?_⟩
  split at q1
  · rename_i hl
    exact ⟨by rw [← r1.len]; exact line_le hl, PostD.newC R1 r1 q1⟩
  · exact q1.elim
/-- calls of built-ins -/
theorem de_callB {x : Str} {p : Pos} {id : String} {f : List D → MS → Res D} (hc : CallS X (.builtin id) f) (hg : Gl X x) (hm : X.mg x = none) (hv : bootBuiltins x = some (.builtin id)) (ha : DA X W (e :: es) ms) (hn : x ≠ "__name__" := by decide) (hdb : (x == ("__debug__" : Str)) = false := by decide)
    (he : starEach (e :: es) X.env = (false, eval e X.env) :: starEach es X.env := by rfl) (hpl : (backTo pos (starEach es X.env)).any (·.1) = false := by rfl) : DE X W (.Call (.Name x p) (e :: es) [] pos) (appE f ms) := by
  obtain ⟨r, h1, h2⟩ := hc
  refine ⟨⟨fun pins s st H Q I q => (pe_callB h1 hg hm hv ha.pa hn hdb he hpl).run pins s st H Q I ?_⟩⟩
  obtain ⟨ro, sd, M, R, S, P⟩ := q
  exact ⟨ro, sd, M, R, S, (Post.bind P).imp fun xs H1 ⟨ro1, M1, ds, R1, P1, r1, q1⟩ => h2 ro1 H1 M1 ds xs _ Q R1 r1 q1⟩
theorem de_callTy {x : Str} {p : Pos} {T : String} {f : List D → MS → Res D} (hc : CallS X (.type T) f) (hg : Gl X x) (hm : X.mg x = none) (hv : bootBuiltins x = some (.type T)) (ha : DA X W (e :: es) ms) (hn : x ≠ "__name__" := by decide) (hdb : (x == ("__debug__" : Str)) = false := by decide)
    (he : starEach (e :: es) X.env = (false, eval e X.env) :: starEach es X.env := by rfl) (hpl : (backTo pos (starEach es X.env)).any (·.1) = false := by rfl) : DE X W (.Call (.Name x p) (e :: es) [] pos) (appE f ms) := by
  obtain ⟨r, h1, h2⟩ := hc
  refine ⟨⟨fun pins s st H Q I q => (pe_callTy h1 hg hm hv ha.pa hn hdb he hpl).run pins s st H Q I ?_⟩⟩
  obtain ⟨ro, sd, M, R, S, P⟩ := q
  exact ⟨ro, sd, M, R, S, (Post.bind P).imp fun xs H1 ⟨ro1, M1, ds, R1, P1, r1, q1⟩ => h2 ro1 H1 M1 ds xs _ Q R1 r1 q1⟩
end
end DL
namespace DL
open PySem PySem.Spec L2
open PyProof.Rows hiding St
abbrev W0 : WX := fun _ _ _ _ => False
/-- what a body's context gives -/
structure Ctx (X : Cx) (W : WX) : Prop where
  tk : Takes X W
  po : PassesOwn (model X.prog X.w) X.A X.env X.xe
  calm : X.calm = true
def SRes.ofE {A : Type} (x : Res A) (sd : SD) (k : A → MS → SRes) : SRes := match x with
  | .ok a M => k a M
  | .exc C ns ds M => .exc C ns ds sd M
  | .stuck => .stuck
@[simp] theorem SRes.ofE_ok {A : Type} (a : A) (M : MS) (sd : SD) (k : A → MS → SRes) : SRes.ofE (.ok a M) sd k = k a M := rfl
@[simp] theorem SRes.ofE_exc {A : Type} (C : String) (ns : List String) (ds : List D) (M : MS) (sd : SD) (k : A → MS → SRes) : SRes.ofE (.exc C ns ds M) sd k = .exc C ns ds sd M := rfl
@[simp] theorem SRes.ofE_stuck {A : Type} (sd : SD) (k : A → MS → SRes) : SRes.ofE .stuck sd k = .stuck := rfl
def SRes.seq (x : SRes) (k : SD → MS → SRes) : SRes := match x with
  | .nx sd M => k sd M
  | r => r
@[simp] theorem SRes.seq_nx (sd : SD) (M : MS) (k : SD → MS → SRes) : (SRes.nx sd M).seq k = k sd M := rfl
@[simp] theorem SRes.seq_ret (d : D) (M : MS) (k : SD → MS → SRes) : (SRes.ret d M).seq k = .ret d M := rfl
@[simp] theorem SRes.seq_brk (sd : SD) (M : MS) (k : SD → MS → SRes) : (SRes.brk sd M).seq k = .brk sd M := rfl
@[simp] theorem SRes.seq_ct (sd : SD) (M : MS) (k : SD → MS → SRes) : (SRes.ct sd M).seq k = .ct sd M := rfl
@[simp] theorem SRes.seq_exc (C : String) (ns : List String) (ds : List D) (sd : SD) (M : MS) (k : SD → MS → SRes) : (SRes.exc C ns ds sd M).seq k = .exc C ns ds sd M := rfl
@[simp] theorem SRes.seq_stuck (k : SD → MS → SRes) : SRes.stuck.seq k = .stuck := rfl
section
variable {K : PySem.W.Frag} {mg : Str → Option Value} {W : WX} {ro ro1 : Pl} {H H1 : Hp} {D0 : Ends}
theorem PostS.moves {x : SRes} (h : PostS K mg W ro H D0 x) (p : Pres ro H ro1 H1) : PostS K mg W ro1 H1 D0 x := by
  cases x with
  | nx sd M => exact fun ro' H' st rs q r => h ro' H' st rs (p.trans q) r
  | ret d M => exact fun ro' H' v rs q r => h ro' H' v rs (p.trans q) r
  | brk sd M => exact fun ro' H' st rs q r => h ro' H' st rs (p.trans q) r
  | ct sd M => exact fun ro' H' st rs q r => h ro' H' st rs (p.trans q) r
  | exc C ns ds sd M => exact fun ro' H' st cls dd rs q r x => h ro' H' st cls dd rs (p.trans q) r x
  | stuck => exact h
theorem PostS.ofE {A B : Type} {R : Pl → Hp → A → B → Prop} {x : Res A} {sd : SD} {st : St} {k : A → MS → SRes} (h : PostS K mg W ro H D0 (SRes.ofE x sd k)) (S : RepSt K mg ro H sd st) :
    Post R K mg (fun c d H' => W c d st H') ro H (fun v H1 => ∃ ro1 M1 a, RelS K mg ro1 M1 H1 ∧ Pres ro H ro1 H1 ∧ R ro1 H1 a v ∧ PostS K mg W ro1 H1 D0 (k a M1)) x := by
  cases x with
  | ok a M => exact fun ro' H' v rs q r => ⟨ro', M, a, rs, q, r, PostS.moves h q⟩
  | exc C ns ds M => exact fun ro' H' cls dd rs q r => h ro' H' st cls dd rs q (S.mono q) r
  | stuck => exact h
theorem PostS.seq {x : SRes} {k : SD → MS → SRes} (h : PostS K mg W ro H D0 (x.seq k)) :
    PostS K mg W ro H { D0 with nx := fun st H1 => ∃ ro1 sd M1, RelS K mg ro1 M1 H1 ∧ RepSt K mg ro1 H1 sd st ∧ Pres ro H ro1 H1 ∧ PostS K mg W ro1 H1 D0 (k sd M1) } x := by
  cases x with
  | nx sd M => exact fun ro' H' st rs q r => ⟨ro', sd, M, rs, r, q, PostS.moves h q⟩
  | ret d M => exact h
  | brk sd M => exact h
  | ct sd M => exact h
  | exc C ns ds sd M => exact h
  | stuck => exact h
theorem PostS.imp {x : SRes} {D1 : Ends} (h : PostS K mg W ro H D0 x) (h1 : ∀ st H', D0.nx st H' → D1.nx st H') (h2 : ∀ v H', D0.rt v H' → D1.rt v H') (h3 : ∀ st H', D0.bk st H' → D1.bk st H') (h4 : ∀ st H', D0.ct st H' → D1.ct st H') : PostS K mg W ro H D1 x := by
  cases x with
  | nx sd M => exact fun ro' H' st rs q r => h1 _ _ (h ro' H' st rs q r)
  | ret d M => exact fun ro' H' v rs q r => h2 _ _ (h ro' H' v rs q r)
  | brk sd M => exact fun ro' H' st rs q r => h3 _ _ (h ro' H' st rs q r)
  | ct sd M => exact fun ro' H' st rs q r => h4 _ _ (h ro' H' st rs q r)
  | exc C ns ds sd M => exact h
  | stuck => exact h
end
def passS : MST := fun sd M => .nx sd M
def seqS (a b : MST) : MST := fun sd M => (a sd M).seq b
def setS (i : Nat) (m : ME) : MST := fun sd M => SRes.ofE (m sd M) sd fun d M1 => .nx (sd.set i (some d)) M1
def exprS (m : ME) : MST := fun sd M => SRes.ofE (m sd M) sd fun _ M1 => .nx sd M1
def retS (m : ME) : MST := fun sd M => SRes.ofE (m sd M) sd fun d M1 => .ret d M1
def ifS (c : MB) (a b : MST) : MST := fun sd M => SRes.ofE (c sd M) sd fun k M1 => if k = true then a sd M1 else b sd M1
def stuckS : MST := fun _ _ => .stuck
/-- name op= e -/
def augS (i : Nat) (f : D → D → MS → Res D) (m : ME) : MST := fun sd M => SRes.ofE (nameE i sd M) sd fun x M1 => SRes.ofE (m sd M1) sd fun y M2 => SRes.ofE (f x y M2) sd fun d M3 => .nx (sd.set i (some d)) M3
/-- o[i] = e: a list's item -/
def setItemD (M : MS) (o i v : D) : Option MS := match o, i with
  | .cell n, .int k => match M[n]? with
    | some (.lst ds) => match ixN ds.length k with
      | some j => some (M.set n (.lst (ds.set j v)))
      | none => none
    | _ => none
  | _, _ => none
def putS (mo mi m : ME) : MST := fun sd M => SRes.ofE (m sd M) sd fun v M1 => SRes.ofE (mo sd M1) sd fun o M2 => SRes.ofE (mi sd M2) sd fun i M3 => match setItemD M3 o i v with
  | some M4 => .nx sd M4
  | none => .stuck
section
variable {X : Cx} {W : WX} {s : Stmt} {ss rest : List Stmt} {e c : Expr} {pos : Pos} {m ma mb mc : ME} {tc : MB} {sa sb : MST}
theorem dss_nil : DSs X W [] passS := by
  refine ⟨⟨fun pins s st H D0 I q => pss_nil.run pins s st H D0 I ?_⟩⟩
  obtain ⟨ro, sd, M, R, S, P⟩ := q
  exact P ro H st R (Pres.refl _ _) S
theorem dss_one (h : DS X W s sa) : DSs X W [s] sa := ⟨pss_one h.ps⟩
theorem dss_cons (h : DS X W s sa) (hr : DSs X W rest sb) : DSs X W (s :: rest) (seqS sa sb) := by
  refine ⟨⟨fun pins s st H D0 I q => (pss_cons h.ps hr.ps).run pins s st H D0 I ?_⟩⟩
  obtain ⟨ro, sd, M, R, S, P⟩ := q
  exact ⟨ro, sd, M, R, S, (PostS.seq P).imp (fun st' H' ⟨ro1, sd1, M1, R1, S1, P1, q1⟩ => ⟨ro1, sd1, M1, R1, S1, q1⟩) (fun _ _ h => h) (fun _ _ h => h) (fun _ _ h => h)⟩
/-- a statement that the law never comes to -/
theorem ds_never : DS X W s stuckS := ⟨⟨fun pins s st H D0 I ⟨_, _, _, _, _, P⟩ => P.elim⟩⟩
theorem ds_set {i : Nat} {x : Str} {pos' : Pos} (he : DE X W e m) (hN : X.N.Nodup) (hi : X.N[i]? = some x := by rfl) (hx : Loc X.env.scope x := by first | exact Or.inl rfl | exact Or.inr rfl) (hs : swapsWith e (some (.Name x pos')) pos.line X.env = pure false := by rfl)
    (hf : X.fn x = true ∨ X.env.scope.names.lookup x = some .local := by first | exact .inl rfl | exact .inr rfl | assumption) : DS X W (.Assign [.Name x pos'] e pos) (setS i m) := by
  refine ⟨⟨fun pins s st H D0 I q => (ps_set hN hi hx he.pe hs hf).run pins s st H D0 I ?_⟩⟩
  obtain ⟨ro, sd, M, R, S, P⟩ := q
  refine ⟨ro, sd, M, R, S, (PostS.ofE P S).imp fun x H1 ⟨ro1, M1, d, R1, P1, r1, q1⟩ => ?_⟩
  exact q1 ro1 H1 _ R1 (Pres.refl _ _) ((S.mono P1).set r1)
theorem ds_expr (he : DE X W e m) (hs : swapsWith e none pos.line X.env = pure false := by rfl) : DS X W (.Expr e pos) (exprS m) := by
  refine ⟨⟨fun pins s st H D0 I q => (ps_expr he.pe hs).run pins s st H D0 I ?_⟩⟩
  obtain ⟨ro, sd, M, R, S, P⟩ := q
  refine ⟨ro, sd, M, R, S, (PostS.ofE P S).imp fun x H1 ⟨ro1, M1, d, R1, P1, r1, q1⟩ => ?_⟩
  exact q1 ro1 H1 _ R1 (Pres.refl _ _) (S.mono P1)
theorem ds_ret (he : DE X W e m) : DS X W (.Return (some e) pos) (retS m) := by
  refine ⟨⟨fun pins s st H D0 I q => (ps_ret he.pe).run pins s st H D0 I ?_⟩⟩
  obtain ⟨ro, sd, M, R, S, P⟩ := q
  refine ⟨ro, sd, M, R, S, (PostS.ofE P S).imp fun x H1 ⟨ro1, M1, d, R1, P1, r1, q1⟩ => ?_⟩
  exact q1 ro1 H1 _ R1 (Pres.refl _ _) r1
theorem ds_if {A B : List Stmt} (hc : DT X W c tc) (ha : DSs X W A sa) (hb : DSs X W B sb) : DS X W (.If c A B pos) (ifS tc sa sb) := by
  refine ⟨⟨fun pins s st H D0 I q => (ps_if hc.pt ha.ps hb.ps).run pins s st H D0 I ?_⟩⟩
  obtain ⟨ro, sd, M, R, S, P⟩ := q
  refine ⟨ro, sd, M, R, S, (PostS.ofE P S).imp fun x H1 ⟨ro1, M1, d, R1, P1, r1, q1⟩ => ?_⟩
  subst r1
  cases x with
  | true => rw [if_pos rfl] at q1 ⊢; exact ⟨ro1, sd, M1, R1, S.mono P1, q1⟩
  | false => rw [if_neg Bool.false_ne_true] at q1 ⊢; exact ⟨ro1, sd, M1, R1, S.mono P1, q1⟩
theorem ds_put {o i : Expr} {tp : Pos} {mo mi : ME} (ho : DE X W o mo) (hi : DE X W i mi) (he : DE X W e m)
    (ha : ∀ v, assign (.Subscript o i tp) X.env v = (do
      let ov ← holding [v] (eval o X.env)
      let iv ← holding [v, ov] (eval i X.env)
      standAt tp
      holding [v, ov, iv] (setItem ov iv v)
      release [v, ov, iv] []) := by intro _; rfl)
    (hs : swapsWithSole [.Subscript o i tp] e pos.line X.env = pure false := by rfl) (hw : swappedStores [.Subscript o i tp] e X.env = pure none := by rfl)
    (h1 : (assignEach [.Subscript o i tp] X.env).map (·.2) = [assign (.Subscript o i tp) X.env] := by rfl) : DS X W (.Assign [.Subscript o i tp] e pos) (putS mo mi m) := by
  refine ⟨⟨fun pins s st H D0 I q => (ps_asg he.pe (pg_sub ho.pe hi.pe set_list ha) hs hw h1).run pins s st H D0 I ?_⟩⟩
  obtain ⟨ro, sd, M, R, S, P⟩ := q
  refine ⟨ro, sd, M, R, S, (PostS.ofE P S).imp fun x H1 ⟨ro1, M1, d, R1, P1, r1, q1⟩ => ?_⟩
  refine ⟨ro1, sd, M1, R1, S.mono P1, (PostS.ofE q1 (S.mono P1)).imp fun y H2 ⟨ro2, M2, o', R2, P2, r2, q2⟩ => ?_⟩
  refine ⟨ro2, sd, M2, R2, (S.mono P1).mono P2, (PostS.ofE q2 ((S.mono P1).mono P2)).imp fun z H3 ⟨ro3, M3, i', R3, P3, r3, q3⟩ => ?_⟩
  have r1' := Rep.mono P3 _ _ (Rep.mono P2 _ _ r1)
  have r2' := Rep.mono P3 _ _ r2
  cases o' with
  | cell n =>
    cases i' with
    | int k =>
      have q3 : PostS X.K X.mg W ro3 H3 D0 (match (match M3[n]? with | some (.lst ds) => (match ixN ds.length k with | some j => some (M3.set n (.lst (ds.set j d))) | none => none) | _ => none) with | some M4 => .nx sd M4 | none => .stuck) := q3
      cases hm : M3[n]? with
      | none => rw [hm] at q3; exact q3.elim
      | some mo' =>
        rw [hm] at q3
        cases mo' with
        | lst ds =>
          cases hj : ixN ds.length k with
          | none => simp only [hj] at q3; exact q3.elim
          | some j =>
            simp only [hj] at q3
            obtain ⟨a, ho, rfl, g, h, vs, rfl, q⟩ := R3.cellAt r2' hm
            cases (show z = V.int k from r3)
            obtain ⟨R4, P4⟩ := R3.change (o := .lst (vs.set j x)) (mo := .lst (ds.set j d)) g ⟨_, rfl, q.set j r1'⟩
            exact ⟨a, vs, k, j, rfl, rfl, h, by rw [← q.len]; exact hj, q3 ro3 _ _ R4 P4 ((((S.mono P1).mono P2).mono P3).mono P4)⟩
        | _ => exact q3.elim
    | _ => exact q3.elim
  | _ => exact q3.elim
end
structure ItD where
  ds : List D
  chk : MS → Prop
/-- J walks it, from the heap H on -/
def IterOk (K : PySem.W.Frag) (mg : Str → Option Value) (ro : Pl) (H : Hp) (it : ItD) (J : It) : Prop :=
  ∀ (ro' : Pl) (H' : Hp) (M' : MS), RelS K mg ro' M' H' → PresW ro H ro' H' → it.chk M' →
    J.stop it.ds.length H' ∧ ∀ (i : Nat) (d : D), it.ds[i]? = some d → J.go i H' ∧ ∀ x H'', J.yld i H' x H'' → (∀ a o, H' a = some o → H'' a = some o) ∧ Rep K mg ro' H'' d x
abbrev MI := SD → MS → Res ItD
def liftI (K : PySem.W.Frag) (mg : Str → Option Value) (W : WX) (m : MI) : TI := fun st H Q => ∃ ro sd M, RelS K mg ro M H ∧ RepSt K mg ro H sd st ∧ Post (fun ro' H' it J => IterOk K mg ro' H' it J) K mg (fun c d H' => W c d st H') ro H Q (m sd M)
structure DI (X : Cx) (W : WX) (tg iter : Expr) (m : MI) : Prop where
  pi : PI X tg iter (liftI X.K X.mg W m)
abbrev MG := D → SD → Option SD
def liftG (K : PySem.W.Frag) (mg : Str → Option Value) (g : MG) (ix : List Nat) : TG := fun v st H Q => ∃ ro sd M d, RelS K mg ro M H ∧ RepSt K mg ro H sd st ∧ Rep K mg ro H d v ∧ ∃ sd', g d sd = some sd' ∧
  ∀ st', RepSt K mg ro H sd' st' → (∀ vs : List Nat, (∀ i, i ∈ ix → i ∈ vs) → wipe st' vs = wipe st vs) → Q st' H
structure DG (X : Cx) (tg : Expr) (g : MG) (ix : List Nat) : Prop where
  pg : PG X tg (liftG X.K X.mg g ix)
theorem wipe_get (st : St) : ∀ (vs : List Nat) (j : Nat), (wipe st vs)[j]? = if j ∈ vs ∧ j < st.length then some none else st[j]?
  | [], j => by simp [wipe]
  | v :: vs, j => by
    unfold wipe
    have ih := wipe_get st vs j
    have hl := wipe_length st vs
    by_cases h : v = j
    · subst h
      by_cases hv : v < st.length
      · rw [List.getElem?_set_self (by rw [hl]; exact hv), if_pos ⟨List.mem_cons_self, hv⟩]
      · rw [List.getElem?_eq_none (by rw [List.length_set, hl]; omega), if_neg (fun z => hv z.2), List.getElem?_eq_none (by omega)]
    · rw [List.getElem?_set_ne h, ih]
      have : (j ∈ v :: vs) ↔ (j ∈ vs) := by simp [Ne.symm h]
      simp only [this]
theorem wipe_set (st : St) {i : Nat} {x : Option V} {vs : List Nat} (h : i ∈ vs) : wipe (st.set i x) vs = wipe st vs := by
  apply List.ext_getElem?
  intro j
  rw [wipe_get, wipe_get, List.length_set]
  by_cases hj : i = j
  · subst hj
    by_cases hl : i < st.length
    · rw [if_pos ⟨h, hl⟩, if_pos ⟨h, hl⟩]
    · rw [if_neg (fun z => hl z.2), if_neg (fun z => hl z.2), List.getElem?_eq_none (by rw [List.length_set]; omega), List.getElem?_eq_none (by omega)]
  · rw [List.getElem?_set_ne hj]
def nameG (i : Nat) : MG := fun d sd => some (sd.set i (some d))
/-- (a, b, ..) = a tuple -/
def setAll : List Nat → List D → SD → Option SD
  | [], [], sd => some sd
  | i :: is, d :: ds, sd => setAll is ds (sd.set i (some d))
  | _, _, _ => none
def tupG (is : List Nat) : MG := fun d sd => match d with
  | .tup ds => setAll is ds sd
  | _ => none
open Classical in
noncomputable def forGo (chk : MS → Prop) (g : MG) (body : MST) : List D → SD → MS → SRes
  | [], sd, M => if chk M then .nx sd M else .stuck
  | d :: r, sd, M => if chk M then (match g d sd with
    | none => .stuck
    | some sd1 => match body sd1 M with
      | .nx sd2 M2 => forGo chk g body r sd2 M2
      | .ct sd2 M2 => forGo chk g body r sd2 M2
      | .brk sd2 M2 => .nx sd2 M2
      | .ret v M2 => .ret v M2
      | .exc C ns ds sd2 M2 => .exc C ns ds sd2 M2
      | .stuck => .stuck) else .stuck
noncomputable def forS (it : MI) (g : MG) (body : MST) : MST := fun sd M => SRes.ofE (it sd M) sd fun i M1 => forGo i.chk g body i.ds sd M1
/-- while, at most so many turns -/
def whileGo (c : MB) (body : MST) : Nat → SD → MS → SRes
  | 0, _, _ => .stuck
  | n + 1, sd, M => SRes.ofE (c sd M) sd fun k M1 => if k = true then (match body sd M1 with
      | .nx sd2 M2 => whileGo c body n sd2 M2
      | .ct sd2 M2 => whileGo c body n sd2 M2
      | .brk sd2 M2 => .nx sd2 M2
      | .ret v M2 => .ret v M2
      | .exc C ns ds sd2 M2 => .exc C ns ds sd2 M2
      | .stuck => .stuck) else .nx sd M1
def whileS (n : Nat) (c : MB) (body : MST) : MST := fun sd M => whileGo c body n sd M
section
variable {X : Cx} {W : WX} {tg iter : Expr} {pos : Pos} {body : List Stmt} {mi : MI} {g : MG} {ix : List Nat} {sb : MST} {c : Expr} {tc : MB}
theorem ds_for (cx : Ctx X W) (hi : DI X W tg iter mi) (hg : DG X tg g ix) (hb : DSs X W body sb) (hs : ∀ x, foldedSetIterable iter X.env x = pure x := by intro _; rfl) : DS X W (.For tg iter body [] pos) (forS mi g sb) := by
  refine ⟨⟨fun pins s st H D0 I q => (ps_for cx.po cx.calm hi.pi hg.pg hb.ps hs).run pins s st H D0 I ?_⟩⟩
  obtain ⟨ro, sd, M, R, S, P⟩ := q
  refine ⟨ro, sd, M, R, S, (PostS.ofE P S).imp fun J H1 ⟨ro1, M1, it, R1, P1, J1, q1⟩ => ?_⟩
  -- the invariant: what is left of the run
  refine ⟨fun i m st' H' => m = it.ds.length - i ∧ i ≤ it.ds.length ∧ ∃ ro' sd' M', RelS X.K X.mg ro' M' H' ∧ RepSt X.K X.mg ro' H' sd' st' ∧ Pres ro1 H1 ro' H' ∧ PostS X.K X.mg W ro' H' D0 (forGo it.chk g sb (it.ds.drop i) sd' M'),
    ⟨_, rfl, Nat.zero_le _, ro1, sd, M1, R1, S.mono P1, Pres.refl _ _, q1⟩, ?_⟩
  rintro i m st' H' ⟨rfl, hle, ro', sd', M', R', S', P', q'⟩
  by_cases hlt : i < it.ds.length
  · have hd : it.ds.drop i = it.ds[i] :: it.ds.drop (i + 1) := List.drop_eq_getElem_cons hlt
    rw [hd] at q'
    unfold forGo at q'
    by_cases hc : it.chk M'
    · rw [if_pos hc] at q'
      obtain ⟨_, hJ⟩ := J1 ro' H' M' R' P'.w hc
      obtain ⟨hgo, hy⟩ := hJ i _ (List.getElem?_eq_getElem hlt)
      refine .inr ⟨hgo, fun st2 H2 => ∃ ro2 sd2 M2, RelS X.K X.mg ro2 M2 H2 ∧ RepSt X.K X.mg ro2 H2 sd2 st2 ∧ Pres ro1 H1 ro2 H2 ∧ PostS X.K X.mg W ro2 H2 D0 (forGo it.chk g sb (it.ds.drop (i + 1)) sd2 M2),
        fun st2 H2 ⟨ro2, sd2, M2, R2, S2, P2, q2⟩ => ⟨it.ds.length - (i + 1), by omega, rfl, hlt, ro2, sd2, M2, R2, S2, P2, q2⟩, fun x H'' y => ?_⟩
      obtain ⟨hgrow, hrep⟩ := hy x H'' y
      obtain ⟨R'', P''⟩ := R'.grow hgrow
      cases hgd : g it.ds[i] sd' with
      | none => rw [hgd] at q'; exact q'.elim
      | some sd1 =>
        rw [hgd] at q'
        refine ⟨ro', sd', M', _, R'', S'.mono P'', hrep, sd1, hgd, fun st1 S1 _ => ?_⟩
        refine ⟨ro', sd1, M', R'', S1, ?_⟩
        have q' := q'
        dsimp only at q'
        cases hbd : sb sd1 M' with
        | nx sd2 M2 => rw [hbd] at q'; exact fun ro2 H2 st2 R2 P2 S2 => ⟨ro2, sd2, M2, R2, S2, (P'.trans P'').trans P2, PostS.moves q' (P''.trans P2)⟩
        | ct sd2 M2 => rw [hbd] at q'; exact fun ro2 H2 st2 R2 P2 S2 => ⟨ro2, sd2, M2, R2, S2, (P'.trans P'').trans P2, PostS.moves q' (P''.trans P2)⟩
        | brk sd2 M2 => rw [hbd] at q'; exact fun ro2 H2 st2 R2 P2 S2 => q' ro2 H2 st2 R2 (P''.trans P2) S2
        | ret v M2 => rw [hbd] at q'; exact fun ro2 H2 st2 R2 P2 S2 => q' ro2 H2 st2 R2 (P''.trans P2) S2
        | exc C ns ds sd2 M2 => rw [hbd] at q'; exact fun ro2 H2 st2 cls dd R2 P2 S2 r => q' ro2 H2 st2 cls dd R2 (P''.trans P2) S2 r
        | stuck => rw [hbd] at q'; exact q'
    · rw [if_neg hc] at q'; exact q'.elim
  · have e : i = it.ds.length := by omega
    subst e
    rw [List.drop_length] at q'
    unfold forGo at q'
    by_cases hc : it.chk M'
    · rw [if_pos hc] at q'
      exact .inl ⟨(J1 ro' H' M' R' P'.w hc).1, q' ro' H' st' R' (Pres.refl _ _) S'⟩
    · rw [if_neg hc] at q'; exact q'.elim
theorem ds_while {n : Nat} (cx : Ctx X W) (hc : DT X W c tc) (hb : DSs X W body sb) : DS X W (.While c body [] pos) (whileS n tc sb) := by
  refine ⟨⟨fun pins s st H D0 I q => (ps_while cx.po hc.pt hb.ps).run pins s st H D0 I ?_⟩⟩
  obtain ⟨ro, sd, M, R, S, P⟩ := q
  refine ⟨fun k st' H' => ∃ ro' sd' M', RelS X.K X.mg ro' M' H' ∧ RepSt X.K X.mg ro' H' sd' st' ∧ PostS X.K X.mg W ro' H' D0 (whileGo tc sb k sd' M'), ⟨n, ro, sd, M, R, S, P⟩, ?_⟩
  rintro k st' H' ⟨ro', sd', M', R', S', q'⟩
  cases k with
  | zero => exact q'.elim
  | succ k =>
    unfold whileGo at q'
    refine ⟨ro', sd', M', R', S', (PostS.ofE q' S').imp fun b H1 ⟨ro1, M1, b', R1, P1, r1, q1⟩ => ?_⟩
    subst r1
    cases b with
    | false => rw [if_neg Bool.false_ne_true] at q1 ⊢; exact q1 ro1 H1 st' R1 (Pres.refl _ _) (S'.mono P1)
    | true =>
      rw [if_pos rfl] at q1 ⊢
      refine ⟨fun st2 H2 => ∃ ro2 sd2 M2, RelS X.K X.mg ro2 M2 H2 ∧ RepSt X.K X.mg ro2 H2 sd2 st2 ∧ PostS X.K X.mg W ro2 H2 D0 (whileGo tc sb k sd2 M2), fun st2 H2 h => ⟨k, Nat.lt_succ_self _, h⟩, ro1, sd', M1, R1, S'.mono P1, ?_⟩
      cases hbd : sb sd' M1 with
      | nx sd2 M2 => rw [hbd] at q1; exact fun ro2 H2 st2 R2 P2 S2 => ⟨ro2, sd2, M2, R2, S2, PostS.moves q1 P2⟩
      | ct sd2 M2 => rw [hbd] at q1; exact fun ro2 H2 st2 R2 P2 S2 => ⟨ro2, sd2, M2, R2, S2, PostS.moves q1 P2⟩
      | brk sd2 M2 => rw [hbd] at q1; exact fun ro2 H2 st2 R2 P2 S2 => q1 ro2 H2 st2 R2 P2 S2
      | ret v M2 => rw [hbd] at q1; exact fun ro2 H2 st2 R2 P2 S2 => q1 ro2 H2 st2 R2 P2 S2
      | exc C ns ds sd2 M2 => rw [hbd] at q1; exact fun ro2 H2 st2 cls dd R2 P2 S2 r => q1 ro2 H2 st2 cls dd R2 P2 S2 r
      | stuck => rw [hbd] at q1; exact q1
/-- targets -/
theorem dg_name {i : Nat} {x : Str} (hN : X.N.Nodup) (hi : X.N[i]? = some x := by rfl) (hx : Loc X.env.scope x := by first | exact Or.inl rfl | exact Or.inr rfl) (hf : X.fn x = true ∨ X.env.scope.names.lookup x = some .local := by first | exact .inl rfl | exact .inr rfl | assumption) : DG X (.Name x pos) (nameG i) [i] := by
  refine ⟨⟨fun pins s st H v u Q I r h => (pg_name hN hi hx hf).run pins s st H v u Q I r ?_⟩⟩
  obtain ⟨ro, sd, M, d, R, S, rd, sd', e, q⟩ := h
  cases e
  exact q _ (S.set rd) fun vs h => wipe_set st (h i List.mem_cons_self)
end
abbrev FM := List D → MS → Res D
/-- a def's promise by its function over data -/
def spD (K : PySem.W.Frag) (mg : Str → Option Value) (n : Nat) (F : FM) : Sp := fun vs H Q E => vs.length = n ∧ ∃ ro ds M, RelS K mg ro M H ∧ Reps K mg ro H ds vs ∧ PostD K mg E ro H Q (F ds M)
def startD (n : Nat) (ds : List D) : SD := ds.map some ++ List.replicate (n - ds.length) none
/-- a body's end as a call's end -/
def SRes.res : SRes → Res D
  | .nx _ M => .ok .non M
  | .ret d M => .ok d M
  | .exc C ns ds _ M => .exc C ns ds M
  | _ => .stuck
def runD (n : Nat) (body : MST) : FM := fun ds M => (body (startD n ds) M).res
theorem repSt_start {K : PySem.W.Frag} {mg : Str → Option Value} {ro : Pl} {H : Hp} {ds : List D} {vs : List V} {N : List Str} (r : Reps K mg ro H ds vs) : RepSt K mg ro H (startD N.length ds) (L2.start N vs) := by
  have hl := r.len
  refine ⟨by simp [startD, L2.start, hl], fun i d e => ?_⟩
  unfold startD at e
  by_cases hi : i < ds.length
  · rw [List.getElem?_append_left (by simpa using hi), List.getElem?_map] at e
    cases q : ds[i]? with
    | none => rw [q] at e; cases e
    | some x =>
      rw [q] at e; cases e
      obtain ⟨v, hv, rv⟩ := r.get q
      refine ⟨v, ?_, rv⟩
      unfold L2.start
      rw [List.getElem?_append_left (by simpa [← hl] using hi), List.getElem?_map, hv]
      rfl
  · rw [List.getElem?_append_right (by simpa using hi), List.getElem?_replicate] at e
    split at e <;> cases e
section
variable {P : Program} {w : World} {K : PySem.W.Frag} {mg : Str → Option Value} {base : Heap}
abbrev DOk (P : Program) (w : World) (K : PySem.W.Frag) (mg : Str → Option Value) (base : Heap) (k : Nat) (f : Addr) (fd : FuncData) (ps : List Str) (F : FM) : Prop :=
  FnOk P w K mg base (L2.CX P w) k f fd ps (spD K mg ps.length F)
end
end DL
namespace DL
open PySem PySem.Spec L2
open PyProof.Rows hiding St
section
variable {X : Cx}
theorem OpS.or {fv : Value → Value → Sem Value} {f g : D → D → MS → Res D} (hf : OpS X fv f) (hg : OpS X fv g) (h : D → D → MS → Bool) : OpS X fv (fun d e M => if h d e M = true then f d e M else g d e M) := by
  obtain ⟨r, h1, h2⟩ := hf
  obtain ⟨r', h1', h2'⟩ := hg
  refine ⟨_, OpR.or h1 h1', fun ro H M d e x y E Q R rx ry P => ?_⟩
  dsimp only at P
  by_cases hc : h d e M = true
  · rw [if_pos hc] at P; exact .inl (h2 ro H M d e x y E Q R rx ry P)
  · rw [if_neg hc] at P; exact .inr (h2' ro H M d e x y E Q R rx ry P)
theorem opS_int {fv : Value → Value → Sem Value} {C : Int → Int → Prop} {k : Int → Int → D} {kv : Int → Int → V} (ho : OpR X fv (rI C kv)) (hk : ∀ i j ro H, Rep X.K X.mg ro H (k i j) (kv i j)) {f : D → D → MS → Res D}
    (hf : ∀ d e M, f d e M ≠ .stuck → ∃ i j, d = .int i ∧ e = .int j ∧ C i j ∧ f d e M = .ok (k i j) M) : OpS X fv f := by
  refine ⟨_, ho, fun ro H M d e x y E Q R rx ry P => ?_⟩
  obtain ⟨i, j, rfl, rfl, hc, ef⟩ := hf d e M fun z => by rw [z] at P; exact P
  rw [ef] at P
  cases (show x = V.int i from rx)
  cases (show y = V.int j from ry)
  exact ⟨i, j, rfl, rfl, hc, PostD.pure R (hk i j ro H) P⟩
theorem opS_int0 {fv : Value → Value → Sem Value} {k : Int → Int → D} {kv : Int → Int → V} (ho : OpR X fv (rI0 kv)) (hk : ∀ i j ro H, Rep X.K X.mg ro H (k i j) (kv i j)) {f : D → D → MS → Res D}
    (hf : ∀ d e M, f d e M ≠ .stuck → ∃ i j, d = .int i ∧ e = .int j ∧ f d e M = .ok (k i j) M) : OpS X fv f := by
  refine ⟨_, ho, fun ro H M d e x y E Q R rx ry P => ?_⟩
  obtain ⟨i, j, rfl, rfl, ef⟩ := hf d e M fun z => by rw [z] at P; exact P
  rw [ef] at P
  cases (show x = V.int i from rx)
  cases (show y = V.int j from ry)
  exact ⟨i, j, rfl, rfl, PostD.pure R (hk i j ro H) P⟩
end
def isI2 : D → D → MS → Bool := fun d e _ => match d, e with
  | .int _, .int _ => true
  | _, _ => false
def isS2 : D → D → MS → Bool := fun d e _ => match d, e with
  | .str _, .str _ => true
  | _, _ => false
def isT2 : D → D → MS → Bool := fun d e _ => match d, e with
  | .tup _, .tup _ => true
  | _, _ => false
def addI (d e : D) (M : MS) : Res D := match d, e with
  | .int i, .int j => .ok (.int (i + j)) M
  | _, _ => .stuck
def addS (d e : D) (M : MS) : Res D := match d, e with
  | .str x, .str y => if x.length + y.length ≤ 1000000 then .ok (.str (x ++ y)) M else .stuck
  | _, _ => .stuck
def addL (d e : D) (M : MS) : Res D := match lstOf M d, lstOf M e with
  | some xs, some ys => if xs.length + ys.length ≤ 1000000 then .ok (.lst (xs ++ ys)) M else .stuck
  | _, _ => .stuck
def addT (d e : D) (M : MS) : Res D := match d, e with
  | .tup xs, .tup ys => if xs.length + ys.length ≤ 1000000 then .ok (.tup (xs ++ ys)) M else .stuck
  | _, _ => .stuck
def addD : D → D → MS → Res D := fun d e M => if isI2 d e M = true then addI d e M else if isS2 d e M = true then addS d e M else if isT2 d e M = true then addT d e M else addL d e M
theorem Str.tx_append (x y : List Nat) : tx x ++ tx y = tx (x ++ y) := by
  show (⟨x.toArray ++ y.toArray⟩ : Str) = ⟨(x ++ y).toArray⟩
  simp
section
variable {X : Cx}
theorem opS_addI : OpS X (binaryOp .Add) addI := opS_int0 (k := fun i j => .int (i + j)) op_add (fun _ _ _ _ => rfl) fun d e M h => by
  cases d <;> cases e <;> first | exact absurd rfl h | exact ⟨_, _, rfl, rfl, rfl⟩
theorem opS_addS : OpS X (binaryOp .Add) addS := by
  refine ⟨_, op_add_str, fun ro H M d e x y E Q R rx ry P => ?_⟩
  cases d <;> cases e <;> try exact P.elim
  rename_i a b
  cases (show x = V.str (tx a) from rx)
  cases (show y = V.str (tx b) from ry)
  simp only [addS] at P
  split at P
  · rename_i hl
    refine ⟨_, _, rfl, rfl, by simp only [Str.length, List.size_toArray]; exact line_le hl, ?_⟩
    rw [Str.tx_append]
    exact PostD.pure (d := .str (a ++ b)) R rfl P
  · exact P.elim
theorem opS_addL : OpS X (binaryOp .Add) addL := by
  refine ⟨_, op_cat, fun ro H M d e x y E Q R rx ry P => ?_⟩
  unfold addL at P
  split at P
  · rename_i xs ys h1 h2
    obtain ⟨a, vs, rfl, ha, qa⟩ := lst_of R rx h1
    obtain ⟨b, ws, rfl, hb, qb⟩ := lst_of R ry h2
    split at P
    · rename_i hl
      exact ⟨a, b, vs, ws, rfl, rfl, ha, hb, by rw [← qa.len, ← qb.len]; exact line_le hl, PostD.newL R (qa.append qb) P⟩
    · exact P.elim
  · exact P.elim
theorem opS_addT : OpS X (binaryOp .Add) addT := by
  refine ⟨_, op_catA, fun ro H M d e x y E Q R rx ry P => ?_⟩
  cases d <;> cases e <;> try exact P.elim
  rename_i xs ys
  obtain ⟨a, vs, rfl, ha, qa⟩ := id rx
  obtain ⟨b, ws, rfl, hb, qb⟩ := id ry
  simp only [addT] at P
  split at P
  · rename_i hl
    refine ⟨a, b, vs, ws, rfl, rfl, ha.sq, hb.sq, by rw [← qa.len, ← qb.len]; exact line_le hl, fun e => ?_, fun _ e => ?_, fun _ _ => PostD.newT R (qa.append qb) P⟩
    · have : xs = [] := by have := qa.len; rw [e] at this; simpa using this
      subst this
      exact PostD.pure R ry P
    · have : ys = [] := by have := qb.len; rw [e] at this; simpa using this
      subst this
      rw [List.append_nil] at P
      exact PostD.pure R rx P
  · exact P.elim
theorem opS_add : OpS X (binaryOp .Add) addD := OpS.or opS_addI (OpS.or opS_addS (OpS.or opS_addT opS_addL isT2) isS2) isI2
end
def subI (d e : D) (M : MS) : Res D := match d, e with
  | .int i, .int j => .ok (.int (i - j)) M
  | _, _ => .stuck
def mulI (d e : D) (M : MS) : Res D := match d, e with
  | .int i, .int j => if (-(2 ^ 64) < i ∧ i < 2 ^ 64) ∨ (-(2 ^ 64) < j ∧ j < 2 ^ 64) then .ok (.int (i * j)) M else .stuck
  | _, _ => .stuck
/-- great factors -/
def mulW (d e : D) (M : MS) : Res D := match d, e with
  | .int i, .int j => if i.natAbs.log2 + j.natAbs.log2 < 1000000 then .ok (.int (i * j)) M else .stuck
  | _, _ => .stuck
def mulL (d e : D) (M : MS) : Res D := match lstOf M d, e with
  | some xs, .int k => if -1000 ≤ k ∧ k ≤ 1000 ∧ xs.length * k.toNat ≤ 1000000 then .ok (.lst (List.replicate k.toNat xs).flatten) M else .stuck
  | _, _ => .stuck
def fdivI (d e : D) (M : MS) : Res D := match d, e with
  | .int i, .int j => if 0 < j ∧ j < 1073741824 then .ok (.int (i / j)) M else .stuck
  | _, _ => .stuck
def fdivW (d e : D) (M : MS) : Res D := match d, e with
  | .int i, .int j => if 0 < j ∧ j.natAbs.log2 < 9000 then .ok (.int (i / j)) M else .stuck
  | _, _ => .stuck
def modI (d e : D) (M : MS) : Res D := match d, e with
  | .int i, .int j => if 0 < j then .ok (.int (i % j)) M else .stuck
  | _, _ => .stuck
def powI (d e : D) (M : MS) : Res D := match d, e with
  | .int i, .int j => if 0 ≤ j ∧ j ≤ 1000000 ∧ i.natAbs < 2 ^ 64 then .ok (.int (i ^ j.toNat)) M else .stuck
  | _, _ => .stuck
def mulD : D → D → MS → Res D := fun d e M => if isI2 d e M = true then mulI d e M else mulL d e M
section
variable {X : Cx}
theorem opS_sub : OpS X (binaryOp .Sub) subI := opS_int0 (k := fun i j => .int (i - j)) op_sub (fun _ _ _ _ => rfl) fun d e M h => by
  cases d <;> cases e <;> first | exact absurd rfl h | exact ⟨_, _, rfl, rfl, rfl⟩
theorem opS_mulI : OpS X (binaryOp .Mult) mulI := opS_int (k := fun i j => .int (i * j)) op_mul (fun _ _ _ _ => rfl) fun d e M h => by
  cases d <;> cases e <;> try exact absurd rfl h
  simp only [mulI] at h ⊢
  split at h
  · rename_i c; exact ⟨_, _, rfl, rfl, c, if_pos c⟩
  · exact absurd rfl h
theorem opS_mulW : OpS X (binaryOp .Mult) mulW := opS_int (k := fun i j => .int (i * j)) op_mulW (fun _ _ _ _ => rfl) fun d e M h => by
  cases d <;> cases e <;> try exact absurd rfl h
  simp only [mulW] at h ⊢
  split at h
  · rename_i c; exact ⟨_, _, rfl, rfl, c, if_pos c⟩
  · exact absurd rfl h
theorem opS_mulL : OpS X (binaryOp .Mult) mulL := by
  refine ⟨_, op_rep, fun ro H M d e x y E Q R rx ry P => ?_⟩
  unfold mulL at P
  split at P
  · rename_i xs k h1
    obtain ⟨a, vs, rfl, ha, qa⟩ := lst_of R rx h1
    cases (show y = V.int k from ry)
    split at P
    · rename_i hl
      exact ⟨a, k, vs, rfl, rfl, ha, by omega, by omega, by rw [← qa.len]; exact line_le hl.2.2, PostD.newL R (qa.flatten_replicate _) P⟩
    · exact P.elim
  · exact P.elim
theorem opS_mul : OpS X (binaryOp .Mult) mulD := OpS.or opS_mulI opS_mulL isI2
theorem opS_fdiv : OpS X (binaryOp .FloorDiv) fdivI := opS_int (k := fun i j => .int (i / j)) op_fdiv (fun _ _ _ _ => rfl) fun d e M h => by
  cases d <;> cases e <;> try exact absurd rfl h
  simp only [fdivI] at h ⊢
  split at h
  · rename_i c; exact ⟨_, _, rfl, rfl, c, if_pos c⟩
  · exact absurd rfl h
theorem opS_fdivW : OpS X (binaryOp .FloorDiv) fdivW := opS_int (k := fun i j => .int (i / j)) op_fdivW (fun _ _ _ _ => rfl) fun d e M h => by
  cases d <;> cases e <;> try exact absurd rfl h
  simp only [fdivW] at h ⊢
  split at h
  · rename_i c; exact ⟨_, _, rfl, rfl, c, if_pos c⟩
  · exact absurd rfl h
theorem opS_mod : OpS X (binaryOp .Mod) modI := opS_int (k := fun i j => .int (i % j)) op_mod (fun _ _ _ _ => rfl) fun d e M h => by
  cases d <;> cases e <;> try exact absurd rfl h
  simp only [modI] at h ⊢
  split at h
  · rename_i c; exact ⟨_, _, rfl, rfl, c, if_pos c⟩
  · exact absurd rfl h
theorem opS_pow : OpS X (binaryOp .Pow) powI := opS_int (k := fun i j => .int (i ^ j.toNat)) op_pow (fun _ _ _ _ => rfl) fun d e M h => by
  cases d <;> cases e <;> try exact absurd rfl h
  simp only [powI] at h ⊢
  split at h
  · rename_i c; exact ⟨_, _, rfl, rfl, c, if_pos c⟩
  · exact absurd rfl h
def negI (d : D) (M : MS) : Res D := match d with
  | .int i => .ok (.int (-i)) M
  | _ => .stuck
theorem unS_neg : UnS X (unaryOp .USub) negI := by
  refine ⟨_, un_neg, fun ro H M d x E Q R rx P => ?_⟩
  cases d <;> try exact P.elim
  rename_i i
  cases (show x = V.int i from rx)
  exact ⟨i, rfl, PostD.pure (d := .int (-i)) R rfl P⟩
end
def cmpI (p : Int → Int → Bool) (d e : D) (M : MS) : Res D := match d, e with
  | .int i, .int j => .ok (.bl (p i j)) M
  | _, _ => .stuck
def cmpT (p : List Nat → List Nat → Bool) (d e : D) (M : MS) : Res D := match d, e with
  | .str x, .str y => .ok (.bl (p x y)) M
  | _, _ => .stuck
def ltD : D → D → MS → Res D := fun d e M => if isI2 d e M = true then cmpI (fun i j => decide (i < j)) d e M else cmpT (fun x y => decide (x < y)) d e M
def leD : D → D → MS → Res D := fun d e M => if isI2 d e M = true then cmpI (fun i j => decide (i ≤ j)) d e M else cmpT (fun x y => !decide (y < x)) d e M
def gtD : D → D → MS → Res D := fun d e M => if isI2 d e M = true then cmpI (fun i j => decide (j < i)) d e M else cmpT (fun x y => decide (y < x)) d e M
def geD : D → D → MS → Res D := fun d e M => if isI2 d e M = true then cmpI (fun i j => decide (j ≤ i)) d e M else cmpT (fun x y => !decide (x < y)) d e M
section
variable {X : Cx}
theorem opS_cmpI {op : CmpOp} {p : Int → Int → Bool} (ho : OpR X (compareOp op) (rI0 fun i j => .bl (p i j))) : OpS X (compareOp op) (cmpI p) := opS_int0 (k := fun i j => .bl (p i j)) ho (fun _ _ _ _ => rfl) fun d e M h => by
  cases d <;> cases e <;> first | exact absurd rfl h | exact ⟨_, _, rfl, rfl, rfl⟩
theorem opS_cmpT {op : CmpOp} {p : List Nat → List Nat → Bool} (ho : OpR X (compareOp op) (fun x y H Q => ∃ i j, x = .str i ∧ y = .str j ∧ Q (.bl (p i.cps.toList j.cps.toList)) H)) : OpS X (compareOp op) (cmpT p) := by
  refine ⟨_, ho, fun ro H M d e x y E Q R rx ry P => ?_⟩
  cases d <;> cases e <;> try exact P.elim
  rename_i a b
  cases (show x = V.str (tx a) from rx)
  cases (show y = V.str (tx b) from ry)
  exact ⟨_, _, rfl, rfl, PostD.pure (d := .bl (p a b)) R rfl P⟩
theorem opS_lt : OpS X (compareOp .Lt) ltD := OpS.or (opS_cmpI op_lt) (opS_cmpT op_lt_str) isI2
theorem opS_gt : OpS X (compareOp .Gt) gtD := OpS.or (opS_cmpI op_gt) (opS_cmpT op_gt_str) isI2
theorem opS_ge : OpS X (compareOp .GtE) geD := OpS.or (opS_cmpI op_ge) (opS_cmpT op_ge_str) isI2
end
def isN (d : D) : Bool := match d with
  | .non => true
  | _ => false
section
variable {X : Cx} {W : WX} {a : Expr} {pos p2 : Pos} {ma : ME} {j : Option String}
theorem rep_non {K : PySem.W.Frag} {mg : Str → Option Value} {ro : Pl} {H : Hp} {d : D} {x : V} (r : Rep K mg ro H d x) : decide (x = .non) = isN d := by
  cases d with
  | non => cases (show x = V.non from r); rfl
  | bl b => cases (show x = V.bl b from r); rfl
  | int i => cases (show x = V.int i from r); rfl
  | str y => cases (show x = V.str (tx y) from r); rfl
  | tup ds => obtain ⟨a, vs, rfl, _⟩ := r; rfl
  | lst ds => obtain ⟨a, vs, rfl, _⟩ := r; rfl
  | flst ds => obtain ⟨a, vs, rfl, _⟩ := r; rfl
  | obj C ns ds => obtain ⟨a, c, dx, vs, rfl, _⟩ := r; rfl
  | dic ks ds => obtain ⟨a, kl, vs, rfl, _⟩ := r; rfl
  | glo x => obtain ⟨a, rfl, _⟩ := r; rfl
  | ty n => cases (show x = V.ty n from r); rfl
  | exn C ns ds x d => obtain ⟨a, vs, ⟨rfl, _⟩, _⟩ := r; rfl
  | cell n => obtain ⟨a, rfl, _⟩ := r; rfl
theorem opS_isN : OpS X (compareOp .Is) (fun d e M => match e with | .non => .ok (.bl (isN d)) M | _ => .stuck) := by
  refine ⟨_, op_isN, fun ro H M d e x y E Q R rx ry P => ?_⟩
  cases e <;> try exact P.elim
  cases (show y = V.non from ry)
  exact ⟨rfl, by rw [rep_non rx]; exact PostD.pure (d := .bl (isN d)) R rfl P⟩
end
def ixD (o i : D) (M : MS) : Res D := match i with
  | .int k => (match o with
    | .str x => if x.length ≤ 1000000 then (match atI x k with
      | some c => .ok (.str [c]) M
      | none => .stuck) else .stuck
    | _ => match seqOf M o with
      | some ds => (match atI ds k with
        | some d => .ok d M
        | none => .stuck)
      | none => .stuck)
  | _ => .stuck
theorem Reps.atI {K : PySem.W.Frag} {mg : Str → Option Value} {ro : Pl} {H : Hp} {ds : List D} {vs : List V} {k : Int} {d : D} (h : Reps K mg ro H ds vs) (e : L2.atI ds k = some d) : ∃ v, L2.atI vs k = some v ∧ Rep K mg ro H d v := by
  unfold L2.atI at e ⊢
  rw [← h.len]
  cases q : ixN ds.length k with
  | none => rw [q] at e; cases e
  | some j =>
    rw [q] at e
    exact h.get e
section
variable {X : Cx}
theorem ixS_any : IxS X ixD := by
  refine ⟨_, ix_seq, fun ro H M d e x y E Q R rx ry P => ?_⟩
  cases e <;> try exact P.elim
  rename_i k
  cases (show y = V.int k from ry)
  unfold ixD at P
  dsimp only at P
  split at P
  · rename_i z
    cases (show x = V.str (tx z) from rx)
    split at P
    · rename_i hl
      split at P
      · rename_i c hc
        refine .inr (.inr ⟨tx z, k, c, rfl, rfl, by simp only [Str.length, List.size_toArray]; exact line_le hl, hc, ?_⟩)
        exact PostD.pure (d := .str [c]) R rfl P
      · exact P.elim
    · exact P.elim
  · split at P
    · rename_i ds hs
      split at P
      · rename_i g hg
        obtain ⟨a, vs, rfl, ha, q⟩ := seq_of R rx hs
        obtain ⟨v, hv, rv⟩ := q.atI hg
        rcases ha with ha | ha
        · exact .inl ⟨a, vs, k, v, rfl, rfl, ha, hv, PostD.pure R rv P⟩
        · exact .inr (.inl ⟨a, vs, k, v, rfl, rfl, ha, hv, PostD.pure R rv P⟩)
      · exact P.elim
    · exact P.elim
end
def lenF (ds : List D) (M : MS) : Res D := match ds with
  | [.str x] => if x.length ≤ 1000000 then .ok (.int x.length) M else .stuck
  | [.cell n] => (match M[n]? with
    | some (.lst es) => .ok (.int es.length) M
    | some (.dic ks _) => .stuck
    | _ => .stuck)
  | [d] => (match seqOf M d with
    | some es => .ok (.int es.length) M
    | none => .stuck)
  | _ => .stuck
def max2F (ds : List D) (M : MS) : Res D := match ds with
  | [.int i, .int j] => .ok (.int (if j > i then j else i)) M
  | _ => .stuck
def min2F (ds : List D) (M : MS) : Res D := match ds with
  | [.int i, .int j] => .ok (.int (if j < i then j else i)) M
  | _ => .stuck
def absF (ds : List D) (M : MS) : Res D := match ds with
  | [.int i] => .ok (.int (if i < 0 then -i else i)) M
  | _ => .stuck
def intF (ds : List D) (M : MS) : Res D := match ds with
  | [.int i] => .ok (.int i) M
  | [.bl k] => .ok (.int (if k then 1 else 0)) M
  | _ => .stuck
def boolF (ds : List D) (M : MS) : Res D := match ds with
  | [.int i] => .ok (.bl (i != 0)) M
  | [.bl k] => .ok (.bl k) M
  | _ => .stuck
theorem reps1 {K : PySem.W.Frag} {mg : Str → Option Value} {ro : Pl} {H : Hp} {d : D} {vs : List V} (h : Reps K mg ro H [d] vs) : ∃ v, vs = [v] ∧ Rep K mg ro H d v := by
  obtain ⟨v, r, rfl, q, t⟩ := h
  cases (show r = [] from t)
  exact ⟨v, rfl, q⟩
theorem reps2 {K : PySem.W.Frag} {mg : Str → Option Value} {ro : Pl} {H : Hp} {d e : D} {vs : List V} (h : Reps K mg ro H [d, e] vs) : ∃ v w, vs = [v, w] ∧ Rep K mg ro H d v ∧ Rep K mg ro H e w := by
  obtain ⟨v, r, rfl, q, t⟩ := h
  obtain ⟨w, rfl, q'⟩ := reps1 t
  exact ⟨v, w, rfl, q, q'⟩
section
variable {X : Cx}
theorem callS_len : CallS X (.builtin "len") lenF := by
  refine ⟨_, call_len, fun ro H M ds xs E Q R rs P => ?_⟩
  have seqs : ∀ (d : D) (es : List D), ds = [d] → seqOf M d = some es → PostD X.K X.mg E ro H Q (.ok (.int es.length) M) → ∃ x n, xs = [x] ∧ LenV X.K x H n ∧ Q (.int n) H := fun d es hd he P' => by
    subst hd
    obtain ⟨v, rfl, q⟩ := reps1 rs
    obtain ⟨a, vs, rfl, ha, q'⟩ := seq_of R q he
    refine ⟨_, vs.length, rfl, ?_, by rw [← q'.len]; exact PostD.pure (d := .int es.length) R rfl P'⟩
    rcases ha with ha | ha
    · exact .inl ⟨vs, ha, rfl⟩
    · exact .inr ⟨vs, ha, rfl⟩
  unfold lenF at P
  split at P
  · rename_i x
    obtain ⟨v, rfl, q⟩ := reps1 rs
    cases (show v = V.str (tx x) from q)
    split at P
    · rename_i hl
      exact ⟨_, x.length, rfl, ⟨by simp only [Str.length, List.size_toArray]; exact line_le hl, by simp [Str.length]⟩, PostD.pure (d := .int x.length) R rfl P⟩
    · exact P.elim
  · rename_i n
    split at P
    · rename_i es hm
      exact seqs _ es rfl (by simp [seqOf, hm]) P
    · exact P.elim
    · exact P.elim
  · rename_i d _ _
    split at P
    · rename_i es he
      exact seqs d es rfl he P
    · exact P.elim
  · exact P.elim
theorem callS_min2 (hc : X.calm = true) : CallS X (.builtin "min") min2F := by
  refine ⟨_, call_min2 hc, fun ro H M ds xs E Q R rs P => ?_⟩
  unfold min2F at P
  split at P
  · obtain ⟨v, w, rfl, q, q'⟩ := reps2 rs
    cases (show v = V.int _ from q)
    cases (show w = V.int _ from q')
    exact ⟨_, _, rfl, PostD.pure (d := .int _) R rfl P⟩
  · exact P.elim
theorem callS_int : CallS X (.type "int") intF := by
  refine ⟨_, call_int1, fun ro H M ds xs E Q R rs P => ?_⟩
  unfold intF at P
  split at P
  · obtain ⟨v, rfl, q⟩ := reps1 rs
    cases (show v = V.int _ from q)
    exact .inl ⟨_, rfl, PostD.pure (d := .int _) R rfl P⟩
  · obtain ⟨v, rfl, q⟩ := reps1 rs
    cases (show v = V.bl _ from q)
    exact .inr ⟨_, rfl, PostD.pure (d := .int _) R rfl P⟩
  · exact P.elim
end
end DL
namespace DL
open PySem PySem.Spec L2
open PyProof.Rows hiding St
def itD (M : MS) (d : D) : Option ItD := match d with
  | .str x => some ⟨x.map fun c => .str [c], fun _ => True⟩
  | .tup ds => some ⟨ds, fun _ => True⟩
  | .lst ds => some ⟨ds, fun _ => True⟩
  | .flst ds => some ⟨ds, fun _ => True⟩
  | .cell n => match M[n]? with
    | some (.lst ds) => some ⟨ds, fun M' => M'[n]? = some (.lst ds)⟩
    | _ => none
  | _ => none
def anyI (m : ME) : MI := fun sd M => (m sd M).bind fun d M1 => match itD M1 d with
  | some it => .ok it M1
  | none => .stuck
def isTup : D → Bool
  | .tup _ => true
  | _ => false
section
variable {K : PySem.W.Frag} {mg : Str → Option Value} {ro : Pl} {H : Hp} {M : MS}
theorem Reps.at_ {ds : List D} {vs : List V} (h : Reps K mg ro H ds vs) {i : Nat} {d : D} (e : ds[i]? = some d) {x : V} (ex : vs[i]? = some x) : Rep K mg ro H d x := by
  obtain ⟨v, hv, r⟩ := h.get e
  rw [ex] at hv; cases hv
  exact r
theorem iterOk_tup {ds : List D} {x : V} (r : Rep K mg ro H (.tup ds) x) : ∃ a vs, x = .ref a ∧ SqT K H a vs ∧ IterOk K mg ro H ⟨ds, fun _ => True⟩ (Itt K a) := by
  obtain ⟨a, vs, rfl, q, rs⟩ := id r
  refine ⟨a, vs, rfl, q.sq, fun ro' H' M' R' P' _ => ?_⟩
  obtain ⟨a', vs', e, q', rs'⟩ := Rep.monoW P' _ _ r
  cases e
  refine ⟨⟨vs', q'.sq, by rw [← rs'.len]; exact Nat.le_refl _⟩, fun i d hd => ⟨?_, fun y H'' hy => ?_⟩⟩
  · obtain ⟨v, hv, _⟩ := rs'.get hd
    exact ⟨vs', v, q'.sq, hv⟩
  · obtain ⟨rfl, hy⟩ := hy
    exact ⟨fun _ _ h => h, rs'.at_ hd (hy vs' q'.sq)⟩
theorem iterOk_lst {ds : List D} {d0 : D} {chk : MS → Prop} {x : V} (R : RelS K mg ro M H) (r : Rep K mg ro H d0 x) (e0 : seqOf M d0 = some ds) (hn : isTup d0 = false) (hc : ∀ M', chk M' → seqOf M' d0 = some ds) : ∃ a vs, x = .ref a ∧ SqL K H a vs ∧ IterOk K mg ro H ⟨ds, chk⟩ (Itl K a) := by
  have key : ∀ {ro' : Pl} {H' : Hp} {M' : MS}, RelS K mg ro' M' H' → Rep K mg ro' H' d0 x → seqOf M' d0 = some ds → ∃ a vs, x = .ref a ∧ SqL K H' a vs ∧ Reps K mg ro' H' ds vs := fun {ro' H' M'} R' r' e' => by
    cases d0 with
    | lst es =>
      cases (show some es = some ds from e')
      obtain ⟨a, vs, rfl, h, _, q⟩ := r'
      exact ⟨a, vs, rfl, SqL.of h, q⟩
    | flst es =>
      cases (show some es = some ds from e')
      obtain ⟨a, vs, rfl, h, q⟩ := r'
      exact ⟨a, vs, rfl, h.sq, q⟩
    | cell n =>
      have e' : (match M'[n]? with | some (.lst ds) => some ds | _ => none) = some ds := e'
      split at e'
      · rename_i es hm
        cases e'
        obtain ⟨a, ho, rfl, _, h, vs, rfl, q⟩ := R'.cellAt r' hm
        exact ⟨a, vs, rfl, SqL.of h, q⟩
      · cases e'
    | tup es => cases hn
    | _ => cases e'
  obtain ⟨a, vs, rfl, q, rs⟩ := key R r e0
  refine ⟨a, vs, rfl, q, fun ro' H' M' R' P' hM => ?_⟩
  obtain ⟨a', vs', e, q', rs'⟩ := key R' (Rep.monoW P' _ _ r) (hc M' hM)
  cases e
  refine ⟨⟨vs', q', by rw [← rs'.len]; exact Nat.le_refl _⟩, fun i d hd => ⟨?_, fun y H'' hy => ?_⟩⟩
  · obtain ⟨v, hv, _⟩ := rs'.get hd
    exact ⟨vs', v, q', hv⟩
  · obtain ⟨rfl, hy⟩ := hy
    exact ⟨fun _ _ h => h, rs'.at_ hd (hy vs' q')⟩
theorem iterOk_str {x : List Nat} : IterOk K mg ro H ⟨x.map fun c => .str [c], fun _ => True⟩ (Its (tx x)) := fun ro' H' M' R' P' _ => by
  refine ⟨by show (tx x).cps.size ≤ _; simp, fun i d hd => ⟨?_, fun y H'' hy => ?_⟩⟩
  · have := (List.getElem?_eq_some_iff.mp hd).1
    show i < (tx x).cps.size
    simpa using this
  · obtain ⟨rfl, c, hc, rfl⟩ := hy
    refine ⟨fun _ _ h => h, ?_⟩
    rw [List.getElem?_map] at hd
    have hc' : x[i]? = some c := by simpa using hc
    rw [hc'] at hd
    cases hd
    rfl
end
section
variable {X : Cx} {W : WX} {tg e : Expr} {m : ME}
theorem PI.or {X : Cx} {tg iter : Expr} {w w' : TI} (h : PI X tg iter w) (h' : PI X tg iter w') : PI X tg iter (fun st H R => w st H R ∨ w' st H R) :=
  ⟨fun pins s st H R I q => q.elim (h.run pins s st H R I) (h'.run pins s st H R I)⟩
theorem di_any (h : DE X W e m) : DI X W tg e (anyI m) := by
  refine ⟨⟨fun pins s st H Q I q => (PI.or (pi_list h.pe) (PI.or (pi_tup h.pe) (pi_str h.pe))).run pins s st H Q I ?_⟩⟩
  obtain ⟨ro, sd, M, R, S, P⟩ := q
  have P : Post _ X.K X.mg (fun c d H' => W c d st H') ro H Q ((m sd M).bind _) := P
  cases em : m sd M with
  | stuck => rw [em] at P; exact P.elim
  | exc C ns ds M1 => exact .inl ⟨ro, sd, M, R, S, by rw [em] at P ⊢; exact P⟩
  | ok d M1 =>
    rw [em, Res.bind_ok] at P
    have fin : ∀ (it : ItD), itD M1 d = some it → ∀ {ro1 : Pl} {H1 : Hp}, RelS X.K X.mg ro1 M1 H1 → Pres ro H ro1 H1 → ∀ J, IterOk X.K X.mg ro1 H1 it J → Q J H1 := fun it hi {ro1 H1} R1 Pr J hJ => by
      rw [hi] at P
      exact P ro1 H1 J R1 Pr hJ
    have lists : ∀ ds chk, itD M1 d = some ⟨ds, chk⟩ → seqOf M1 d = some ds → isTup d = false → (∀ M', chk M' → seqOf M' d = some ds) → iList X.K (liftE X.K X.mg W m) st H Q := fun ds chk h1 h2 h3 h4 =>
      ⟨ro, sd, M, R, S, by rw [em]; exact fun ro1 H1 v R1 Pr r => let ⟨a, vs, ev, q, o⟩ := iterOk_lst R1 r h2 h3 h4; ⟨a, ev, ⟨vs, q⟩, fin _ h1 R1 Pr _ o⟩⟩
    cases d with
    | str x => exact .inr (.inr ⟨ro, sd, M, R, S, by rw [em]; exact fun ro1 H1 v R1 Pr r => ⟨tx x, r, fin _ rfl R1 Pr _ iterOk_str⟩⟩)
    | tup ds => exact .inr (.inl ⟨ro, sd, M, R, S, by rw [em]; exact fun ro1 H1 v R1 Pr r => let ⟨a, vs, ev, q, o⟩ := iterOk_tup r; ⟨a, ev, ⟨vs, q⟩, fin _ rfl R1 Pr _ o⟩⟩)
    | lst ds => exact .inl (lists ds (fun _ => True) rfl rfl rfl fun _ _ => rfl)
    | flst ds => exact .inl (lists ds (fun _ => True) rfl rfl rfl fun _ _ => rfl)
    | cell n =>
      cases hm : M1[n]? with
      | none => exact (by simp [itD, hm, Post] at P : False).elim
      | some mo =>
        cases mo with
        | lst ds => exact .inl (lists ds (fun M' => M'[n]? = some (.lst ds)) (by simp [itD, hm]) (by simp [seqOf, hm]) rfl fun M' h => by simp [seqOf, h])
        | _ => exact (by simp [itD, hm, Post] at P : False).elim
    | _ => exact P.elim
def intsI (xs : List Int) : ItD := ⟨xs.map D.int, fun _ => True⟩
theorem iterOk_ints {K : PySem.W.Frag} {mg : Str → Option Value} {ro : Pl} {H : Hp} (lo c : Int) (n : Nat) : IterOk K mg ro H (intsI ((List.range n).map fun (k : Nat) => lo + k * c)) (Itc lo c n) := fun ro' H' M' R' P' _ => by
  refine ⟨by show n ≤ _; simp [intsI], fun i d hd => ⟨?_, fun y H'' hy => ?_⟩⟩
  · have := (List.getElem?_eq_some_iff.mp hd).1
    show i < n
    simpa [intsI] using this
  · obtain ⟨rfl, rfl⟩ := hy
    refine ⟨fun _ _ h => h, ?_⟩
    have hi := (List.getElem?_eq_some_iff.mp hd).1
    simp [intsI] at hi hd
    obtain ⟨w, hw, hd⟩ := hd
    rw [List.getElem?_range hi] at hw
    cases hw
    rw [← hd]
    rfl
theorem itr_itc (lo : Int) (n : Nat) : Itr lo n = Itc lo 1 n := by
  unfold Itr Itc
  simp
def rangeN (lo hi : Int) : List Int := (List.range (hi - lo).toNat).map fun (k : Nat) => lo + k * 1
def range1I (a : MA) : MI := fun sd M => (a sd M).bind fun ds M1 => match ds with
  | [.int j] => if -1000000000 ≤ j ∧ j ≤ 1000000000 then .ok (intsI (rangeN 0 j)) M1 else .stuck
  | _ => .stuck
def range2I (a : MA) : MI := fun sd M => (a sd M).bind fun ds M1 => match ds with
  | [.int i, .int j] => if -1000000000 ≤ i ∧ i ≤ 1000000000 ∧ -1000000000 ≤ j ∧ j ≤ 1000000000 then .ok (intsI (rangeN i j)) M1 else .stuck
  | _ => .stuck
/-- steps upward -/
def rangeC (lo hi c : Int) : List Int := (List.range (if lo < hi then ((hi - lo - 1) / c + 1).toNat else 0)).map fun (k : Nat) => lo + k * c
def range3I (a : MA) : MI := fun sd M => (a sd M).bind fun ds M1 => match ds with
  | [.int i, .int j, .int c] => if -1000000000 ≤ i ∧ i ≤ 1000000000 ∧ -1000000000 ≤ j ∧ j ≤ 1000000000 ∧ 0 < c ∧ c ≤ 1000000000 then .ok (intsI (rangeC i j c)) M1 else .stuck
  | _ => .stuck
theorem di_range1 {a : Expr} {p pos : Pos} {ma : MA} (hg : Gl X "range") (hm : X.mg "range" = none) (ha : DA X W [a] ma) (hs : starEach [a] X.env = [(false, eval a X.env)] := by rfl) : DI X W tg (.Call (.Name "range" p) [a] [] pos) (range1I ma) := by
  refine ⟨⟨fun pins s st H Q I q => (pi_range1 hg hm ha.pa hs).run pins s st H Q I ?_⟩⟩
  obtain ⟨ro, sd, M, R, S, P⟩ := q
  refine ⟨ro, sd, M, R, S, (Post.bind P).imp fun xs H1 ⟨ro1, M1, ds, R1, P1, r1, q1⟩ => ?_⟩
  split at q1
  · rename_i j
    obtain ⟨v, rfl, r⟩ := reps1 r1
    cases (show v = V.int j from r)
    split at q1
    · rename_i hj
      refine ⟨j, rfl, by omega, by omega, q1 ro1 H1 _ R1 (Pres.refl _ _) ?_⟩
      rw [itr_itc]
      have := iterOk_ints (K := X.K) (mg := X.mg) (ro := ro1) (H := H1) 0 1 (j - 0).toNat
      rw [Int.sub_zero] at this
      unfold rangeN
      rw [Int.sub_zero]
      exact this
    · exact q1.elim
  · exact q1.elim
theorem di_range2 {a b : Expr} {p pos : Pos} {ma : MA} (hg : Gl X "range") (hm : X.mg "range" = none) (ha : DA X W [a, b] ma) (hs : starEach [a, b] X.env = [(false, eval a X.env), (false, eval b X.env)] := by rfl) (hs2 : starEach [b] X.env = [(false, eval b X.env)] := by rfl) :
    DI X W tg (.Call (.Name "range" p) [a, b] [] pos) (range2I ma) := by
  refine ⟨⟨fun pins s st H Q I q => (pi_range2 hg hm ha.pa hs hs2).run pins s st H Q I ?_⟩⟩
  obtain ⟨ro, sd, M, R, S, P⟩ := q
  refine ⟨ro, sd, M, R, S, (Post.bind P).imp fun xs H1 ⟨ro1, M1, ds, R1, P1, r1, q1⟩ => ?_⟩
  split at q1
  · rename_i i j
    obtain ⟨v, w, rfl, r, r'⟩ := reps2 r1
    cases (show v = V.int i from r)
    cases (show w = V.int j from r')
    split at q1
    · rename_i hj
      refine ⟨i, j, rfl, ⟨by omega, by omega, by omega, by omega⟩, q1 ro1 H1 _ R1 (Pres.refl _ _) ?_⟩
      rw [itr_itc]
      exact iterOk_ints i 1 (j - i).toNat
    · exact q1.elim
  · exact q1.elim
end
def Res.ne {A : Type} : Res A → Res A
  | .ok a M => .ok a M
  | _ => .stuck
@[simp] theorem Res.ne_ok {A : Type} (a : A) (M : MS) : (Res.ok a M).ne = .ok a M := rfl
def yesB : MB := fun _ M => .ok true M
structure DTs (X : Cx) (W : WX) (ifs : List Expr) (m : MB) : Prop where
  pts : PTs X ifs (liftB X.K X.mg W m)
def wipeD (sd : SD) : List Nat → SD
  | [] => sd
  | v :: vs => (wipeD sd vs).set v none
open Classical in
noncomputable def lcGo (chk : MS → Prop) (g : MG) (tt : MB) (te : ME) (w : SD) : List D → List D → MS → Res (List D)
  | [], acc, M => if chk M then .ok acc M else .stuck
  | d :: r, acc, M => if chk M then (match g d w with
    | none => .stuck
    | some sd1 => (tt sd1 M).ne.bind fun b M1 => if b = true then (te sd1 M1).ne.bind fun y M2 => if acc.length < 1000000 then lcGo chk g tt te w r (acc ++ [y]) M2 else .stuck else lcGo chk g tt te w r acc M1) else .stuck
noncomputable def lcE (mi : MI) (g : MG) (tt : MB) (te : ME) (vs : List Nat) : ME := fun sd M => (mi sd M).bind fun it M1 => (lcGo it.chk g tt te (wipeD sd vs) it.ds [] M1).ne.bind fun ds M2 => .ok (.lst ds) M2
/-- the list will be changed -/
noncomputable def lcC (mi : MI) (g : MG) (tt : MB) (te : ME) (vs : List Nat) : ME := fun sd M => (mi sd M).bind fun it M1 => (lcGo it.chk g tt te (wipeD sd vs) it.ds [] M1).ne.bind fun ds M2 => .ok (.cell M2.length) (M2 ++ [.lst ds])
section
variable {K : PySem.W.Frag} {mg : Str → Option Value}
theorem RepSt.wipe {ro : Pl} {H : Hp} {sd : SD} {st : St} (h : RepSt K mg ro H sd st) : ∀ vs, RepSt K mg ro H (wipeD sd vs) (L2.wipe st vs)
  | [] => h
  | v :: vs => (RepSt.wipe h vs).unset
theorem Post.ne {A B : Type} {R : Pl → Hp → A → B → Prop} {E : XK} {ro : Pl} {H : Hp} {Q : B → Hp → Prop} {x : Res A} {A' B' : Type} {R' : Pl → Hp → A' → B' → Prop} {E' : XK} {Q' : B' → Hp → Prop} {k : A → MS → Res A'} (h : Post R' K mg E' ro H Q' (x.ne.bind k)) :
    Post R K mg E ro H (fun v H1 => ∃ ro1 M1 a, RelS K mg ro1 M1 H1 ∧ Pres ro H ro1 H1 ∧ R ro1 H1 a v ∧ Post R' K mg E' ro1 H1 Q' (k a M1)) x := by
  cases x with
  | ok a M => exact Post.bind (x := .ok a M) h
  | exc C ns ds M => exact h.elim
  | stuck => exact h.elim
/-- the places that are looked through, as they stand within a comprehension -/
structure Within (ro1 : Pl) (H1 : Hp) (p : Addr) (ro' : Pl) (H' : Hp) : Prop where
  hid : ro'.hid = p :: ro1.hid
  pre : ∃ t, ro'.ro = ro1.ro ++ t
  keep : ∀ a o, H1 a = some o → a ∉ ro1.ro → H' a = some o
  new : ∀ a, a ∈ ro'.ro → a ∈ ro1.ro ∨ H1 a = none
theorem Within.out {ro1 ro' : Pl} {H1 H' : Hp} {p : Addr} (w : Within ro1 H1 p ro' H') : Pres ro1 H1 ⟨ro'.ro, ro1.hid⟩ H' := ⟨w.pre, rfl, w.keep, w.new⟩
theorem Within.w {ro1 ro' : Pl} {H1 H' : Hp} {p : Addr} (w : Within ro1 H1 p ro' H') (hp : H1 p = none) : PresW ro1 H1 ro' H' := ⟨w.pre, fun a o h n => w.keep a o h (Pl.out_ro n), fun a h => by
  rcases List.mem_append.mp h with h | h
  · rcases w.new a h with z | z
    · exact .inl (List.mem_append_left _ z)
    · exact .inr z
  · rw [w.hid] at h
    rcases List.mem_cons.mp h with h | h
    · exact .inr (h ▸ hp)
    · exact .inl (List.mem_append_right _ h)⟩
theorem Within.step {ro1 ro' ro2 : Pl} {H1 H' H2 : Hp} {p : Addr} (w : Within ro1 H1 p ro' H') (q : Pres ro' H' ro2 H2) : Within ro1 H1 p ro2 H2 := by
  have t := Pres.trans (r0 := ro1) (H0 := H1) (r1 := ⟨ro'.ro, ro1.hid⟩) (H1 := H') (r2 := ⟨ro2.ro, ro1.hid⟩) (H2 := H2) w.out ⟨q.pre, rfl, q.keep, q.new⟩
  exact ⟨q.hid.trans w.hid, t.pre, t.keep, t.new⟩
theorem Within.put {ro1 ro' : Pl} {H1 H' : Hp} {p : Addr} {o : HO} (w : Within ro1 H1 p ro' H') (hp : H1 p = none) : Within ro1 H1 p ro' (upd H' p o) :=
  ⟨w.hid, w.pre, fun a u h hn => by rw [upd_ne (ne_of_none h hp)]; exact w.keep a u h hn, w.new⟩
theorem RelS.shown' {ro1 ro' : Pl} {p : Addr} {M : MS} {H : Hp} (R : RelS K mg ro' M H) (e : ro'.hid = p :: ro1.hid) : RelS K mg ⟨ro'.ro, ro1.hid⟩ M H :=
  ⟨R.len, R.nd, fun a ha => R.live a (by rw [e]; exact List.mem_cons_of_mem _ ha), fun a ha hb => R.dis a ha (by rw [e]; exact List.mem_cons_of_mem _ hb), fun i mo a e1 e2 => let ⟨ho, e3, m⟩ := R.at_ i mo a e1 e2; ⟨ho, e3, MRel.less (ro := ro') (ro' := ⟨ro'.ro, ro1.hid⟩) rfl (fun x (h : x ∈ ro1.hid) => by rw [e]; exact List.mem_cons_of_mem _ h) m⟩⟩
end
section
variable {X : Cx} {W : WX}
theorem dts_nil : DTs X W [] yesB := by
  refine ⟨⟨fun pins s st H Q I q => pts_nil.run pins s st H Q I ?_⟩⟩
  obtain ⟨ro, sd, M, R, S, P⟩ := q
  exact P ro H true R (Pres.refl _ _) rfl
theorem dts_one {c : Expr} {t : MB} (h : DT X W c t) : DTs X W [c] t := ⟨pts_one h.pt⟩
/-- one run of the block, from the heap H1 on -/
theorem lc_turns {K : PySem.W.Frag} {mg : Str → Option Value} {it : ItD} {J : It} {ro1 : Pl} {H1 : Hp} {M1 : MS} {sd : SD} {st : St} {g : MG} {ix vs : List Nat} {tt : MB} {te : ME} {Q : VK} (hix : ∀ i, i ∈ ix → i ∈ vs)
    (R1 : RelS K mg ro1 M1 H1) (S1 : RepSt K mg ro1 H1 sd st) (J1 : IterOk K mg ro1 H1 it J) {p : Addr} (hp : H1 p = none)
    (fin : ∃ ds M2, lcGo it.chk g tt te (wipeD sd vs) it.ds [] M1 = .ok ds M2 ∧ ∀ ro' H' us, RelS K mg ro' M2 H' → Within ro1 H1 p ro' H' → H' p = some (.lst us) → Reps K mg ro' H' ds us → Q (.ref p) H') :
    ∃ Wv : Nat → Nat → Hp → Prop, (∃ m, Wv 0 m (upd H1 p (.lst []))) ∧ ∀ i m H, Wv i m H →
      (J.stop i H ∧ Q (.ref p) H) ∨ (J.go i H ∧ ∃ Nx : Hp → Prop, (∀ H', Nx H' → ∃ m', m' < m ∧ Wv (i + 1) m' H') ∧ ∀ x H', J.yld i H x H' → liftG K mg g ix x (wipe st vs) H' fun s2 H2 => wipe s2 vs = wipe st vs ∧ liftB K mg W0 tt s2 H2 fun b H3 =>
        if b = true then liftE K mg W0 te s2 H3 fun y H4 => ∃ acc, H4 p = some (.lst acc) ∧ acc.length < sizeLine ∧ Nx (upd H4 p (.lst (acc ++ [y]))) else Nx H3) := by
  obtain ⟨ds, M2, hrun, fin⟩ := fin
  refine ⟨fun i m H' => m = it.ds.length - i ∧ i ≤ it.ds.length ∧ ∃ ro' M' acc us, RelS K mg ro' M' H' ∧ Within ro1 H1 p ro' H' ∧ H' p = some (.lst us) ∧ Reps K mg ro' H' acc us ∧ lcGo it.chk g tt te (wipeD sd vs) (it.ds.drop i) acc M' = .ok ds M2,
    ⟨_, rfl, Nat.zero_le _, ro1.hide p, M1, [], [], R1.hide hp, ⟨rfl, ⟨[], by simp⟩, fun a o h _ => upd_grow hp a o h, fun a h => .inl h⟩, upd_same, rfl, hrun⟩, ?_⟩
  rintro i m H' ⟨rfl, hle, ro', M', acc, us, R', Wi, hpl, ra, hr⟩
  have mem : p ∈ ro'.hid := by rw [Wi.hid]; exact List.mem_cons_self
  by_cases hlt : i < it.ds.length
  · have hd : it.ds.drop i = it.ds[i] :: it.ds.drop (i + 1) := List.drop_eq_getElem_cons hlt
    rw [hd] at hr
    unfold lcGo at hr
    by_cases hc : it.chk M'
    · rw [if_pos hc] at hr
      obtain ⟨_, hJ⟩ := J1 ro' H' M' R' (Wi.w hp) hc
      obtain ⟨hgo, hy⟩ := hJ i _ (List.getElem?_eq_getElem hlt)
      refine .inr ⟨hgo, fun H2 => ∃ ro2 M3 acc us, RelS K mg ro2 M3 H2 ∧ Within ro1 H1 p ro2 H2 ∧ H2 p = some (.lst us) ∧ Reps K mg ro2 H2 acc us ∧ lcGo it.chk g tt te (wipeD sd vs) (it.ds.drop (i + 1)) acc M3 = .ok ds M2,
        fun H2 ⟨ro2, M3, acc, us, a, b, c, d, e⟩ => ⟨it.ds.length - (i + 1), by omega, rfl, hlt, ro2, M3, acc, us, a, b, c, d, e⟩, fun x H'' y => ?_⟩
      obtain ⟨hgrow, hrep⟩ := hy x H'' y
      obtain ⟨R'', P''⟩ := R'.grow hgrow
      cases hgd : g it.ds[i] (wipeD sd vs) with
      | none => rw [hgd] at hr; cases hr
      | some sd1 =>
        rw [hgd] at hr
        dsimp only at hr
        have S'' : RepSt K mg ro' H'' (wipeD sd vs) (wipe st vs) := ((S1.monoW (Wi.w hp)).mono P'').wipe vs
        refine ⟨ro', wipeD sd vs, M', _, R'', S'', hrep, sd1, hgd, fun st1 Sd1 hw => ⟨by rw [hw vs hix]; exact (List.ext_getElem? fun j => by rw [wipe_get, wipe_get, wipe_length]; split <;> rfl), ?_⟩⟩
        refine ⟨ro', sd1, M', R'', Sd1, ?_⟩
        cases ht : tt sd1 M' with
        | exc C ns ds M3 => rw [ht] at hr; cases hr
        | stuck => rw [ht] at hr; cases hr
        | ok b M3 =>
          rw [ht, Res.ne_ok, Res.bind_ok] at hr
          rintro ro3 H3 b' R3 P3 rfl
          have W3 := (Wi.step P'').step P3
          have ra3 := Reps.mono P3 _ _ (Reps.mono P'' _ _ ra)
          have hp3 : H3 p = some (.lst us) := P3.keep p _ (P''.keep p _ hpl fun z => R'.dis p z mem) fun z => R''.dis p z mem
          cases b' with
          | false =>
            rw [if_neg Bool.false_ne_true] at hr ⊢
            exact ⟨ro3, M3, acc, us, R3, W3, hp3, ra3, hr⟩
          | true =>
            rw [if_pos rfl] at hr ⊢
            refine ⟨ro3, sd1, M3, R3, Sd1.mono P3, ?_⟩
            cases hte : te sd1 M3 with
            | exc C ns ds M4 => rw [hte] at hr; cases hr
            | stuck => rw [hte] at hr; cases hr
            | ok y M4 =>
              rw [hte, Res.ne_ok, Res.bind_ok] at hr
              intro ro4 H4 yv R4 P4 ry
              split at hr
              · rename_i hl
                have mem4 : p ∈ ro4.hid := by rw [P4.hid, P3.hid]; exact mem
                have hp4 : H4 p = some (.lst us) := P4.keep p _ hp3 fun z => R3.dis p z (by rw [P3.hid]; exact mem)
                have ra4 := Reps.mono P4 _ _ ra3
                refine ⟨us, hp4, by rw [← ra4.len]; exact line_lt hl, ro4, M4, acc ++ [y], us ++ [yv], R4.unseen mem4, (W3.step P4).put hp, upd_same, ?_, hr⟩
                exact Reps.unseen mem4 _ _ (ra4.append (Reps.one ry))
              · cases hr
    · rw [if_neg hc] at hr; cases hr
  · have e : i = it.ds.length := by omega
    subst e
    rw [List.drop_length] at hr
    unfold lcGo at hr
    by_cases hc : it.chk M'
    · rw [if_pos hc] at hr
      cases hr
      exact .inl ⟨(J1 ro' H' _ R' (Wi.w hp) hc).1, fin ro' H' us R' Wi hpl ra⟩
    · rw [if_neg hc] at hr; cases hr
section
variable {elt tg iter : Expr} {ifs : List Expr} {scope : Scope} {own : List (Str × Nat)} {pos spos : Pos} {mi : MI} {g : MG} {ix : List Nat} {tt : MB} {te : ME}
theorem lc_tree {st : St} {H : Hp} {Q : VK} {vs : List Nat} (hix : ∀ i, i ∈ ix → i ∈ vs) (q : liftE X.K X.mg W (lcE mi g tt te vs) st H Q) : tLc (liftI X.K X.mg W mi) (liftG X.K X.mg g ix) (liftB X.K X.mg W0 tt) (liftE X.K X.mg W0 te) vs st H Q := by
  obtain ⟨ro, sd, M, R, S, P⟩ := q
  refine ⟨ro, sd, M, R, S, (Post.bind P).imp fun J H1 ⟨ro1, M1, it, R1, P1, J1, q1⟩ => fun p hp => ?_⟩
  refine lc_turns hix R1 (S.mono P1) J1 hp ?_
  cases hrun : lcGo it.chk g tt te (wipeD sd vs) it.ds [] M1 with
  | stuck => rw [hrun] at q1; exact q1.elim
  | exc C ns ds M2 => rw [hrun] at q1; exact q1.elim
  | ok ds M2 =>
    rw [hrun, Res.ne_ok, Res.bind_ok] at q1
    refine ⟨ds, M2, rfl, fun ro' H' us R' Wi hpl ra => ?_⟩
    have mem : p ∈ ro'.hid := by rw [Wi.hid]; exact List.mem_cons_self
    refine q1 _ H' (.ref p) (R'.shown' Wi.hid) Wi.out ⟨p, us, rfl, hpl, fun m => ?_, Reps.less (ro := ro') (ro' := ⟨ro'.ro, ro1.hid⟩) rfl (fun x (h : x ∈ ro1.hid) => by rw [Wi.hid]; exact List.mem_cons_of_mem _ h) _ _ ra⟩
    rcases List.mem_append.mp m with m | m
    · exact R'.dis p m mem
    · exact R1.liveN p m hp
variable (hc : X.calm = true) (hN : X.N.Nodup) (hi : DI X W tg iter mi) (ok : BlkOk X.N X.env.scope scope own) (hix : ∀ i, i ∈ ix → i ∈ own.map (·.2))
    (hg : ∀ (s : Shared) (H : Hp) (C : Addr) (cl : List (Str × Addr)) (fp : List Addr), DG (X.blk s H scope (compEnvC scope cl C X.env) fp) tg g ix) (ht : ∀ (s : Shared) (H : Hp) (C : Addr) (cl : List (Str × Addr)) (fp : List Addr), DTs (X.blk s H scope (compEnvC scope cl C X.env) fp) W0 ifs tt)
    (he : ∀ (s : Shared) (H : Hp) (C : Addr) (cl : List (Str × Addr)) (fp : List Addr), DE (X.blk s H scope (compEnvC scope cl C X.env) fp) W0 elt te)
include hc hN hi ok hix hg ht he
theorem de_lc (hs : ∀ x, foldedSetIterable iter X.env x = pure x := by intro _; rfl) : DE X W (.ListComp elt [⟨tg, iter, ifs, 0⟩] scope pos) (lcE mi g tt te (own.map (·.2))) :=
  ⟨⟨fun pins s st H Q I q => (pe_lc hc hN hi.pi ok (fun a b c d e => (hg a b c d e).pg) (fun a b c d e => (ht a b c d e).pts) (fun a b c d e => (he a b c d e).pe) hs).run pins s st H Q I (lc_tree hix q)⟩⟩
theorem setLc_end {i : Nat} {m : ME} {D0 : Ends} {st : St} {H : Hp} {vs : List Nat} (hl : ∀ Q, liftE X.K X.mg W m st H Q → tLc (liftI X.K X.mg W mi) (liftG X.K X.mg g ix) (liftB X.K X.mg W0 tt) (liftE X.K X.mg W0 te) vs st H Q)
    (q : liftS X.K X.mg W (setS i m) D0 st H) : tAsg (tLc (liftI X.K X.mg W mi) (liftG X.K X.mg g ix) (liftB X.K X.mg W0 tt) (liftE X.K X.mg W0 te) vs) (gName i) D0 st H := by
  obtain ⟨ro, sd, M, R, S, P⟩ := q
  refine hl _ ⟨ro, sd, M, R, S, (PostS.ofE P S).imp fun x H1 ⟨ro1, M1, d, R1, P1, r1, q1⟩ => ?_⟩
  exact q1 ro1 H1 _ R1 (Pres.refl _ _) ((S.mono P1).set r1)
theorem ds_setLc {i : Nat} {y : Str} {py : Pos} (hy : X.N[i]? = some y) (hyl : X.env.scope.names.lookup y = some .local) (hsw : swapsWith (.ListComp elt [⟨tg, iter, ifs, 0⟩] scope pos) (some (.Name y py)) spos.line X.env = pure true)
    (hs : ∀ x, foldedSetIterable iter X.env x = pure x := by intro _; rfl) : DS X W (.Assign [.Name y py] (.ListComp elt [⟨tg, iter, ifs, 0⟩] scope pos) spos) (setS i (lcE mi g tt te (own.map (·.2)))) :=
  ⟨⟨fun pins s st H D0 I q => (ps_setLc hc hN hy hyl hsw hi.pi ok (fun a b c d e => (hg a b c d e).pg) (fun a b c d e => (ht a b c d e).pts) (fun a b c d e => (he a b c d e).pe) hs).run pins s st H D0 I
    (setLc_end hc hN hi ok hix hg ht he (fun _ => lc_tree hix) q)⟩⟩
end
end
end DL
namespace DL
open PySem PySem.Spec L2
open PyProof.Rows hiding St
theorem ofString_inj {s t : String} (h : Str.ofString s = Str.ofString t) : s = t := by
  rw [Str.ofString_eq_toList, Str.ofString_eq_toList] at h
  have h1 : s.toList.map Char.toNat = t.toList.map Char.toNat := by
    have := congrArg (fun z : Str => z.cps.toList) h
    simpa using this
  have h2 : s.toList = t.toList := List.map_inj_right (fun a b e => Char.ext (UInt32.toNat_inj.mp e)) |>.mp h1
  exact String.toList_inj.mp h2
def lookF : List String → List D → String → Option D
  | n :: ns, d :: ds, f => if f = n then some d else lookF ns ds f
  | _, _, _ => none
def putN : List String → List D → String → D → List String × List D
  | n :: ns, d :: ds, f, e => if n = f then (n :: ns, e :: ds) else ((n :: (putN ns ds f e).1), (d :: (putN ns ds f e).2))
  | _, _, f, e => ([f], [e])
section
variable {K : PySem.W.Frag} {mg : Str → Option Value} {ro : Pl} {H : Hp}
theorem lookF_some : ∀ {ns : List String} {ds : List D} {vs : List V} {f : String} {d : D}, Reps K mg ro H ds vs → lookF ns ds f = some d → ∃ v, (zipF ns vs).lookup (Str.ofString f) = some v ∧ Rep K mg ro H d v
  | [], ds, vs, f, d, r, e => by cases ds <;> cases e
  | n :: ns, [], vs, f, d, r, e => by cases e
  | n :: ns, x :: ds, vs, f, d, ⟨v, rs, ev, q, t⟩, e => by
    subst ev
    show ∃ w, List.lookup (Str.ofString f) ((Str.ofString n, v) :: zipF ns rs) = some w ∧ _
    unfold lookF at e
    split at e
    · rename_i h
      cases e
      subst h
      exact ⟨v, by simp [List.lookup], q⟩
    · rename_i h
      have hb : (Str.ofString f == Str.ofString n) = false := beq_eq_false_iff_ne.mpr fun z => h (ofString_inj z)
      obtain ⟨w, hw, rw'⟩ := lookF_some t e
      exact ⟨w, by simp only [List.lookup, hb]; exact hw, rw'⟩
theorem putN_reps : ∀ {ns : List String} {ds : List D} {vs : List V} {f : String} {e : D} {u : V}, Reps K mg ro H ds vs → ns.length = ds.length → Rep K mg ro H e u →
    ∃ ws, putF (Str.ofString f) u (zipF ns vs) = zipF (putN ns ds f e).1 ws ∧ Reps K mg ro H (putN ns ds f e).2 ws ∧ (putN ns ds f e).1.length = ws.length
  | [], [], vs, f, e, u, r, _, q => by
    cases (show vs = [] from r)
    exact ⟨[u], rfl, Reps.one q, rfl⟩
  | n :: ns, d :: ds, vs, f, e, u, ⟨v, rs, ev, qd, t⟩, hl, q => by
    subst ev
    show ∃ ws, (if Str.ofString n = Str.ofString f then (Str.ofString n, u) :: zipF ns rs else (Str.ofString n, v) :: putF (Str.ofString f) u (zipF ns rs)) = _ ∧ _
    have hl' : ns.length = ds.length := by simpa using hl
    unfold putN
    by_cases h : n = f
    · rw [if_pos (congrArg Str.ofString h), if_pos h]
      exact ⟨u :: rs, rfl, ⟨u, rs, rfl, q, t⟩, by simp [hl', t.len]⟩
    · rw [if_neg (fun z => h (ofString_inj z)), if_neg h]
      obtain ⟨ws, e1, e2, e3⟩ := putN_reps (f := f) t hl' q
      exact ⟨v :: ws, by rw [e1]; rfl, ⟨v, ws, rfl, qd, e2⟩, by simp [e3]⟩
theorem length_zipF {ns : List String} {vs : List V} (h : ns.length = vs.length) : (zipF ns vs).length = ns.length := by
  unfold zipF
  rw [List.length_zip, List.length_map]; omega
end
mutual
def nc (n : Nat) : D → Bool
  | .tup ds => ncs n ds
  | .lst ds => ncs n ds
  | .flst ds => ncs n ds
  | .obj _ _ ds => ncs n ds
  | .dic _ ds => ncs n ds
  | .exn _ _ ds _ _ => ncs n ds
  | .cell k => decide (k < n)
  | _ => true
def ncs (n : Nat) : List D → Bool
  | [] => true
  | d :: ds => nc n d && ncs n ds
end
def ncM (n : Nat) : MO → Bool
  | .lst ds => ncs n ds
  | .obj _ _ ds => ncs n ds
  | .dic _ ds => ncs n ds
  | .tab i _ _ => decide (i < n)
mutual
/-- new changeable places are written out as what they are in the end -/
def clo (n : Nat) (M : MS) : D → Option D
  | .tup ds => (clos n M ds).map D.tup
  | .lst ds => (clos n M ds).map D.lst
  | .flst ds => (clos n M ds).map D.flst
  | .obj C ns ds => (clos n M ds).map (D.obj C ns)
  | .dic ks ds => (clos n M ds).map (D.dic ks)
  | .exn C ns ds x d => (clos n M ds).map fun es => D.exn C ns es x d
  | .cell k => if k < n then some (.cell k) else match M[k]? with
    | some (.lst ds) => if ncs n ds = true then some (.lst ds) else none
    | some (.obj C ns ds) => if ncs n ds = true then some (.obj C ns ds) else none
    | some (.dic ks ds) => if ncs n ds = true then some (.dic ks ds) else none
    | some (.tab ..) => none
    | none => none
  | d => some d
def clos (n : Nat) (M : MS) : List D → Option (List D)
  | [] => some []
  | d :: ds => match clo n M d, clos n M ds with
    | some e, some es => some (e :: es)
    | _, _ => none
end
open Classical in
noncomputable def closeR (M : MS) (x : Res D) : Res D := match x with
  | .ok d M' => if M'.take M.length = M ∨ (M'.take M.length).all (ncM M.length) = true then (match clo M.length M' d with
    | some e => .ok e (M'.take M.length)
    | none => .stuck) else .stuck
  | .exc C ns ds M' => if M'.take M.length = M ∨ (M'.take M.length).all (ncM M.length) = true then (match clos M.length M' ds with
    | some es => .exc C ns es (M'.take M.length)
    | none => .stuck) else .stuck
  | .stuck => .stuck
section
variable {K : PySem.W.Frag} {mg : Str → Option Value} {ro ro' : Pl} {H : Hp}
mutual
theorem Rep.nc : ∀ (d : D) (v : V), Rep K mg ro H d v → nc ro.ro.length d = true
  | .non, v, q => rfl
  | .bl b, v, q => rfl
  | .int i, v, q => rfl
  | .str x, v, q => rfl
  | .tup ds, v, ⟨a, vs, e1, q, r⟩ => Reps.nc ds vs r
  | .lst ds, v, ⟨a, vs, e1, q, n, r⟩ => Reps.nc ds vs r
  | .flst ds, v, ⟨a, vs, e1, q, r⟩ => Reps.nc ds vs r
  | .obj C ns ds, v, ⟨a, c, dx, vs, e1, g, q, n, l, r⟩ => Reps.nc ds vs r
  | .dic ks ds, v, ⟨a, kl, vs, e1, g, l, q, n, r⟩ => Reps.nc ds vs r
  | .glo x, v, q => rfl
  | .ty n, v, q => rfl
  | .exn C ns ds x d, v, ⟨a, vs, e1, q, n, l, r⟩ => Reps.nc ds vs r
  | .cell n, v, ⟨a, e1, g⟩ => decide_eq_true (List.getElem?_eq_some_iff.mp g).1
theorem Reps.nc : ∀ (ds : List D) (vs : List V), Reps K mg ro H ds vs → ncs ro.ro.length ds = true
  | [], vs, q => rfl
  | d :: ds, vs, ⟨v, r, e1, q, t⟩ => by
    show (DL.nc _ d && ncs _ ds) = true
    rw [Rep.nc d v q, Reps.nc ds r t]; rfl
end
theorem Pl.sub {a : Addr} (h : ∃ t, ro'.ro = ro.ro ++ t) (hh : ro'.hid = ro.hid) (n : a ∉ ro'.all) : a ∉ ro.all := fun m => by
  obtain ⟨t, e⟩ := h
  rcases List.mem_append.mp m with m | m
  · exact n (List.mem_append_left _ (by rw [e]; exact List.mem_append_left _ m))
  · exact n (List.mem_append_right _ (by rw [hh]; exact m))
mutual
theorem Rep.shrink (h : ∃ t, ro'.ro = ro.ro ++ t) (hh : ro'.hid = ro.hid) : ∀ (d : D) (v : V), nc ro.ro.length d = true → Rep K mg ro' H d v → Rep K mg ro H d v
  | .non, v, _, q => q
  | .bl b, v, _, q => q
  | .int i, v, _, q => q
  | .str x, v, _, q => q
  | .tup ds, v, c, ⟨a, vs, e1, q, r⟩ => ⟨a, vs, e1, q.imp (fun ⟨z, n⟩ => ⟨z, Pl.sub h hh n⟩) id, Reps.shrink h hh ds vs c r⟩
  | .lst ds, v, c, ⟨a, vs, e1, q, n, r⟩ => ⟨a, vs, e1, q, Pl.sub h hh n, Reps.shrink h hh ds vs c r⟩
  | .flst ds, v, c, ⟨a, vs, e1, q, r⟩ => ⟨a, vs, e1, q.imp (fun ⟨z, n⟩ => ⟨z, Pl.sub h hh n⟩) id, Reps.shrink h hh ds vs c r⟩
  | .obj C ns ds, v, k, ⟨a, c, dx, vs, e1, g, q, n, l, r⟩ => ⟨a, c, dx, vs, e1, g, q, Pl.sub h hh n, l, Reps.shrink h hh ds vs k r⟩
  | .dic ks ds, v, c, ⟨a, kl, vs, e1, g, l, q, n, r⟩ => ⟨a, kl, vs, e1, g, l, q, Pl.sub h hh n, Reps.shrink h hh ds vs c r⟩
  | .glo x, v, _, q => q
  | .ty n, v, _, q => q
  | .exn C ns ds x d, v, c, ⟨a, vs, e1, q, n, l, r⟩ => ⟨a, vs, e1, q, Pl.sub h hh n, l, Reps.shrink h hh ds vs c r⟩
  | .cell n, v, c, ⟨a, e1, g⟩ => ⟨a, e1, by
      obtain ⟨t, e⟩ := h
      have hn : n < ro.ro.length := of_decide_eq_true c
      rw [e, List.getElem?_append_left hn] at g
      exact g⟩
theorem Reps.shrink (h : ∃ t, ro'.ro = ro.ro ++ t) (hh : ro'.hid = ro.hid) : ∀ (ds : List D) (vs : List V), ncs ro.ro.length ds = true → Reps K mg ro' H ds vs → Reps K mg ro H ds vs
  | [], vs, _, q => q
  | d :: ds, vs, c, ⟨v, r, e1, q, t⟩ => by
    have c' : (DL.nc ro.ro.length d && ncs ro.ro.length ds) = true := c
    obtain ⟨c1, c2⟩ := Bool.and_eq_true_iff.mp c'
    exact ⟨v, r, e1, Rep.shrink h hh d v c1 q, Reps.shrink h hh ds r c2 t⟩
end
theorem MRel.shrink (h : ∃ t, ro'.ro = ro.ro ++ t) (hh : ro'.hid = ro.hid) {mo : MO} {ho : HO} (c : ncM ro.ro.length mo = true) (q : MRel K mg ro' H mo ho) : MRel K mg ro H mo ho := by
  cases mo with
  | lst ds => obtain ⟨vs, e1, r⟩ := q; exact ⟨vs, e1, Reps.shrink h hh ds vs c r⟩
  | obj C ns ds => obtain ⟨d, dx, vs, e1, g, l, r⟩ := q; exact ⟨d, dx, vs, e1, g, l, Reps.shrink h hh ds vs c r⟩
  | dic ks ds => obtain ⟨kl, vs, e1, g, l, r⟩ := q; exact ⟨kl, vs, e1, g, l, Reps.shrink h hh ds vs c r⟩
  | tab i C m =>
    obtain ⟨ps, P, e1, t, g, k⟩ := q
    obtain ⟨tl, e⟩ := h
    have hi : i < ro.ro.length := of_decide_eq_true c
    have h' : ∃ t, ro'.ro = ro.ro ++ t := ⟨tl, e⟩
    rw [e, List.getElem?_append_left hi] at g
    exact ⟨ps, P, e1, ⟨t.1, fun ps cv hc => let ⟨c, e1, e2, e3⟩ := t.2 ps cv hc; ⟨c, e1, e2, Pl.sub h' hh e3⟩⟩, g, k⟩
theorem MRel.nc {mo : MO} {ho : HO} (q : MRel K mg ro H mo ho) : ncM ro.ro.length mo = true := by
  cases mo with
  | lst ds => obtain ⟨vs, e1, r⟩ := q; exact Reps.nc ds vs r
  | obj C ns ds => obtain ⟨d, dx, vs, e1, g, l, r⟩ := q; exact Reps.nc ds vs r
  | dic ks ds => obtain ⟨kl, vs, e1, g, l, r⟩ := q; exact Reps.nc ds vs r
  | tab i C m => obtain ⟨ps, P, e1, t, g, k⟩ := q; exact decide_eq_true (List.getElem?_eq_some_iff.mp g).1
variable {M' : MS}
mutual
theorem Rep.clo (h : ∃ t, ro'.ro = ro.ro ++ t) (hh : ro'.hid = ro.hid) (R : RelS K mg ro' M' H) : ∀ (d : D) (v : V) (e : D), DL.clo ro.ro.length M' d = some e → Rep K mg ro' H d v → Rep K mg ro H e v
  | .non, v, e, c, q => by cases c; exact q
  | .bl b, v, e, c, q => by cases c; exact q
  | .int i, v, e, c, q => by cases c; exact q
  | .str x, v, e, c, q => by cases c; exact q
  | .tup ds, v, e, c, ⟨a, vs, e1, q, r⟩ => by
    have c : (clos _ M' ds).map D.tup = some e := c
    obtain ⟨es, c1, rfl⟩ := Option.map_eq_some_iff.mp c
    exact ⟨a, vs, e1, q.imp (fun ⟨z, n⟩ => ⟨z, Pl.sub h hh n⟩) id, Reps.clo h hh R ds vs es c1 r⟩
  | .lst ds, v, e, c, ⟨a, vs, e1, q, n, r⟩ => by
    have c : (clos _ M' ds).map D.lst = some e := c
    obtain ⟨es, c1, rfl⟩ := Option.map_eq_some_iff.mp c
    exact ⟨a, vs, e1, q, Pl.sub h hh n, Reps.clo h hh R ds vs es c1 r⟩
  | .flst ds, v, e, c, ⟨a, vs, e1, q, r⟩ => by
    have c : (clos _ M' ds).map D.flst = some e := c
    obtain ⟨es, c1, rfl⟩ := Option.map_eq_some_iff.mp c
    exact ⟨a, vs, e1, q.imp (fun ⟨z, n⟩ => ⟨z, Pl.sub h hh n⟩) id, Reps.clo h hh R ds vs es c1 r⟩
  | .obj C ns ds, v, e, c, ⟨a, cc, dx, vs, e1, g, q, n, l, r⟩ => by
    have c : (clos _ M' ds).map (D.obj C ns) = some e := c
    obtain ⟨es, c1, rfl⟩ := Option.map_eq_some_iff.mp c
    exact ⟨a, cc, dx, vs, e1, g, q, Pl.sub h hh n, l, Reps.clo h hh R ds vs es c1 r⟩
  | .dic ks ds, v, e, c, ⟨a, kl, vs, e1, g, l, q, n, r⟩ => by
    have c : (clos _ M' ds).map (D.dic ks) = some e := c
    obtain ⟨es, c1, rfl⟩ := Option.map_eq_some_iff.mp c
    exact ⟨a, kl, vs, e1, g, l, q, Pl.sub h hh n, Reps.clo h hh R ds vs es c1 r⟩
  | .glo x, v, e, c, q => by cases c; exact q
  | .ty n, v, e, c, q => by cases c; exact q
  | .exn C ns ds x d, v, e, c, ⟨a, vs, e1, q, n, l, r⟩ => by
    have c : ((clos _ M' ds).map fun es => D.exn C ns es x d) = some e := c
    obtain ⟨es, c1, rfl⟩ := Option.map_eq_some_iff.mp c
    exact ⟨a, vs, e1, q, Pl.sub h hh n, l, Reps.clo h hh R ds vs es c1 r⟩
  | .cell k, v, e, c, q => by
    have c : (if k < ro.ro.length then some (D.cell k) else match M'[k]? with
      | some (.lst ds) => if ncs ro.ro.length ds = true then some (.lst ds) else none
      | some (.obj C ns ds) => if ncs ro.ro.length ds = true then some (.obj C ns ds) else none
      | some (.dic ks ds) => if ncs ro.ro.length ds = true then some (.dic ks ds) else none
      | some (.tab ..) => none
      | none => none) = some e := c
    by_cases hk : k < ro.ro.length
    · rw [if_pos hk] at c; cases c
      exact Rep.shrink h hh (.cell k) v (decide_eq_true hk) q
    · rw [if_neg hk] at c
      have out : ∀ a, ro'.ro[k]? = some a → a ∉ ro.all := fun a g m => by
        rcases List.mem_append.mp m with m | m
        · obtain ⟨t, e'⟩ := h
          obtain ⟨j, hj⟩ := List.getElem?_of_mem m
          have hjl := (List.getElem?_eq_some_iff.mp hj).1
          have hj' : ro'.ro[j]? = some a := by rw [e', List.getElem?_append_left hjl]; exact hj
          obtain ⟨l1, q1⟩ := List.getElem?_eq_some_iff.mp g
          obtain ⟨l2, q2⟩ := List.getElem?_eq_some_iff.mp hj'
          have : k = j := (List.getElem_inj R.nd).mp (q1.trans q2.symm)
          omega
        · exact R.dis a (List.mem_of_getElem? g) (by rw [hh]; exact m)
      cases hm : M'[k]? with
      | none => rw [hm] at c; cases c
      | some mo =>
        rw [hm] at c
        obtain ⟨a, ho, rfl, g, e2, mr⟩ := R.cellAt q hm
        cases mo with
        | lst ds =>
          dsimp only at c
          split at c
          · rename_i hc
            cases c
            obtain ⟨vs, rfl, r⟩ := mr
            exact ⟨a, vs, rfl, e2, out a g, Reps.shrink h hh ds vs hc r⟩
          · cases c
        | obj C ns ds =>
          dsimp only at c
          split at c
          · rename_i hc
            cases c
            obtain ⟨cc, dx, vs, rfl, gg, l, r⟩ := mr
            exact ⟨a, cc, dx, vs, rfl, gg, e2, out a g, l, Reps.shrink h hh ds vs hc r⟩
          · cases c
        | dic ks ds =>
          dsimp only at c
          split at c
          · rename_i hc
            cases c
            obtain ⟨kl, vs, rfl, gg, l, r⟩ := mr
            exact ⟨a, kl, vs, rfl, gg, l, e2, out a g, Reps.shrink h hh ds vs hc r⟩
          · cases c
        | tab i C m => cases c
theorem Reps.clo (h : ∃ t, ro'.ro = ro.ro ++ t) (hh : ro'.hid = ro.hid) (R : RelS K mg ro' M' H) : ∀ (ds : List D) (vs : List V) (es : List D), clos ro.ro.length M' ds = some es → Reps K mg ro' H ds vs → Reps K mg ro H es vs
  | [], vs, es, c, q => by cases c; exact q
  | d :: ds, vs, es, c, ⟨v, r, e1, q, t⟩ => by
    have c : (match DL.clo ro.ro.length M' d, clos ro.ro.length M' ds with | some e, some es => some (e :: es) | _, _ => none) = some es := c
    cases h1 : DL.clo ro.ro.length M' d with
    | none => rw [h1] at c; cases c
    | some e =>
      cases h2 : clos ro.ro.length M' ds with
      | none => rw [h1, h2] at c; cases c
      | some es' =>
        rw [h1, h2] at c; cases c
        exact ⟨v, r, e1, Rep.clo h hh R d v e h1 q, Reps.clo h hh R ds r es' h2 t⟩
end
/-- back to the places that were there -/
theorem RelS.back {M M' : MS} {H' : Hp} (R : RelS K mg ro M H) (R' : RelS K mg ro' M' H') (P : Pres ro H ro' H') (hc : M'.take M.length = M ∨ (M'.take M.length).all (ncM M.length) = true) : RelS K mg ro (M'.take M.length) H' ∧ Pres ro H ro H' := by
  obtain ⟨t, e⟩ := P.pre
  have hl : M.length ≤ M'.length := by rw [← R.len, ← R'.len, e, List.length_append]; omega
  have hmo : ∀ i mo, (M'.take M.length)[i]? = some mo → i < M.length ∧ M'[i]? = some mo := fun i mo h => by
    have hi := (List.getElem?_eq_some_iff.mp h).1
    rw [List.length_take] at hi
    rw [List.getElem?_take_of_lt (by omega)] at h
    exact ⟨by omega, h⟩
  refine ⟨⟨by rw [List.length_take, R.len]; omega, R.nd, fun a ha => R'.live a (by rw [P.hid]; exact ha), R.dis, fun i mo a e1 e2 => ?_⟩, ⟨⟨[], by simp⟩, rfl, P.keep, fun _ h => .inl h⟩⟩
  obtain ⟨hi, e1'⟩ := hmo i mo e1
  have e2' : ro'.ro[i]? = some a := P.get e2
  obtain ⟨ho, e3, m⟩ := R'.at_ i mo a e1' e2'
  refine ⟨ho, e3, m.shrink P.pre P.hid ?_⟩
  rcases hc with hc | hc
  · rw [hc] at e1
    obtain ⟨ho', e4, m'⟩ := R.at_ i mo a e1 e2
    exact m'.nc
  · rw [R.len]
    exact List.all_eq_true.mp hc mo (List.mem_of_getElem? e1)
theorem Post.close {E : XK} {Q : VK} {M : MS} {x : Res D} (R : RelS K mg ro M H) (h : PostD K mg E ro H Q (closeR M x)) : PostD K mg E ro H Q x := by
  cases x with
  | stuck => exact h
  | ok d M' =>
    intro ro' H' v R' P r
    unfold closeR at h
    dsimp only at h
    split at h
    · rename_i hc
      obtain ⟨Rb, Pb⟩ := R.back R' P hc
      split at h
      · rename_i e he
        exact h ro H' v Rb Pb (Rep.clo P.pre P.hid R' d v e (by rw [R.len]; exact he) r)
      · exact h.elim
    · exact h.elim
  | exc C ns ds M' =>
    rintro ro' H' cls dd R' P ⟨c, rfl, hm, r⟩
    unfold closeR at h
    dsimp only at h
    split at h
    · rename_i hc
      obtain ⟨Rb, Pb⟩ := R.back R' P hc
      split at h
      · rename_i es he
        refine h ro H' _ dd Rb Pb ⟨c, rfl, hm, ?_⟩
        rcases r with ⟨r1, r2, r3⟩ | ⟨d, vs, r1, r2, r3, r4, r5⟩
        · subst r3
          cases he
          exact .inl ⟨r1, r2, rfl⟩
        · exact .inr ⟨d, vs, r1, r2, Pl.sub P.pre P.hid r3, r4, Reps.clo P.pre P.hid R' ds vs es (by rw [R.len]; exact he) r5⟩
      · exact h.elim
    · exact h.elim
end
def callE (n : Nat) (F : FM) (g : List D → List D) (a : MA) : ME := fun sd M => (a sd M).bind fun ds M1 => if (g ds).length = n then F (g ds) M1 else .stuck
section
variable {X : Cx} {W : WX}
theorem run_DA {A : Around} {k : Nat} {f : Addr} {fd : FuncData} {ps : List Str} {F : FM} {pins : List (Addr × Obj)} {st : St} {H : Hp} {s : Shared} {Q : VK} {args : Args} {us : List Value} {vs : List V} {ro : Pl} {ds : List D} {M : MS}
    (hF : DOk X.prog X.w X.K X.mg X.base k f fd ps F) (hA : A.frames = X.A.frames) (hr : Room k A) (tk : Takes X W) (hb : BindsTo s fd args (ps.zip us)) (I : Inv X pins st H s) (r : Vals vs us) (R : RelS X.K X.mg ro M H) (rs : Reps X.K X.mg ro H ds vs) (hl : ds.length = ps.length)
    (P : PostD X.K X.mg (fun c d H' => W c d st H') ro H Q (F ds M)) : wpAny (model X.prog X.w) A (call (.ref f) args.pos args.kw) (EP X pins st Q) X.xe s := by
  have e0 : Env0 X.prog X.w X.K X.mg X.base A X.stack s H := by
    have e := I.env0
    exact ⟨by rw [hA]; exact e.frames, e.mod, e.bs, e.bsz, e.funs, e.frf, e.hok, e.bare⟩
  refine wpAny_call (codeAny_mono (hF.run A X.stack s H args us vs Q (WE W st) hr e0 hb r ⟨by rw [← rs.len]; exact hl, ro, ds, M, R, rs, P⟩) fun r s' hq => ?_)
  cases r with
  | error e => exact passAt tk st pins H s e s' I hq
  | ok fl =>
    cases fl with
    | ret u => exact I.after hq
    | next => exact False.elim hq
    | brk => exact False.elim hq
    | cont => exact False.elim hq
theorem run_D {k : Nat} {f : Addr} {fd : FuncData} {ps : List Str} {F : FM} {pins : List (Addr × Obj)} {st : St} {H : Hp} {s : Shared} {Q : VK} {args : Args} {us : List Value} {vs : List V} {ro : Pl} {ds : List D} {M : MS}
    (hF : DOk X.prog X.w X.K X.mg X.base k f fd ps F) (hr : Room k X.A) (tk : Takes X W) (hb : BindsTo s fd args (ps.zip us)) (I : Inv X pins st H s) (r : Vals vs us) (R : RelS X.K X.mg ro M H) (rs : Reps X.K X.mg ro H ds vs) (hl : ds.length = ps.length)
    (P : PostD X.K X.mg (fun c d H' => W c d st H') ro H Q (F ds M)) : wpAny (model X.prog X.w) X.A (call (.ref f) args.pos args.kw) (EP X pins st Q) X.xe s := run_DA hF rfl hr tk hb I r R rs hl P
variable {k : Nat} {f : Addr} {fd : FuncData} {ps : List Str} {F : FM} {x m : Str} {p pos apos : Pos} {e o : Expr} {es : List Expr} {kws : List Keyword} {ma : MA} {mo : ME} {dfl : List D} {dvs : List V} {dV : List Value}
/-- the defaults that fill up -/
structure Dfl (X : Cx) (fd : FuncData) (ps : List Str) (n : Nat) (dfl : List D) : Prop where
  ex : ∃ (dvs : List V) (dV : List Value), Binds X.K fd ps dV ∧ Vals dvs dV ∧ ∀ ro H, Reps X.K X.mg ro H dfl dvs
theorem Dfl.none {fd : FuncData} {ps : List Str} {n : Nat} (h : Binds X.K fd ps []) : Dfl X fd ps n [] := ⟨[], [], h, .nil, fun _ _ => rfl⟩
theorem de_call (hF : DOk X.prog X.w X.K X.mg X.base k f fd ps F) (hr : Room k X.A) (tk : Takes X W) (hg : Gl X x) (hm : X.mg x = some (.ref f)) (hk : PySem.W.keepIn X.K (.ref f) = true) (hd : Dfl X fd ps 0 dfl) (ha : DA X W (e :: es) ma)
    (hdb : (x == ("__debug__" : Str)) = false := by decide) (he : starEach (e :: es) X.env = (false, eval e X.env) :: starEach es X.env := by rfl) (hpl : (backTo pos (starEach es X.env)).any (·.1) = false := by rfl) :
    DE X W (.Call (.Name x p) (e :: es) [] pos) (callE ps.length F (· ++ dfl) ma) := by
  obtain ⟨dvs, dV, hb, hv, hdf⟩ := hd.ex
  refine ⟨⟨fun pins s st H Q I q => ?_⟩⟩
  obtain ⟨ro, sd, M, R, S, P⟩ := q
  refine wpAny_Call_Name_kw (ld_glob I hg hm ?_ hdb)
  refine PySem.W.callWith_K (h₀ := X.base) I.ok.mod.kin hk (thn (ha.pa.run pos pins s st H _ I ⟨ro, sd, M, R, S, Post.bind P⟩) fun us s1 ⟨vs, H1, I1, r, ro1, M1, ds, R1, P1, r1, q1⟩ => ⟨I1.kIn, ?_⟩) he hpl
  dsimp only at q1
  split at q1
  · rename_i hl
    have r2 := r.append hv
    have rs := r1.append (hdf ro1 H1)
    exact run_D (args := ⟨us, []⟩) hF hr tk (hb s1 us I1.kIn (by rw [← r2.length, ← rs.len]; exact hl)) I1 r2 R1 rs hl q1
  · exact q1.elim
/-- keywords -/
structure DK (X : Cx) (W : WX) (kws : List Keyword) (m : MA) : Prop where
  pk : PK X kws (liftA X.K X.mg W m)
theorem dk_nil : DK X W [] nilA := by
  refine ⟨⟨fun pos pins s st H Q I q => pk_nil.run pos pins s st H Q I ?_⟩⟩
  obtain ⟨ro, sd, M, R, S, P⟩ := q
  exact P ro H [] R (Pres.refl _ _) rfl
theorem dk_cons {nm : Option Str} {kpos : Pos} {me : ME} {ms : MA} (ha : DE X W e me) (hr : DK X W kws ms) : DK X W (⟨nm, e, kpos⟩ :: kws) (consA me ms) := by
  refine ⟨⟨fun pos pins s st H Q I q => (pk_cons ha.pe hr.pk).run pos pins s st H Q I ?_⟩⟩
  obtain ⟨ro, sd, M, R, S, P⟩ := q
  refine ⟨ro, sd, M, R, S, (Post.bind P).imp fun x H1 ⟨ro1, M1, d, R1, P1, r1, q1⟩ => ?_⟩
  refine ⟨ro1, sd, M1, R1, S.mono P1, (Post.bind q1).imp fun xs H2 ⟨ro2, M2, ds, R2, P2, r2, q2⟩ => ?_⟩
  exact q2 ro2 H2 _ R2 (Pres.refl _ _) ⟨x, xs, rfl, Rep.mono P2 d x r1, r2⟩
/-- how positional values and keywords are put in the parameters' order -/
structure KwB (X : Cx) (fd : FuncData) (ps : List Str) (n : Nat) (ks : List Str) (gD : List D → List D → List D) : Prop where
  ex : ∃ (g : List Value → List Value → List Value) (gV : List V → List V → List V), KBn X.K fd ps n ks g gV ∧ ∀ ro H ds vs es zs, Reps X.K X.mg ro H ds vs → Reps X.K X.mg ro H es zs → Reps X.K X.mg ro H (gD ds es) (gV vs zs)
def callKE (n np nk : Nat) (F : FM) (gD : List D → List D → List D) (a b : MA) : ME := fun sd M => (a sd M).bind fun ds M1 => (b sd M1).bind fun es M2 => if ds.length = np ∧ es.length = nk ∧ (gD ds es).length = n then F (gD ds es) M2 else .stuck
theorem de_callK {np : Nat} {ks : List Str} {gD : List D → List D → List D} {mk : MA} (hF : DOk X.prog X.w X.K X.mg X.base k f fd ps F) (hr : Room k X.A) (tk : Takes X W) (hg : Gl X x) (hm : X.mg x = some (.ref f)) (hk : PySem.W.keepIn X.K (.ref f) = true)
    (hb : KwB X fd ps np ks gD) (ha : DA X W (e :: es) ma) (hkw : DK X W kws mk) (hall : (backToKw pos (keywordEach kws X.env)).all (·.1.isSome) = true := by rfl) (hks : (backToKw pos (keywordEach kws X.env)).filterMap (·.1) = ks := by rfl)
    (hdb : (x == ("__debug__" : Str)) = false := by decide) (he : starEach (e :: es) X.env = (false, eval e X.env) :: starEach es X.env := by rfl)
    (hpl : ((backTo pos (starEach (e :: es) X.env)).any (·.1) || (backToKw pos (keywordEach kws X.env)).any (·.1.isNone)) = false := by rfl) :
    DE X W (.Call (.Name x p) (e :: es) kws pos) (callKE ps.length np ks.length F gD ma mk) := by
  obtain ⟨g, gV, hb, hgD⟩ := hb.ex
  refine ⟨⟨fun pins s st H Q I q => ?_⟩⟩
  obtain ⟨ro, sd, M, R, S, P⟩ := q
  refine wpAny_Call_Name_kw (ld_glob I hg hm ?_ hdb)
  refine PySem.W.callWith_KW (h₀ := X.base) I.ok.mod.kin hk hall (thn (ha.pa.run pos pins s st H _ I ⟨ro, sd, M, R, S, Post.bind P⟩) fun us s1 ⟨vs, H1, I1, r, ro1, M1, ds, R1, P1, r1, q1⟩ => ?_) hpl he
  refine thn (hkw.pk.run pos pins s1 st H1 _ I1 ⟨ro1, sd, M1, R1, S.mono P1, Post.bind q1⟩) fun ws s2 ⟨zs, H2, I2, rz, ro2, M2, es', R2, P2, r2, q2⟩ => ⟨I2.kIn, ?_⟩
  split at q2
  · rename_i hl
    obtain ⟨l1, l2, l3⟩ := hl
    have rs := hgD ro2 H2 ds vs es' zs (Reps.mono P2 _ _ r1) r2
    rw [hks]
    exact run_D (args := ⟨us, ks.zip ws⟩) hF hr tk (hb.to s2 us ws I2.kIn (by rw [← r.length, ← r1.len]; exact l1) (by rw [← rz.length, ← r2.len]; exact l2)) I2 (hb.rel r rz) R2 rs l3 q2
  · exact q2.elim
/-- a class of the text -/
structure CInfo (K : PySem.W.Frag) (mg : Str → Option Value) (C : String) (c : Addr) (fs : List String) : Prop where
  mgC : mg (Str.ofString C) = some (.ref c)
  cl : Cls K c
  na : ∀ f, f ∈ fs → NoAttr K c (Str.ofString f)
def fldD (cs : List String) (f : String) (d : D) (M : MS) : Res D := match d with
  | .obj C ns ds => if C ∈ cs then (match lookF ns ds f with
    | some e => .ok e M
    | none => .stuck) else .stuck
  | .cell n => (match M[n]? with
    | some (.obj C ns ds) => if C ∈ cs then (match lookF ns ds f with
      | some e => .ok e M
      | none => .stuck) else .stuck
    | _ => .stuck)
  | _ => .stuck
theorem de_fld {cs : List String} {f : String} (hcs : ∀ C, C ∈ cs → ∃ c fs, CInfo X.K X.mg C c fs ∧ f ∈ fs) (he : DE X W o mo) (hb : attributeBase o (Str.ofString f) X.env (eval o X.env) = eval o X.env := by rfl) : DE X W (.Attribute o (Str.ofString f) pos) (unE (fldD cs f) mo) := by
  refine ⟨⟨fun pins s st H Q I q => (pe_fld he.pe hb).run pins s st H Q I ?_⟩⟩
  obtain ⟨ro, sd, M, R, S, P⟩ := q
  refine ⟨ro, sd, M, R, S, (Post.bind P).imp fun x H1 ⟨ro1, M1, d, R1, P1, r1, q1⟩ => ?_⟩
  have fin : ∀ (C : String) (ns : List String) (ds : List D) (a c dx : Addr) (vs : List V), X.mg (Str.ofString C) = some (.ref c) → H1 a = some (.ins c dx (zipF ns vs)) → Reps X.K X.mg ro1 H1 ds vs →
      PostD X.K X.mg (fun c d H' => W c d st H') ro1 H1 Q (if C ∈ cs then (match lookF ns ds f with | some e => .ok e M1 | none => .stuck) else .stuck) →
      ∃ C dx fs v, H1 a = some (.ins C dx fs) ∧ Cls X.K C ∧ NoAttr X.K C (Str.ofString f) ∧ fs.lookup (Str.ofString f) = some v ∧ Q v H1 := fun C ns ds a c dx vs hmg hH rs q1 => by
    split at q1
    · rename_i hC
      obtain ⟨c', fs, ci, hf⟩ := hcs C hC
      have e := ci.mgC
      rw [hmg] at e; cases e
      split at q1
      · rename_i e he
        obtain ⟨v, hv, rv⟩ := lookF_some rs he
        exact ⟨c, dx, _, v, hH, ci.cl, ci.na f hf, hv, PostD.pure R1 rv q1⟩
      · exact q1.elim
    · exact q1.elim
  cases d with
  | obj C ns ds =>
    obtain ⟨a, c, dx, vs, rfl, hmg, hH, _, _, rs⟩ := r1
    obtain ⟨C', dx', fs, v, z⟩ := fin C ns ds a c dx vs hmg hH rs q1
    exact ⟨a, C', dx', fs, v, rfl, z⟩
  | cell n =>
    have q1 : PostD X.K X.mg (fun c d H' => W c d st H') ro1 H1 Q (match M1[n]? with | some (.obj C ns ds) => if C ∈ cs then (match lookF ns ds f with | some e => .ok e M1 | none => .stuck) else .stuck | _ => .stuck) := q1
    cases hm : M1[n]? with
    | none => rw [hm] at q1; exact q1.elim
    | some mo =>
      rw [hm] at q1
      cases mo with
      | obj C ns ds =>
        obtain ⟨a, ho, rfl, _, hH, c, dx, vs, rfl, hmg, _, rs⟩ := R1.cellAt r1 hm
        obtain ⟨C', dx', fs, v, z⟩ := fin C ns ds a c dx vs hmg hH rs q1
        exact ⟨a, C', dx', fs, v, rfl, z⟩
      | _ => exact q1.elim
  | _ => exact q1.elim
/-- o.f = e, o a changeable instance -/
def setFldD (cs : List String) (f : String) (M : MS) (o v : D) : Option MS := match o with
  | .cell n => (match M[n]? with
    | some (.obj C ns ds) => if C ∈ cs ∧ ns.length < 900 ∧ ns.length = ds.length then some (M.set n (.obj C (putN ns ds f v).1 (putN ns ds f v).2)) else none
    | _ => none)
  | _ => none
def setFldS (cs : List String) (f : String) (mo m : ME) : MST := fun sd M => SRes.ofE (m sd M) sd fun v M1 => SRes.ofE (mo sd M1) sd fun o M2 => match setFldD cs f M2 o v with
  | some M3 => .nx sd M3
  | none => .stuck
theorem ds_fld {cs : List String} {f : String} {pos' : Pos} {me : ME} (hcs : ∀ C, C ∈ cs → ∃ c fs, CInfo X.K X.mg C c fs ∧ f ∈ fs) (ho : DE X W o mo) (he : DE X W e me) (hs : swapsWith e (some (.Attribute o (Str.ofString f) pos')) pos.line X.env = pure false := by rfl) :
    DS X W (.Assign [.Attribute o (Str.ofString f) pos'] e pos) (setFldS cs f mo me) := by
  refine ⟨⟨fun pins s st H D0 I q => (ps_fld ho.pe he.pe hs).run pins s st H D0 I ?_⟩⟩
  obtain ⟨ro, sd, M, R, S, P⟩ := q
  refine ⟨ro, sd, M, R, S, (PostS.ofE P S).imp fun x H1 ⟨ro1, M1, d, R1, P1, r1, q1⟩ => ?_⟩
  refine ⟨ro1, sd, M1, R1, S.mono P1, (PostS.ofE q1 (S.mono P1)).imp fun y H2 ⟨ro2, M2, o', R2, P2, r2, q2⟩ => ?_⟩
  have r1' := Rep.mono P2 _ _ r1
  cases o' with
  | cell n =>
    have q2 : PostS X.K X.mg W ro2 H2 D0 (match (match M2[n]? with | some (.obj C ns ds) => if C ∈ cs ∧ ns.length < 900 ∧ ns.length = ds.length then some (M2.set n (.obj C (putN ns ds f d).1 (putN ns ds f d).2)) else none | _ => none) with | some M3 => .nx sd M3 | none => .stuck) := q2
    cases hm : M2[n]? with
    | none => rw [hm] at q2; exact q2.elim
    | some mo =>
      rw [hm] at q2
      cases mo with
      | obj C ns ds =>
        dsimp only at q2
        by_cases hc : C ∈ cs ∧ ns.length < 900 ∧ ns.length = ds.length
        · rw [if_pos hc] at q2
          obtain ⟨a, ho, rfl, g, hH, c, dx, vs, rfl, hmg, hl, rs⟩ := R2.cellAt r2 hm
          obtain ⟨c', fs, ci, hf⟩ := hcs C hc.1
          have e := ci.mgC
          rw [hmg] at e; cases e
          obtain ⟨ws, w1, w2, w3⟩ := putN_reps (f := f) rs hc.2.2 r1'
          obtain ⟨R3, P3⟩ := R2.change (mo := .obj C (putN ns ds f d).1 (putN ns ds f d).2) (o := .ins c dx (zipF (putN ns ds f d).1 ws)) g ⟨c, dx, ws, rfl, hmg, w3, w2⟩
          refine ⟨a, c, dx, _, rfl, hH, ci.cl, ci.na f hf, by rw [length_zipF hl]; omega, ?_⟩
          rw [w1]
          exact q2 ro2 _ _ R3 P3 (((S.mono P1).mono P2).mono P3)
        · rw [if_neg hc] at q2; exact q2.elim
      | _ => exact q2.elim
  | _ => exact q2.elim
/-- o.m(..) -/
def insOf (M : MS) (C m : String) : D → Bool
  | .obj C' ns _ => decide (C' = C) && !ns.contains m
  | .cell n => match M[n]? with
    | some (.obj C' ns _) => decide (C' = C) && !ns.contains m
    | _ => false
  | _ => false
def methE (C m : String) (n : Nat) (F : FM) (g : List D → List D) (o : ME) (a : MA) : ME := fun sd M => (o sd M).bind fun d M1 => if insOf M1 C m d = true then (a sd M1).bind fun ds M2 => if (g (d :: ds)).length = n then F (g (d :: ds)) M2 else .stuck else .stuck
/-- C(..): a new instance; it will be changed, or it is kept as it is behind its __init__ -/
def mkD (C : String) (F : FM) : FM := fun ds M => (F (.cell M.length :: ds) (M ++ [.obj C [] []])).bind fun r M' => match r with
  | .non => .ok (.cell M.length) M'
  | _ => .stuck
noncomputable def mkT (C : String) (F : FM) : FM := fun ds M => closeR M (mkD C F ds M)
theorem run_mk {C : String} {c : Addr} {fs : List String} {pins : List (Addr × Obj)} {st : St} {H : Hp} {s : Shared} {Q : VK} {us wus : List Value} {kw : List (Str × Value)} {vs : List V} {ro : Pl} {ds : List D} {M : MS} (ci : CInfo X.K X.mg C c fs) (Mk' : Mk X.K c f)
    (hF : DOk X.prog X.w X.K X.mg X.base k f fd ps F) (hr : Room (k + 1) X.A) (tk : Takes X W) (hb : ∀ self, BindsTo { s with heap := (s.heap.push PySem.W.emptyDict).push (PySem.W.instObj c s.heap.objs.size) } fd ⟨self :: us, kw⟩ (ps.zip (self :: wus))) (I : Inv X pins st H s) (r : Vals vs wus) (R : RelS X.K X.mg ro M H)
    (rs : Reps X.K X.mg ro H ds vs) (hl : (ds.length + 1) = ps.length) (hkw : kw = []) (P : PostD X.K X.mg (fun c d H' => W c d st H') ro H Q (mkD C F ds M)) : wpAny (model X.prog X.w) X.A (call (.ref c) us kw) (EP X pins st Q) X.xe s := by
  subst hkw
  have n1 : H (s.heap.objs.size + 1) = none := I.hok.fresh (Nat.le_succ _)
  have n2 : H s.heap.objs.size = none := I.hok.fresh (Nat.le_refl _)
  have ne : s.heap.objs.size ≠ s.heap.objs.size + 1 := Nat.ne_of_lt (Nat.lt_succ_self _)
  have I2 := Inv.made (C := c) I
  obtain ⟨Ra, Pa⟩ := R.alloc (o := .own (s.heap.objs.size + 1)) n2
  have n3 : upd H s.heap.objs.size (.own (s.heap.objs.size + 1)) (s.heap.objs.size + 1) = none := by rw [upd_ne ne.symm]; exact n1
  obtain ⟨Rb, Pb⟩ := Ra.allocM (mo := .obj C [] []) (o := .ins c s.heap.objs.size []) n3 ⟨c, _, [], rfl, ci.mgC, rfl, rfl⟩
  have r2 : Vals (V.ref (s.heap.objs.size + 1) :: vs) (Value.ref (s.heap.objs.size + 1) :: wus) := .cons rfl r
  have rs2 : Reps X.K X.mg (ro.add (s.heap.objs.size + 1)) _ (D.cell M.length :: ds) (V.ref (s.heap.objs.size + 1) :: vs) :=
    ⟨_, _, rfl, ⟨_, rfl, by show (ro.ro ++ [_])[M.length]? = _; rw [← R.len, List.getElem?_append_right (Nat.le_refl _)]; simp⟩, Reps.mono Pb _ _ (Reps.mono Pa _ _ rs)⟩
  have P2 := Post.moves (Post.moves P Pa) Pb
  refine wpAny_call (make_map (f := f) I.kIn Mk'.makes Mk'.init (beq_iff_eq.mp Mk'.fn) (codeAny_mono (hF.run _ X.stack _ _ ⟨Value.ref (s.heap.objs.size + 1) :: us, []⟩ (Value.ref (s.heap.objs.size + 1) :: wus) _
    (fun v H2 => v = .non ∧ Q (.ref (s.heap.objs.size + 1)) H2) (WE W st) (hr.make c us []) (I2.env0.make c us []) (hb _) r2 ⟨by rw [← rs2.len, List.length_cons]; exact hl, _, _, _, Rb, rs2, ?_⟩) fun r s' hq' => ?_))
  · unfold mkD at P2
    cases e : F (.cell M.length :: ds) (M ++ [.obj C [] []]) with
    | stuck => rw [e] at P2; exact P2
    | exc C' ns es M' => rw [e] at P2; exact P2
    | ok d M' =>
      rw [e, Res.bind_ok] at P2
      cases d with
      | non =>
        intro ro' H' v R' P' rv
        cases (show v = V.non from rv)
        refine ⟨rfl, P2 ro' H' _ R' P' ⟨_, rfl, P'.get ?_⟩⟩
        show (ro.ro ++ [_])[M.length]? = _
        rw [← R.len, List.getElem?_append_right (Nat.le_refl _)]; simp
      | _ => exact P2.elim
  · cases r with
    | error e => exact passAt tk st pins _ _ e s' I2 hq'
    | ok fl =>
      cases fl with
      | ret u =>
        obtain ⟨v, H', I3, rv, ev, q3⟩ := I2.after hq'
        subst ev
        exact ⟨rv, ⟨V.ref (s.heap.objs.size + 1), H', I3, rfl, q3⟩⟩
      | next => exact False.elim hq'
      | brk => exact False.elim hq'
      | cont => exact False.elim hq'
/-- the two ways of taking it -/
def MkAs (X : Cx) (C : String) (F G : FM) : Prop := ∀ (ro : Pl) (H : Hp) (E : XK) (Q : VK) (ds : List D) (M : MS), RelS X.K X.mg ro M H → PostD X.K X.mg E ro H Q (G ds M) → PostD X.K X.mg E ro H Q (mkD C F ds M)
theorem mkAs_T {C : String} {F : FM} : MkAs X C F (mkT C F) := fun _ _ _ _ _ _ R h => Post.close R h
theorem de_mk {C : String} {c : Addr} {fs : List String} {G : FM} (hG : MkAs X C F G) (ci : CInfo X.K X.mg C c fs) (Mk' : Mk X.K c f) (hF : DOk X.prog X.w X.K X.mg X.base k f fd ps F) (hr : Room (k + 1) X.A) (tk : Takes X W) (hg : Gl X (Str.ofString C)) (hd : Dfl X fd ps 0 dfl) (ha : DA X W (e :: es) ma)
    (hps : 0 < ps.length := by decide) (hdb : (Str.ofString C == ("__debug__" : Str)) = false := by decide) (he : starEach (e :: es) X.env = (false, eval e X.env) :: starEach es X.env := by rfl) (hpl : (backTo pos (starEach es X.env)).any (·.1) = false := by rfl) :
    DE X W (.Call (.Name (Str.ofString C) p) (e :: es) [] pos) (callE (ps.length - 1) G (· ++ dfl) ma) := by
  obtain ⟨dvs, dV, hb, hv, hdf⟩ := hd.ex
  refine ⟨⟨fun pins s st H Q I q => ?_⟩⟩
  obtain ⟨ro, sd, M, R, S, P⟩ := q
  refine wpAny_Call_Name_kw (ld_glob I hg ci.mgC ?_ hdb)
  refine PySem.W.callWith_K (h₀ := X.base) I.ok.mod.kin Mk'.kp (thn (ha.pa.run pos pins s st H _ I ⟨ro, sd, M, R, S, Post.bind P⟩) fun us s1 ⟨vs, H1, I1, r, ro1, M1, ds, R1, P1, r1, q1⟩ => ⟨I1.kIn, ?_⟩) he hpl
  dsimp only at q1
  split at q1
  · rename_i hl
    have r2 := r.append hv
    have rs := r1.append (hdf ro1 H1)
    refine run_mk ci Mk' hF hr tk (fun self => ?_) I1 r2 R1 rs (by omega) rfl (hG _ _ _ _ _ _ R1 q1)
    have h3 := hb { s1 with heap := (s1.heap.push PySem.W.emptyDict).push (PySem.W.instObj c s1.heap.objs.size) } (self :: us) ((Inv.made (C := c) I1).kIn) (by
      rw [List.cons_append, List.length_cons, ← r2.length, ← rs.len]; omega)
    rw [List.cons_append] at h3
    exact h3
  · exact q1.elim
end
end DL
namespace DL
open PySem PySem.Spec L2
open PyProof.Rows hiding St
def mapO {A B : Type} (f : A → Option B) : List A → Option (List B)
  | [] => some []
  | a :: r => match f a, mapO f r with
    | some b, some bs => some (b :: bs)
    | _, _ => none
def pyN : Nat → MS → D → Option PyData
  | 0, _, _ => none
  | n + 1, M, d => match d with
    | .non => some .none
    | .bl b => some (.bool b)
    | .int i => some (.int i)
    | .str x => some (.str (tx x))
    | .tup ds => (mapO (pyN n M) ds).map .tuple
    | .lst ds => (mapO (pyN n M) ds).map .list
    | .flst ds => (mapO (pyN n M) ds).map .list
    | .cell k => match M[k]? with
      | some (.lst ds) => (mapO (pyN n M) ds).map .list
      | _ => none
    | _ => none
abbrev pyD (M : MS) (d : D) : Option PyData := pyN 30 M d
section
variable {K : PySem.W.Frag} {mg : Str → Option Value} {ro : Pl} {H : Hp} {M : MS}
theorem dpAll_of {n : Nat} (ih : ∀ d v p, pyN n M d = some p → Rep K mg ro H d v → Dp K H v p) : ∀ (ds : List D) (vs : List V) (ps : List PyData), mapO (pyN n M) ds = some ps → Reps K mg ro H ds vs → DpAll K H vs ps
  | [], vs, ps, e, r => by cases e; cases (show vs = [] from r); exact .nil
  | d :: ds, vs, ps, e, ⟨v, w, ev, q, t⟩ => by
    subst ev
    unfold mapO at e
    cases h1 : pyN n M d with
    | none => rw [h1] at e; cases e
    | some p =>
      cases h2 : mapO (pyN n M) ds with
      | none => rw [h1, h2] at e; cases e
      | some qs =>
        rw [h1, h2] at e; cases e
        exact .cons (ih d v p h1 q) (dpAll_of ih ds w qs h2 t)
theorem dp_of (R : RelS K mg ro M H) : ∀ (n : Nat) (d : D) (v : V) (p : PyData), pyN n M d = some p → Rep K mg ro H d v → Dp K H v p
  | 0, _, _, _, e, _ => by cases e
  | n + 1, d, v, p, e, r => by
    have ih := dp_of R n
    cases d with
    | non => cases e; cases (show v = V.non from r); exact .non
    | bl b => cases e; cases (show v = V.bl b from r); exact .bl b
    | int i => cases e; cases (show v = V.int i from r); exact .int i
    | str x => cases e; cases (show v = V.str (tx x) from r); exact .str _
    | tup ds =>
      have e : (mapO (pyN n M) ds).map PyData.tuple = some p := e
      obtain ⟨ps, h1, rfl⟩ := Option.map_eq_some_iff.mp e
      obtain ⟨a, vs, rfl, q, rs⟩ := r
      exact .tup q.sq (dpAll_of ih ds vs ps h1 rs)
    | lst ds =>
      have e : (mapO (pyN n M) ds).map PyData.list = some p := e
      obtain ⟨ps, h1, rfl⟩ := Option.map_eq_some_iff.mp e
      obtain ⟨a, vs, rfl, q, _, rs⟩ := r
      exact .lst (SqL.of q) (dpAll_of ih ds vs ps h1 rs)
    | flst ds =>
      have e : (mapO (pyN n M) ds).map PyData.list = some p := e
      obtain ⟨ps, h1, rfl⟩ := Option.map_eq_some_iff.mp e
      obtain ⟨a, vs, rfl, q, rs⟩ := r
      exact .lst q.sq (dpAll_of ih ds vs ps h1 rs)
    | cell k =>
      have e : (match M[k]? with | some (.lst ds) => (mapO (pyN n M) ds).map PyData.list | _ => none) = some p := e
      cases hm : M[k]? with
      | none => rw [hm] at e; cases e
      | some mo =>
        rw [hm] at e
        cases mo with
        | lst ds =>
          obtain ⟨ps, h1, rfl⟩ := Option.map_eq_some_iff.mp e
          obtain ⟨a, ho, rfl, _, hH, vs, rfl, rs⟩ := R.cellAt r hm
          exact .lst (SqL.of hH) (dpAll_of ih ds vs ps h1 rs)
        | _ => cases e
    | _ => cases e
end
/-- == of two of none, truth values, ints, texts; not a truth value with an int -/
def eqSc : D → D → Option Bool
  | .non, .non => some true
  | .bl a, .bl b => some (a == b)
  | .int a, .int b => some (a == b)
  | .str a, .str b => some (a == b)
  | .non, .int _ => some false
  | .int _, .non => some false
  | .non, .str _ => some false
  | .str _, .non => some false
  | .non, .bl _ => some false
  | .bl _, .non => some false
  | .int _, .str _ => some false
  | .str _, .int _ => some false
  | .bl _, .str _ => some false
  | .str _, .bl _ => some false
  | _, _ => none
def eqS (neg : Bool) (d e : D) (M : MS) : Res D := match eqSc d e with
  | some b => .ok (.bl (b != neg)) M
  | none => .stuck
def eqP (neg : Bool) (d e : D) (M : MS) : Res D := match pyD M d, pyD M e with
  | some p, some q => if SeqAt.shaped p = true ∧ SeqAt.shaped q = true then .ok (.bl (PyData.eqv p q != neg)) M else .stuck
  | _, _ => .stuck
def eqD (neg : Bool) : D → D → MS → Res D := fun d e M => if (eqSc d e).isSome = true then eqS neg d e M else eqP neg d e M
section
variable {X : Cx}
theorem tx_inj {x y : List Nat} : tx x = tx y ↔ x = y := by
  constructor
  · intro h
    have := congrArg (fun z : Str => z.cps.toList) h
    simpa using this
  · rintro rfl; rfl
theorem eqSc_scal {K : PySem.W.Frag} {mg : Str → Option Value} {ro : Pl} {H : Hp} {d e : D} {x y : V} {b : Bool} (h : eqSc d e = some b) (rx : Rep K mg ro H d x) (ry : Rep K mg ro H e y) : scal x y = true ∧ decide (x = y) = b := by
  cases d <;> cases e <;> first | cases h | skip
  all_goals (cases (show x = _ from rx); cases (show y = _ from ry))
  all_goals refine ⟨rfl, ?_⟩
  all_goals simp [tx_inj]
  all_goals first | rfl | exact Bool.eq_iff_iff.mpr (by simp)
theorem opS_eqS (neg : Bool) : OpS X (compareOp (if neg then .NotEq else .Eq)) (eqS neg) := by
  cases neg with
  | false =>
    refine ⟨_, op_eq, fun ro H M d e x y E Q R rx ry P => ?_⟩
    unfold eqS at P
    split at P
    · rename_i b h
      obtain ⟨h1, h2⟩ := eqSc_scal h rx ry
      exact ⟨h1, by rw [h2]; simpa using PostD.pure (d := .bl (b != false)) R rfl P⟩
    · exact P.elim
  | true =>
    refine ⟨_, op_ne, fun ro H M d e x y E Q R rx ry P => ?_⟩
    unfold eqS at P
    split at P
    · rename_i b h
      obtain ⟨h1, h2⟩ := eqSc_scal h rx ry
      exact ⟨h1, by rw [h2]; simpa using PostD.pure (d := .bl (b != true)) R rfl P⟩
    · exact P.elim
theorem opS_eqP (neg : Bool) (hu : X.A.units + 64 < cLine) : OpS X (compareOp (if neg then .NotEq else .Eq)) (eqP neg) := by
  cases neg with
  | false =>
    refine ⟨_, op_eqD hu, fun ro H M d e x y E Q R rx ry P => ?_⟩
    unfold eqP at P
    split at P
    · rename_i p q h1 h2
      split at P
      · rename_i hs
        exact ⟨p, q, dp_of R 30 d x p h1 rx, dp_of R 30 e y q h2 ry, hs.1, hs.2, by simpa using PostD.pure (d := .bl (PyData.eqv p q != false)) R rfl P⟩
      · exact P.elim
    · exact P.elim
  | true =>
    refine ⟨_, op_neD hu, fun ro H M d e x y E Q R rx ry P => ?_⟩
    unfold eqP at P
    split at P
    · rename_i p q h1 h2
      split at P
      · rename_i hs
        exact ⟨p, q, dp_of R 30 d x p h1 rx, dp_of R 30 e y q h2 ry, hs.1, hs.2, by simpa using PostD.pure (d := .bl (PyData.eqv p q != true)) R rfl P⟩
      · exact P.elim
    · exact P.elim
theorem opS_eq (hu : X.A.units + 64 < cLine) : OpS X (compareOp .Eq) (eqD false) := OpS.or (opS_eqS false) (opS_eqP false hu) fun d e _ => (eqSc d e).isSome
theorem opS_ne (hu : X.A.units + 64 < cLine) : OpS X (compareOp .NotEq) (eqD true) := OpS.or (opS_eqS true) (opS_eqP true hu) fun d e _ => (eqSc d e).isSome
end
def subIn (x y : List Nat) : Bool := !(Builtin.Str.occurrences (tx y) (tx x) 0 (tx y).length 1).isEmpty
def inS (neg : Bool) (d e : D) (M : MS) : Res D := match d, e with
  | .str x, .str y => .ok (.bl (subIn x y != neg)) M
  | _, _ => .stuck
def inP (neg : Bool) (d e : D) (M : MS) : Res D := match pyD M d, pyD M e with
  | some p, some (.list qs) => if SeqAt.shaped p = true ∧ SeqAt.shaped (.list qs) = true then .ok (.bl ((qs.any fun z => PyData.eqv z p) != neg)) M else .stuck
  | _, _ => .stuck
def inD (neg : Bool) : D → D → MS → Res D := fun d e M => if isS2 d e M = true then inS neg d e M else inP neg d e M
section
variable {X : Cx}
theorem opS_inS (neg : Bool) : OpS X (compareOp (if neg then .NotIn else .In)) (inS neg) := by
  cases neg with
  | false =>
    refine ⟨_, op_in_str, fun ro H M d e x y E Q R rx ry P => ?_⟩
    cases d <;> cases e <;> try exact P.elim
    rename_i a b
    cases (show x = V.str (tx a) from rx)
    cases (show y = V.str (tx b) from ry)
    exact ⟨_, _, rfl, rfl, by simpa [subIn] using PostD.pure (d := .bl (subIn a b != false)) R rfl P⟩
  | true =>
    refine ⟨_, op_notin_str, fun ro H M d e x y E Q R rx ry P => ?_⟩
    cases d <;> cases e <;> try exact P.elim
    rename_i a b
    cases (show x = V.str (tx a) from rx)
    cases (show y = V.str (tx b) from ry)
    exact ⟨_, _, rfl, rfl, by simpa [subIn] using PostD.pure (d := .bl (subIn a b != true)) R rfl P⟩
theorem opS_inP (neg : Bool) (hu : X.A.units + 65 < cLine) : OpS X (compareOp (if neg then .NotIn else .In)) (inP neg) := by
  cases neg with
  | false =>
    refine ⟨_, op_inD hu, fun ro H M d e x y E Q R rx ry P => ?_⟩
    unfold inP at P
    split at P
    · rename_i p q h1 h2
      split at P
      · rename_i hs
        exact ⟨p, q, dp_of R 30 d x p h1 rx, dp_of R 30 e y _ h2 ry, hs.1, hs.2, by simpa using PostD.pure (d := .bl ((q.any fun z => PyData.eqv z p) != false)) R rfl P⟩
      · exact P.elim
    · exact P.elim
  | true =>
    refine ⟨_, op_notInD hu, fun ro H M d e x y E Q R rx ry P => ?_⟩
    unfold inP at P
    split at P
    · rename_i p q h1 h2
      split at P
      · rename_i hs
        exact ⟨p, q, dp_of R 30 d x p h1 rx, dp_of R 30 e y _ h2 ry, hs.1, hs.2, by simpa using PostD.pure (d := .bl ((q.any fun z => PyData.eqv z p) != true)) R rfl P⟩
      · exact P.elim
    · exact P.elim
theorem opS_in (hu : X.A.units + 65 < cLine) : OpS X (compareOp .In) (inD false) := OpS.or (opS_inS false) (opS_inP false hu) isS2
theorem opS_notIn (hu : X.A.units + 65 < cLine) : OpS X (compareOp .NotIn) (inD true) := OpS.or (opS_inS true) (opS_inP true hu) isS2
end
def isIns (M : MS) (C : String) : D → Bool
  | .obj C' _ _ => decide (C' = C)
  | .cell n => match M[n]? with
    | some (.obj C' _ _) => decide (C' = C)
    | _ => false
  | _ => false
section
variable {X : Cx} {k : Nat} {f c : Addr} {fd : FuncData} {ps : List Str} {F : FM}
theorem ins_is {K : PySem.W.Frag} {mg : Str → Option Value} {ro : Pl} {H : Hp} {M : MS} {C : String} (R : RelS K mg ro M H) {d : D} {v : V} (r : Rep K mg ro H d v) (h : isIns M C d = true) : ∃ a c dx gs, v = .ref a ∧ mg (Str.ofString C) = some (.ref c) ∧ H a = some (.ins c dx gs) := by
  cases d with
  | obj C' ns ds =>
    obtain rfl : C' = C := of_decide_eq_true h
    obtain ⟨a, c', dx, vs, rfl, hmg, hH, _, _, rs⟩ := r
    exact ⟨a, c', dx, _, rfl, hmg, hH⟩
  | cell n =>
    have h : (match M[n]? with | some (.obj C' _ _) => decide (C' = C) | _ => false) = true := h
    cases hm : M[n]? with
    | none => rw [hm] at h; cases h
    | some mo =>
      rw [hm] at h
      cases mo with
      | obj C' ns ds =>
        obtain rfl : C' = C := of_decide_eq_true h
        obtain ⟨a, ho, rfl, _, hH, c', dx, vs, rfl, hmg, _, rs⟩ := R.cellAt r hm
        exact ⟨a, c', dx, _, rfl, hmg, hH⟩
      | _ => cases h
  | _ => cases h
theorem Post.noE {A B : Type} {R : Pl → Hp → A → B → Prop} {K : PySem.W.Frag} {mg : Str → Option Value} {E E' : XK} {ro : Pl} {H : Hp} {Q : B → Hp → Prop} {x : Res A} (h : Post R K mg E ro H Q x.ne) : Post R K mg E' ro H Q x := by
  cases x with
  | ok a M => exact h
  | exc C ns ds M => exact h.elim
  | stuck => exact h.elim
/-- e in o, o's class has its own __contains__ -/
def inO (C : String) (F : FM) (neg : Bool) (d e : D) (M : MS) : Res D := if isIns M C e = true then (F [e, d] M).ne.bind fun r M1 => match r with
  | .bl b => .ok (.bl (b != neg)) M1
  | _ => .stuck else .stuck
theorem truthy_bl {M : Model} {A : Around} {E : Value → Shared → Prop} {s : Shared} {b : Bool} {Q : Bool → Shared → Prop} (h : Q b s) : wpAny M A (truthy (.bool b)) Q E s := by
  unfold truthy
  exact wpAny_pure h
theorem opS_inO {C : String} (neg : Bool) (hc : X.mg (Str.ofString C) = some (.ref c)) (hs : PySem.W.findIn X.K (.ref c) "__contains__" = some (some (.ref f))) (hf : PySem.W.isFn X.K (.ref f) = true) (hb : Binds X.K fd ps []) (hF : DOk X.prog X.w X.K X.mg X.base k f fd ps F)
    (hr : Room k X.A) (hps : ps.length = 2 := by rfl) : OpS X (compareOp (if neg then .NotIn else .In)) (inO C F neg) := by
  refine ⟨fun x y H Q => ∃ ro M d e, RelS X.K X.mg ro M H ∧ Rep X.K X.mg ro H d x ∧ Rep X.K X.mg ro H e y ∧ PostD X.K X.mg (fun _ _ _ => False) ro H Q (inO C F neg d e M), ?_, fun ro H M d e x y E Q R rx ry P => ⟨ro, M, d, e, R, rx, ry, ?_⟩⟩
  · rintro pins s σ H x y v u Q I rx ry ⟨ro, M, d, e, R, qx, qy, P⟩
    unfold inO at P
    split at P
    · rename_i hi
      obtain ⟨a, c', dx, gs, rfl, hmg, hH⟩ := ins_is R qy hi
      rw [hc] at hmg; cases hmg
      obtain rfl : u = Value.ref a := ry
      obtain ⟨mA, J, _⟩ := ins_get I.hok hH
      obtain ⟨od, J, _⟩ := J.look
      obtain ⟨m, hFr⟩ := I.fr
      have r2 : Vals [V.ref a, x] [Value.ref a, v] := .cons rfl (.cons rx .nil)
      have rs : Reps X.K X.mg ro H [e, d] [V.ref a, x] := ⟨_, _, rfl, qy, Reps.one qx⟩
      have P2 : PostD X.K X.mg (fun _ _ _ => False) ro H (fun z H' => ∃ b, z = .bl b ∧ Q (.bl (b != neg)) H') (F [e, d] M) := by
        refine (Post.noE (E := fun _ _ _ => False) ?_)
        cases eF : F [e, d] M with
        | stuck => rw [eF] at P; exact P
        | exc C' ns es M' => rw [eF] at P; exact P.elim
        | ok r M' =>
          rw [eF, Res.ne_ok, Res.bind_ok] at P
          cases r with
          | bl b =>
            intro ro' H' z R' P' rz
            cases (show z = V.bl b from rz)
            exact ⟨b, rfl, P ro' H' _ R' P' rfl⟩
          | _ => exact P.elim
      have core : wpAny (model X.prog X.w) X.A (call (.ref f) [.ref a, v]) (EP X pins σ fun z H' => ∃ b, z = .bl b ∧ Q (.bl (b != neg)) H') X.xe s :=
        run_DA (W := W0) (args := ⟨[.ref a, v], []⟩) (us := [.ref a, v]) hF rfl hr takes0 (by
          have := hb s [.ref a, v] I.kIn (by simp [hps])
          simpa using this) I r2 R rs (by rw [hps]; rfl) P2
      cases neg with
      | false =>
        refine PySem.W.in_K hFr I.ok.mod.kin J hs hf (wpAny_mono core (fun r s' ⟨z, H', I', rz, b, ez, q⟩ => ?_) fun _ _ x => x)
        subst ez
        cases (show r = Value.bool b from rz)
        exact truthy_bl ⟨.bl b, H', I', rfl, by simpa using q⟩
      | true =>
        refine PySem.W.notIn_K hFr I.ok.mod.kin J hs hf (wpAny_mono core (fun r s' ⟨z, H', I', rz, b, ez, q⟩ => ?_) fun _ _ x => x)
        subst ez
        cases (show r = Value.bool b from rz)
        exact truthy_bl ⟨.bl (!b), H', I', rfl, by simpa using q⟩
    · exact P.elim
  · unfold inO at P ⊢
    split
    · rename_i hi
      rw [if_pos hi] at P
      cases eF : F [e, d] M with
      | stuck => rw [eF] at P; exact P
      | exc C' ns es M' => rw [eF] at P; exact P
      | ok r M' =>
        rw [eF] at P
        rw [Res.ne_ok, Res.bind_ok] at P ⊢
        cases r <;> exact P
    · rename_i hi
      rw [if_neg hi] at P; exact P
end
end DL
namespace DL
open PySem PySem.Spec L2
open PyProof.Rows hiding St
inductive TN where
  | b (n : String)
  | c (C : String)
def tnD (M : MS) : D → Option TN
  | .non => some (.b "NoneType")
  | .bl _ => some (.b "bool")
  | .int _ => some (.b "int")
  | .str _ => some (.b "str")
  | .tup _ => some (.b "tuple")
  | .lst _ => some (.b "list")
  | .flst _ => some (.b "list")
  | .dic _ _ => some (.b "dict")
  | .obj C _ _ => some (.c C)
  | .cell k => match M[k]? with
    | some (.lst _) => some (.b "list")
    | some (.dic _ _) => some (.b "dict")
    | some (.obj C _ _) => some (.c C)
    | some (.tab ..) => none
    | none => none
  | _ => none
def tnC : D → Option TN
  | .ty n => some (.b n)
  | .glo C => some (.c C)
  | _ => none
def TNv (mg : Str → Option Value) : TN → Value → Prop
  | .b n, v => v = .type n
  | .c C, v => ∃ c, mg (Str.ofString C) = some (.ref c) ∧ v = .ref c
/-- what isinstance asks of an own class -/
structure IsC (K : PySem.W.Frag) (C : Addr) : Prop where
  cl : Cls K C
  ha : PySem.W.findIn K (.ref C) "__class__" = some (some (.builtin "object.__class__"))
  hn : PySem.W.specialIn K (.builtin "object.__class__") "__get__" = some (some (.builtin "getset_descriptor.__get__"))
  htk : PySem.W.takesIn K (.builtin "object.__class__") = some true
  hm : PySem.W.mroIn K C (.type "object") = some true
def okTN (cs : List String) : TN → Bool
  | .c C => decide (C ∈ cs)
  | .b _ => true
def isiF (cs : List String) (tbl : TN → TN → Option Bool) (ds : List D) (M : MS) : Res D := match ds with
  | [d, t] => (match tnD M d, tnC t with
    | some a, some b => if okTN cs a = true then (match tbl a b with
      | some k => .ok (.bl k) M
      | none => .stuck) else .stuck
    | _, _ => .stuck)
  | _ => .stuck
/-- two built-in types -/
def tblB : TN → TN → Option Bool
  | .b a, .b n => kitB a n
  | _, _ => none
structure TblOk (K : PySem.W.Frag) (mg : Str → Option Value) (tbl : TN → TN → Option Bool) : Prop where
  ok : ∀ a b k, tbl a b = some k → ∃ u, TNv mg b u ∧ ∀ t, TNv mg a t → PySem.W.kitOne K t u = some k
theorem tblB_ok {K : PySem.W.Frag} {mg : Str → Option Value} : TblOk K mg tblB := ⟨fun a b k h => by
  cases a <;> cases b <;> try cases h
  exact ⟨_, rfl, fun t ht => by cases ht; exact kit_ty h⟩⟩
section
variable {X : Cx}
theorem rd_tyL {H : Hp} {K : PySem.W.Frag} {a : Addr} {vs : List V} (h : Rd H a (.lst vs)) : TyX K H (.ref a) (.type "list") := by
  rcases h with h | ⟨o, h⟩
  · exact .base (.lst h)
  · exact .base (.frz h)
theorem ty_of {K : PySem.W.Frag} {mg : Str → Option Value} {ro : Pl} {H : Hp} {M : MS} {cs : List String} (hcs : ∀ C c, C ∈ cs → mg (Str.ofString C) = some (.ref c) → IsC K c) (R : RelS K mg ro M H) {d : D} {v : V} (r : Rep K mg ro H d v) {a : TN} (h : tnD M d = some a)
    (hc : okTN cs a = true) : ∃ t, TyX K H v t ∧ TNv mg a t := by
  have ins : ∀ {C : String} {x c dx : Addr} {gs : List (Str × V)}, C ∈ cs → mg (Str.ofString C) = some (.ref c) → H x = some (.ins c dx gs) → ∃ t, TyX K H (.ref x) t ∧ TNv mg (.c C) t := fun {C x c dx gs} hC hmg hH => by
    have i := hcs C c hC hmg
    exact ⟨.ref c, .base (.ins hH i.cl i.ha i.hn i.htk i.hm), c, hmg, rfl⟩
  cases d with
  | non => cases h; cases (show v = V.non from r); exact ⟨_, .base .non, rfl⟩
  | bl b => cases h; cases (show v = V.bl b from r); exact ⟨_, .base (.bl _), rfl⟩
  | int i => cases h; cases (show v = V.int i from r); exact ⟨_, .base (.int _), rfl⟩
  | str x => cases h; cases (show v = V.str (tx x) from r); exact ⟨_, .base (.str _), rfl⟩
  | tup ds =>
    cases h
    obtain ⟨p, vs, rfl, q, rs⟩ := r
    rcases q with ⟨q, _⟩ | ⟨o, its, n, e1, e2, e3⟩
    · rcases q with q | ⟨o, q⟩
      · exact ⟨_, .base (.tup q), rfl⟩
      · exact ⟨_, .fTuple q, rfl⟩
    · exact ⟨_, .kTuple e1 e2, rfl⟩
  | lst ds =>
    cases h
    obtain ⟨p, vs, rfl, q, _, rs⟩ := r
    exact ⟨_, .base (.lst q), rfl⟩
  | flst ds =>
    cases h
    obtain ⟨p, vs, rfl, q, rs⟩ := r
    rcases q with ⟨q, _⟩ | ⟨o, its, n, e1, e2, e3⟩
    · exact ⟨_, rd_tyL q, rfl⟩
    · exact ⟨_, .kList e1 e2, rfl⟩
  | dic ks ds =>
    cases h
    obtain ⟨p, kl, vs, rfl, g, l, q, _, rs⟩ := r
    exact ⟨_, .base (.dK q), rfl⟩
  | obj C ns ds =>
    cases h
    obtain ⟨p, c, dx, vs, rfl, g, q, _, l, rs⟩ := r
    exact ins (of_decide_eq_true hc) g q
  | cell k =>
    have h : (match M[k]? with | some (.lst _) => some (TN.b "list") | some (.dic _ _) => some (.b "dict") | some (.obj C _ _) => some (.c C) | some (.tab ..) => none | none => none) = some a := h
    cases hm : M[k]? with
    | none => rw [hm] at h; cases h
    | some mo =>
      rw [hm] at h
      obtain ⟨p, ho, rfl, _, hH, m⟩ := R.cellAt r hm
      cases mo with
      | lst ds => cases h; obtain ⟨vs, rfl, _⟩ := m; exact ⟨_, .base (.lst hH), rfl⟩
      | dic ks ds => cases h; obtain ⟨kl, vs, rfl, _⟩ := m; exact ⟨_, .base (.dK hH), rfl⟩
      | obj C ns ds => cases h; obtain ⟨c, dx, vs, rfl, g, _⟩ := m; exact ins (of_decide_eq_true hc) g hH
      | tab i C m => cases h
  | _ => cases h
theorem cls_of {K : PySem.W.Frag} {mg : Str → Option Value} {ro : Pl} {H : Hp} {d : D} {v : V} (r : Rep K mg ro H d v) {b : TN} (h : tnC d = some b) {u : Value} (hu : TNv mg b u) : ClsV v u := by
  cases d with
  | ty n => cases h; cases (show v = V.ty n from r); cases (show u = .type n from hu); exact .ty n
  | glo C =>
    cases h
    obtain ⟨a, rfl, e⟩ := r
    obtain ⟨c, e', rfl⟩ := hu
    rw [e] at e'; cases e'
    exact .own a
  | _ => cases h
theorem callS_isi {cs : List String} {tbl : TN → TN → Option Bool} (hcs : ∀ C c, C ∈ cs → X.mg (Str.ofString C) = some (.ref c) → IsC X.K c) (ht : TblOk X.K X.mg tbl) : CallS X (.builtin "isinstance") (isiF cs tbl) := by
  refine ⟨_, call_isi, fun ro H M ds xs E Q R rs P => ?_⟩
  unfold isiF at P
  split at P
  · rename_i d t
    obtain ⟨x, y, rfl, rx, ry⟩ := reps2 rs
    split at P
    · rename_i a b h1 h2
      split at P
      · rename_i hc
        split at P
        · rename_i k hk
          obtain ⟨u, hu, hkit⟩ := ht.ok a b k hk
          obtain ⟨t', ty, tn⟩ := ty_of hcs R rx h1 hc
          exact ⟨x, y, t', u, k, rfl, cls_of ry h2 hu, ty, hkit t' tn, PostD.pure (d := .bl k) R rfl P⟩
        · exact P.elim
      · exact P.elim
    · exact P.elim
  · exact P.elim
theorem callS_isiB : CallS X (.builtin "isinstance") (isiF [] tblB) := callS_isi (fun C c h => by cases h) tblB_ok
/-- a built-in type, a built-in function as a value -/
theorem de_ty {W : WX} {x : Str} {pos : Pos} {T : String} (hg : Gl X x) (hm : X.mg x = none) (hv : bootBuiltins x = some (.type T)) (hn : x ≠ "__name__" := by decide) (hd : (x == ("__debug__" : Str)) = false := by decide) : DE X W (.Name x pos) (constE (.ty T)) :=
  de_constV (pe_bltn (v := .ty T) hg hm hv rfl hn hd) fun _ _ => rfl
end
def tyvD (M : MS) (T : String) : D → Bool
  | .str _ => decide (T = "str")
  | .int _ => decide (T = "int")
  | .lst _ => decide (T = "list")
  | .flst _ => decide (T = "list")
  | .dic _ _ => decide (T = "dict")
  | .cell k => match M[k]? with
    | some (.lst _) => decide (T = "list")
    | some (.dic _ _) => decide (T = "dict")
    | _ => false
  | _ => false
def bmE (T : String) (f : D → List D → MS → Res D) (mo : ME) (ma : MA) : ME := fun sd M => (mo sd M).bind fun d M1 => if tyvD M1 T d = true then (ma sd M1).bind fun ds M2 => f d ds M2 else .stuck
section
variable {X : Cx} {W : WX} {o e : Expr} {es : List Expr} {mo : ME} {ma : MA} {name : Str} {apos cpos : Pos} {T id : String} {f : D → List D → MS → Res D}
theorem tyv_of {K : PySem.W.Frag} {mg : Str → Option Value} {ro : Pl} {H : Hp} {M : MS} (R : RelS K mg ro M H) {d : D} {v : V} (r : Rep K mg ro H d v) (h : tyvD M T d = true) : tyV K T v H := by
  cases d with
  | str x =>
    cases (show v = V.str (tx x) from r)
    have h : T = "str" := of_decide_eq_true h
    exact h
  | int i =>
    cases (show v = V.int i from r)
    have h : T = "int" := of_decide_eq_true h
    exact h
  | lst ds =>
    obtain ⟨p, vs, rfl, q, _, rs⟩ := r
    exact .inl ⟨of_decide_eq_true h, vs, SqL.of q⟩
  | flst ds =>
    obtain ⟨p, vs, rfl, q, rs⟩ := r
    exact .inl ⟨of_decide_eq_true h, vs, q.sq⟩
  | dic ks ds =>
    obtain ⟨p, kl, vs, rfl, g, l, q, _, rs⟩ := r
    exact .inr (.inr (.inl ⟨of_decide_eq_true h, .inl ⟨_, q⟩⟩))
  | cell k =>
    have h : (match M[k]? with | some (.lst _) => decide (T = "list") | some (.dic _ _) => decide (T = "dict") | _ => false) = true := h
    cases hm : M[k]? with
    | none => rw [hm] at h; cases h
    | some mo =>
      rw [hm] at h
      obtain ⟨p, ho, rfl, _, hH, m⟩ := R.cellAt r hm
      cases mo with
      | lst ds => obtain ⟨vs, rfl, _⟩ := m; exact .inl ⟨of_decide_eq_true h, vs, SqL.of hH⟩
      | dic ks ds => obtain ⟨kl, vs, rfl, _⟩ := m; exact .inr (.inr (.inl ⟨of_decide_eq_true h, .inl ⟨_, hH⟩⟩))
      | obj C ns ds => cases h
      | tab i C m => cases h
  | _ => cases h
theorem de_bm (hf : MtS X T id f) (pa : PlainAttrs T) (slot : Slot T name id) (hty : typeOf (.builtin id) = pure (.type "method_descriptor")) (ho : DE X W o mo) (ha : DA X W (e :: es) ma)
    (hbase : attributeBase o name X.env (eval o X.env) = eval o X.env := by rfl)
    (hfew : ((backTo cpos (starEach (e :: es) X.env)).all (fun x => !x.1) && (backToKw cpos (keywordEach [] X.env)).all (fun x => x.1.isSome)
      && decide ((e :: es).length + ([] : List Keyword).length + (if ([] : List Keyword).isEmpty then 0 else 1) < 30)) = true := by rfl)
    (hline : (apos.endLine == cpos.line) = true := by rfl) (hs : starEach (e :: es) X.env = (false, eval e X.env) :: starEach es X.env := by rfl) (hplain : (backTo cpos (starEach es X.env)).any (·.1) = false := by rfl) :
    DE X W (.Call (.Attribute o name apos) (e :: es) [] cpos) (bmE T f mo ma) := by
  obtain ⟨r, h1, h2⟩ := hf
  refine ⟨⟨fun pins s st H Q I q => (pe_bm pa slot hty h1 ho.pe ha.pa hbase hfew hline hs hplain).run pins s st H Q I ?_⟩⟩
  obtain ⟨ro, sd, M, R, S, P⟩ := q
  refine ⟨ro, sd, M, R, S, (Post.bind P).imp fun x H1 ⟨ro1, M1, d, R1, P1, r1, q1⟩ => ?_⟩
  split at q1
  · rename_i ht
    refine ⟨tyv_of R1 r1 ht, ro1, sd, M1, R1, S.mono P1, (Post.bind q1).imp fun xs H2 ⟨ro2, M2, ds, R2, P2, r2, q2⟩ => ?_⟩
    exact h2 ro2 H2 M2 d ds x xs _ Q R2 (Rep.mono P2 _ _ r1) r2 q2
  · exact q1.elim
end
def strsOf : List D → Option (List (List Nat))
  | [] => some []
  | .str x :: r => (strsOf r).map (x :: ·)
  | _ => none
theorem strsOf_eq : ∀ {ds : List D} {xs : List (List Nat)}, strsOf ds = some xs → ds = xs.map D.str
  | [], xs, h => by cases h; rfl
  | d :: ds, xs, h => by
    cases d with
    | str x =>
      have h : (strsOf ds).map (x :: ·) = some xs := h
      obtain ⟨ys, h1, rfl⟩ := Option.map_eq_some_iff.mp h
      rw [strsOf_eq h1]; rfl
    | _ => cases h
@[simp] theorem strsOf_map (xs : List (List Nat)) : strsOf (xs.map D.str) = some xs := by
  induction xs with
  | nil => rfl
  | cons x xs ih => simp [strsOf, ih]
def joinF (d : D) (ds : List D) (M : MS) : Res D := match d, ds with
  | .str a, [e] => (match (seqOf M e).bind strsOf with
    | some xs => if (xs.map List.length).sum + xs.length * a.length ≤ 1000000 then .ok (.str (TL.joinL a xs)) M else .stuck
    | none => .stuck)
  | _, _ => .stuck
def appendF (d : D) (ds : List D) (M : MS) : Res D := match d, ds with
  | .cell n, [e] => (match M[n]? with
    | some (.lst xs) => if xs.length < 1000000 then .ok .non (M.set n (.lst (xs ++ [e]))) else .stuck
    | _ => .stuck)
  | _, _ => .stuck
section
variable {X : Cx}
theorem mtS_join : MtS X "str" "str.join" joinF := by
  refine ⟨_, mt_join, fun ro H M d ds x xs E Q R r rs P => ?_⟩
  unfold joinF at P
  split at P
  · rename_i a e
    split at P
    · rename_i ys h
      split at P
      · rename_i hl
        cases (show x = V.str (tx a) from r)
        obtain ⟨v, rfl, rv⟩ := reps1 rs
        obtain ⟨es, h1, h2⟩ := Option.bind_eq_some_iff.mp h
        obtain ⟨p, vs, rfl, hq, q⟩ := seq_of R rv h1
        rw [strsOf_eq h2] at q
        have e := Reps.strs q
        subst e
        have e2 : Txt.join (tx a) (ys.map tx) = tx (TL.joinL a ys) := by
          have h3 := TL.tl_join (tx a) (ys.map tx)
          have h4 : TL.tl (tx a) = a := by unfold TL.tl; simp
          have h5 : (ys.map tx).map TL.tl = ys := by
            rw [List.map_map]
            conv => rhs; rw [← List.map_id ys]
            apply List.map_congr_left
            intro z _
            show TL.tl (tx z) = z
            unfold TL.tl; simp
          rw [h4, h5] at h3
          have h6 : ∀ z : Str, tx (TL.tl z) = z := fun z => by unfold TL.tl; simp [tx]
          rw [← h3, h6, TL.join_eq]
        refine ⟨tx a, p, ys.map tx, rfl, rfl, hq, ?_, ?_⟩
        · have e3 : (ys.map tx).map (fun z => z.length) = ys.map List.length := by
            rw [List.map_map]
            apply List.map_congr_left
            intro z _
            simp [Str.length]
          rw [e3, List.length_map]
          simp only [Str.length, List.size_toArray]
          omega
        · rw [e2]
          exact PostD.pure (d := .str (TL.joinL a ys)) R rfl P
      · exact P.elim
    · exact P.elim
  · exact P.elim
theorem mtS_append : MtS X "list" "list.append" appendF := by
  refine ⟨_, mt_append, fun ro H M d ds x xs E Q R r rs P => ?_⟩
  unfold appendF at P
  split at P
  · rename_i n e
    split at P
    · rename_i ys hm
      split at P
      · rename_i hl
        obtain ⟨v, rfl, rv⟩ := reps1 rs
        obtain ⟨a, ho, rfl, g, h, vs, rfl, q⟩ := R.cellAt r hm
        obtain ⟨R', P'⟩ := R.change (o := .lst (vs ++ [v])) (mo := .lst (ys ++ [e])) g ⟨_, rfl, q.append (Reps.one rv)⟩
        exact ⟨a, vs, v, rfl, rfl, h, by rw [← q.len]; exact line_lt hl, P ro _ _ R' P' rfl⟩
      · exact P.elim
    · exact P.elim
  · exact P.elim
end
section
variable {X : Cx} {W : WX} {e : Expr} {m : ME} {pos pos' : Pos} {x : Str} {op : Operator}
theorem iopS_addI : OpS X (inplaceOp .Add) addI := opS_int0 (k := fun i j => .int (i + j)) iop_add (fun _ _ _ _ => rfl) fun d e M h => by
  cases d <;> cases e <;> first | exact absurd rfl h | exact ⟨_, _, rfl, rfl, rfl⟩
theorem iopS_addS : OpS X (inplaceOp .Add) addS := by
  refine ⟨_, iop_add_str, fun ro H M d e x y E Q R rx ry P => ?_⟩
  cases d <;> cases e <;> try exact P.elim
  rename_i a b
  cases (show x = V.str (tx a) from rx)
  cases (show y = V.str (tx b) from ry)
  simp only [addS] at P
  split at P
  · rename_i hl
    refine ⟨_, _, rfl, rfl, by simp only [Str.length, List.size_toArray]; exact line_le hl, ?_⟩
    rw [Str.tx_append]
    exact PostD.pure (d := .str (a ++ b)) R rfl P
  · exact P.elim
def iaddD : D → D → MS → Res D := fun d e M => if isI2 d e M = true then addI d e M else addS d e M
theorem iopS_add : OpS X (inplaceOp .Add) iaddD := OpS.or iopS_addI iopS_addS isI2
theorem ds_aug {i : Nat} {f : D → D → MS → Res D} (ho : OpS X (inplaceOp op) f) (he : DE X W e m) (hN : X.N.Nodup) (hi : X.N[i]? = some x := by rfl) (hx : Loc X.env.scope x := by first | exact Or.inl rfl | exact Or.inr rfl)
    (hf : X.fn x = true ∨ X.env.scope.names.lookup x = some .local := by first | exact .inl rfl | exact .inr rfl | assumption) : DS X W (.AugAssign (.Name x pos') op e pos) (augS i f m) := by
  obtain ⟨r, h1, h2⟩ := ho
  refine ⟨⟨fun pins s st H D0 I q => (ps_aug hN hi hx he.pe h1 hf).run pins s st H D0 I ?_⟩⟩
  obtain ⟨ro, sd, M, R, S, P⟩ := q
  unfold augS nameE at P
  split at P
  · rename_i d e
    obtain ⟨v, e', rv⟩ := S.2 i d e
    have P : PostS X.K X.mg W ro H D0 (SRes.ofE (m sd M) sd fun y M2 => SRes.ofE (f d y M2) sd fun d M3 => .nx (sd.set i (some d)) M3) := P
    refine ⟨v, e', ro, sd, M, R, S, (PostS.ofE P S).imp fun y H1 ⟨ro1, M1, d', R1, P1, r1, q1⟩ => ?_⟩
    refine h2 ro1 H1 M1 d d' v y (fun c d H' => W c d st H') _ R1 (Rep.mono P1 _ _ rv) r1 ((PostS.ofE q1 (S.mono P1)).imp fun z H2 ⟨ro2, M2, g, R2, P2, r2, q2⟩ => ?_)
    exact q2 ro2 H2 _ R2 (Pres.refl _ _) (((S.mono P1).mono P2).set r2)
  · exact P.elim
end
section
variable {P : Program} {w : World} {K : PySem.W.Frag} {mg : Str → Option Value} {base : Heap}
abbrev FnP (K : PySem.W.Frag) (x qual : Str) (st : Stmt) (dvs : List V) (kws : List (Str × V)) (f : Addr) (fd : FuncData) : Prop := FunD K x qual (defArgs st) (defBody st) (defScope st) dvs kws f fd
theorem funD_ok {x qual : Str} {st : Stmt} {dvs : List V} {kws : List (Str × V)} {f : Addr} {fd : FuncData} {N ps : List Str} {k : Nat} {body : MST} (Fn : FnP K x qual st dvs kws f fd) (S : FnScope N ps (defScope st))
    (hbody : ∀ (cdv : Value) (A : Around) (outer : List Env) (s : Shared) (H : Hp) (E : XK), Room k (A.deeper (envOfC qual (defScope st) s.heap.objs.size f cdv)) →
      Ctx (cxOf (L2.CX P w) P w K mg base N qual (defScope st) f cdv A outer s H E) (fun cls d _ H' => E cls d H') →
      DSs (cxOf (L2.CX P w) P w K mg base N qual (defScope st) f cdv A outer s H E) (fun cls d _ H' => E cls d H') (defBody st) body) : DOk P w K mg base (k + 1) f fd ps (runD N.length body) := by
  refine Fn.ok S (fun vs H Q E h => h.1) fun cdv A outer s H vs Q E hr h => ?_
  obtain ⟨hl, ro, ds, M, R, rs, Po⟩ := h
  have hc : Ctx (cxOf (L2.CX P w) P w K mg base N qual (defScope st) f cdv A outer s H E) (fun cls d _ H' => E cls d H') := ⟨takes_of rfl rfl rfl rfl, passes_of rfl, rfl⟩
  refine ⟨_, (hbody cdv A outer s H E hr hc).ps, ro, startD N.length ds, M, R, repSt_start rs, ?_⟩
  unfold runD at Po
  cases e : body (startD N.length ds) M with
  | nx sd M' => rw [e] at Po; exact fun ro' H' st rs q r => Po ro' H' .non rs q rfl
  | ret d M' => rw [e] at Po; exact Po
  | exc C ns ds' sd M' => rw [e] at Po; exact fun ro' H' st cls dd rs q _ r => Po ro' H' cls dd rs q r
  | brk sd M' => rw [e] at Po; exact Po.elim
  | ct sd M' => rw [e] at Po; exact Po.elim
  | stuck => rw [e] at Po; exact Po
theorem DOk.imp {k : Nat} {f : Addr} {fd : FuncData} {ps : List Str} {F G : FM} (h : DOk P w K mg base k f fd ps F) (hG : ∀ (ro : Pl) (H : Hp) (E : XK) (Q : VK) (ds : List D) (M : MS), RelS K mg ro M H → PostD K mg E ro H Q (G ds M) → PostD K mg E ro H Q (F ds M)) : DOk P w K mg base k f fd ps G :=
  FnOk.imp h fun vs H Q E ⟨hl, ro, ds, M, R, rs, Po⟩ => ⟨hl, ro, ds, M, R, rs, hG ro H E Q ds M R Po⟩
/-- its new changeable places are written out at its end -/
noncomputable def clF (F : FM) : FM := fun ds M => closeR M (F ds M)
theorem DOk.close {k : Nat} {f : Addr} {fd : FuncData} {ps : List Str} {F : FM} (h : DOk P w K mg base k f fd ps F) : DOk P w K mg base k f fd ps (clF F) := h.imp fun ro H E Q ds M R Po => Post.close R Po
/-- what fills up -/
abbrev DflK (K : PySem.W.Frag) (mg : Str → Option Value) (fd : FuncData) (ps : List Str) (dfl : List D) : Prop := ∃ (dvs : List V) (dV : List Value), Binds K fd ps dV ∧ Vals dvs dV ∧ ∀ ro H, Reps K mg ro H dfl dvs
theorem dflK_none {fd : FuncData} {ps : List Str} (h : Binds K fd ps []) : DflK K mg fd ps [] := ⟨[], [], h, .nil, fun _ _ => rfl⟩
theorem dflK_of {fd : FuncData} {ps : List Str} {dvs : List V} {dfl : List D} (h : ∃ ds, Vals dvs ds ∧ Binds K fd ps ds) (hd : ∀ ro H, Reps K mg ro H dfl dvs) : DflK K mg fd ps dfl := by
  obtain ⟨ds, h1, h2⟩ := h
  exact ⟨dvs, ds, h2, h1, hd⟩
end
end DL
namespace DL
open PySem PySem.Spec L2
open PyProof.Rows hiding St
section
variable {K : PySem.W.Frag} {mg : Str → Option Value}
theorem room65 {k : Nat} {A : Around} (r : Room k A) : A.units + 65 < cLine := by have := r.un; omega
abbrev KwBK (K : PySem.W.Frag) (mg : Str → Option Value) (fd : FuncData) (ps : List Str) (n : Nat) (ks : List Str) (gD : List D → List D → List D) : Prop :=
  ∃ (g : List Value → List Value → List Value) (gV : List V → List V → List V), KBn K fd ps n ks g gV ∧ ∀ ro H ds vs es zs, Reps K mg ro H ds vs → Reps K mg ro H es zs → Reps K mg ro H (gD ds es) (gV vs zs)
/-- no defaults: the positional ones, then the keywords' in their order -/
theorem kwB_plain {x qual : Str} {st : Stmt} {f : Addr} {fd : FuncData} {ps : List Str} (F : FnP K x qual st [] [] f fd) (n : Nat) (ks : List Str)
    (h : ∀ (kV doc pm : Value) (an : Option Addr) (cdv ct : Value) (us ws : List Value), us.length = n → ws.length = ks.length → bindArgs (PySem.W.fnOf x qual (defArgs st) (defBody st) (defScope st) .none kV doc pm an cdv ct) ⟨us, ks.zip ws⟩ = pure (ps.zip (us ++ ws))) : KwBK K mg fd ps n ks (· ++ ·) := by
  obtain ⟨oc, od, dV, kV, doc, pm, an, cdv, ct, osl, rfl, lk, hcd, hD, hK⟩ := F.ex
  rcases hD with ⟨_, rfl⟩ | ⟨e, _⟩
  · exact ⟨(· ++ ·), (· ++ ·), ⟨fun s us ws _ l1 l2 => .of_eq (h kV doc pm an cdv ct us ws l1 l2), fun r1 r2 => r1.append r2⟩, fun ro H ds vs es zs r1 r2 => r1.append r2⟩
  · exact absurd rfl e
theorem fnP_mk {x qual : Str} {st : Stmt} {f : Addr} {oc : Value} {od an : Option Addr} {osl : Array (Option Value)} {kV doc pm cdv ct : Value} (l : K.lookup f = some ⟨oc, od, .func (PySem.W.fnOf x qual (defArgs st) (defBody st) (defScope st) .none kV doc pm an cdv ct), osl⟩)
    (c : PySem.W.codeIn K cdv qual = true) (k : PySem.W.keepIn K (.ref f) = true) : FnP K x qual st [] [] f (PySem.W.fnOf x qual (defArgs st) (defBody st) (defScope st) .none kV doc pm an cdv ct) := ⟨⟨oc, od, .none, kV, doc, pm, an, cdv, ct, osl, rfl, l, c, .inl ⟨rfl, rfl⟩, .inl rfl⟩, k⟩
theorem fnP_mkD {x qual : Str} {st : Stmt} {f T : Addr} {o : Obj} {its : List Value} {n : Nat} {dvs : List V} {oc : Value} {od an : Option Addr} {osl : Array (Option Value)} {kV doc pm cdv ct : Value} (l : K.lookup f = some ⟨oc, od, .func (PySem.W.fnOf x qual (defArgs st) (defBody st) (defScope st) (.ref T) kV doc pm an cdv ct), osl⟩)
    (c : PySem.W.codeIn K cdv qual = true) (k : PySem.W.keepIn K (.ref f) = true) (hT : K.lookup T = some o) (hd : o.data = .seq its.toArray n) (hv : Vals dvs its) (hn : dvs ≠ []) : FnP K x qual st dvs [] f (PySem.W.fnOf x qual (defArgs st) (defBody st) (defScope st) (.ref T) kV doc pm an cdv ct) := ⟨⟨oc, od, .ref T, kV, doc, pm, an, cdv, ct, osl, rfl, l, c, .inr ⟨hn, T, o, its, n, rfl, hT, hd, hv⟩, .inl rfl⟩, k⟩
theorem de_gstr' {X : Cx} {W : WX} {pos : Pos} {x : Str} {s : String} (hm : ∃ t, X.mg x = some (.str (Str.ofString s) t)) (hg : Gl X x) (hd : (x == ("__debug__" : Str)) = false := by decide) : DE X W (.Name x pos) (constE (.str (sL s))) := by
  obtain ⟨t, hm⟩ := hm
  exact de_gstr hg hm hd
theorem de_gint' {X : Cx} {W : WX} {pos : Pos} {x : Str} {i : Int} (hm : ∃ t, X.mg x = some (.int i t)) (hg : Gl X x) (hd : (x == ("__debug__" : Str)) = false := by decide) : DE X W (.Name x pos) (constE (.int i)) := by
  obtain ⟨t, hm⟩ := hm
  exact de_gint hg hm hd
/-- the law's promise -/
def spLaw (K : PySem.W.Frag) : Sp := fun vs H Q _ => ∃ (a : Addr) (ns : List Int), vs = [.ref a] ∧ SqL K H a (ns.map V.int) ∧ ns.length ≤ 63 ∧ ∀ H', Q (.bl true) H'
theorem reps_ints {ro : Pl} {H : Hp} : ∀ ns : List Int, Reps K mg ro H (ns.map D.int) (ns.map V.int)
  | [] => rfl
  | n :: ns => ⟨_, _, rfl, rfl, reps_ints ns⟩
theorem dok_law {P : Program} {w : World} {base : Heap} {k : Nat} {f : Addr} {fd : FuncData} {x : Str} {F : FM} (h : DOk P w K mg base k f fd [x] F) (hlaw : ∀ ns : List Int, ns.length ≤ 63 → ∃ M', F [.flst (ns.map D.int)] [] = .ok (.bl true) M') : FnOk P w K mg base (L2.CX P w) k f fd [x] (spLaw K) :=
  FnOk.imp h fun vs H Q E ⟨a, ns, hv, hS, hl, q⟩ => by
    subst hv
    obtain ⟨M', e⟩ := hlaw ns hl
    refine ⟨rfl, ⟨[], []⟩, [.flst (ns.map D.int)], [], ⟨rfl, List.nodup_nil, fun a h => (by cases h), fun a h => (by cases h), fun i mo a h => (by simp at h)⟩, ?_, ?_⟩
    · refine Reps.one ⟨a, ns.map V.int, rfl, ?_, reps_ints ns⟩
      rcases hS with hS | ⟨o, its, n, h1, h2, h3, h4, h5, h6⟩
      · exact .inl ⟨hS, by simp [Pl.all]⟩
      · exact .inr ⟨o, its, n, h1, h2, h3, h4, h5, h6⟩
    · rw [e]
      intro ro' H' v _ _ r
      cases (show v = V.bl true from r)
      exact q H'
end
theorem walkD {l : PySem.W.OpenLaw} {q : Program} {loose : List Str} {XP : (Str → Option Value) → Heap → Prop} {YP : World → Heap → Prop} {d : DefRec} {K : Params → PySem.W.Frag} (x : Str) (k : Nat) (hn : l.most = some 63) (hdf : d.params.defaults = []) (hk : Room k callerA)
    (hY : ∀ (w : World) (h : Heap), YP w h → (K w.params).In h)
    (F : ∀ (w : World) (mg : Str → Option Value) (fa : Addr) (h : Heap), (K w.params).In h → h.Ns mainGlobals mg → mg d.name = some (.ref fa) →
      ∃ fd : FuncData, (∀ (s : Shared) (u : Value), BindsTo s fd ⟨[u], []⟩ [(x, u)]) ∧ ∀ base : Heap, (K w.params).In base → base.Ns mainGlobals mg → FnOk l.prog w (K w.params) mg base (L2.CX l.prog w) k fa fd [x] (spLaw (K w.params))) :
    PySem.W.WalkO q loose XP YP l.row.toRowW d [] (fun f vs => PySem.call f vs) :=
  L2.walk_of (n := 63) (k := k) (x := x) (CX := fun w => L2.CX l.prog w) (sp := fun w => spLaw (K w.params)) hn (by decide) hdf hk hY F (fun _ _ a ns hl _ hS => ⟨a, ns, rfl, hS, hl, fun _ => rfl⟩) fun _ _ _ _ _ ⟨_, _, _, _, _, _, _, _, _, _, _, _, z⟩ => z
end DL
namespace DL
open PySem PySem.Spec L2
open PyProof.Rows hiding St
theorem na_nil {K : PySem.W.Frag} {c : Addr} : ∀ f, f ∈ ([] : List String) → NoAttr K c (Str.ofString f) := fun f h => by cases h
theorem na_cons {K : PySem.W.Frag} {c : Addr} {a : String} {as : List String} (h : NoAttr K c (Str.ofString a)) (r : ∀ f, f ∈ as → NoAttr K c (Str.ofString f)) : ∀ f, f ∈ a :: as → NoAttr K c (Str.ofString f) := fun f hf => by
  rcases List.mem_cons.mp hf with e | hf
  · rw [e]; exact h
  · exact r f hf
theorem fs_nil {K : PySem.W.Frag} {mg : Str → Option Value} {a : String} : ∀ C, C ∈ ([] : List String) → ∃ c fs, CInfo K mg C c fs ∧ a ∈ fs := fun f h => by cases h
theorem fs_cons {K : PySem.W.Frag} {mg : Str → Option Value} {a B : String} {b : Addr} {fs : List String} {Cs : List String} (h : CInfo K mg B b fs) (m : a ∈ fs) (r : ∀ C, C ∈ Cs → ∃ c fs, CInfo K mg C c fs ∧ a ∈ fs) : ∀ C, C ∈ B :: Cs → ∃ c fs, CInfo K mg C c fs ∧ a ∈ fs := fun f hf => by
  rcases List.mem_cons.mp hf with e | hf
  · rw [e]; exact ⟨b, fs, h, m⟩
  · exact r f hf
end DL
namespace DL
open PySem PySem.Spec L2
open PyProof.Rows hiding St
section
variable {sd : SD} {M : MS} {a b : ME} {ta tb tc : MB} {sa sb : MST} {ms mk : MA} {f : D → D → MS → Res D} {d e : D} {ds es : List D}
def setK (sd : SD) (i : Nat) : D → MS → SRes := fun d M1 => .nx (sd.set i (some d)) M1
def exprK (sd : SD) : D → MS → SRes := fun _ M1 => .nx sd M1
def retK : D → MS → SRes := fun d M1 => .ret d M1
def ifK (sa sb : MST) (sd : SD) : Bool → MS → SRes := fun k M1 => if k = true then sa sd M1 else sb sd M1
def putK1 (mo mi : ME) (sd : SD) : D → MS → SRes := fun v M1 => SRes.ofE (mo sd M1) sd fun o M2 => SRes.ofE (mi sd M2) sd fun i M3 => match setItemD M3 o i v with
  | some M4 => .nx sd M4
  | none => .stuck
def putK2 (mi : ME) (sd : SD) (v : D) : D → MS → SRes := fun o M2 => SRes.ofE (mi sd M2) sd fun i M3 => match setItemD M3 o i v with
  | some M4 => .nx sd M4
  | none => .stuck
def putK3 (sd : SD) (v o : D) : D → MS → SRes := fun i M3 => match setItemD M3 o i v with
  | some M4 => .nx sd M4
  | none => .stuck
def augK1 (sd : SD) (i : Nat) (f : D → D → MS → Res D) (a : ME) : D → MS → SRes := fun x M1 => SRes.ofE (a sd M1) sd fun y M2 => SRes.ofE (f x y M2) sd fun d M3 => .nx (sd.set i (some d)) M3
def augK2 (sd : SD) (i : Nat) (f : D → D → MS → Res D) (x : D) : D → MS → SRes := fun y M2 => SRes.ofE (f x y M2) sd fun d M3 => .nx (sd.set i (some d)) M3
noncomputable def forK (g : MG) (sb : MST) (sd : SD) : ItD → MS → SRes := fun i M1 => forGo i.chk g sb i.ds sd M1
def binK (f : D → D → MS → Res D) (b : ME) (sd : SD) : D → MS → Res D := fun d M1 => (b sd M1).bind fun e M2 => f d e M2
def binK2 (f : D → D → MS → Res D) (d : D) : D → MS → Res D := fun e M2 => f d e M2
def andK (b : ME) (sd : SD) : D → MS → Res D := fun d M1 => match d with
  | .bl true => b sd M1
  | .bl false => .ok (.bl false) M1
  | _ => .stuck
def orK (b : ME) (sd : SD) : D → MS → Res D := fun d M1 => match d with
  | .bl true => .ok (.bl true) M1
  | .bl false => b sd M1
  | _ => .stuck
def notK : D → MS → Res D := fun d M1 => match d with
  | .bl c => .ok (.bl (!c)) M1
  | _ => .stuck
def ifEK (a b : ME) (sd : SD) : Bool → MS → Res D := fun k M1 => if k = true then a sd M1 else b sd M1
def valK : D → MS → Res Bool := fun d M1 => match d with
  | .bl c => .ok c M1
  | _ => .stuck
def truK : D → MS → Res Bool := fun d M1 => match truD M1 d with
  | some c => .ok c M1
  | none => .stuck
def andBK (tb : MB) (sd : SD) : Bool → MS → Res Bool := fun c M1 => if c = true then tb sd M1 else .ok false M1
def orBK (tb : MB) (sd : SD) : Bool → MS → Res Bool := fun c M1 => if c = true then .ok true M1 else tb sd M1
def notBK : Bool → MS → Res Bool := fun c M1 => .ok (!c) M1
def consK (ms : MA) (sd : SD) : D → MS → Res (List D) := fun d M1 => (ms sd M1).bind fun ds M2 => .ok (d :: ds) M2
def consK2 (d : D) : List D → MS → Res (List D) := fun ds M2 => .ok (d :: ds) M2
def tupK : List D → MS → Res D := fun ds M1 => if ds.length ≤ 1000000 then .ok (.tup ds) M1 else .stuck
def lstK : List D → MS → Res D := fun ds M1 => if ds.length ≤ 1000000 then .ok (.lst ds) M1 else .stuck
def celK : List D → MS → Res D := fun ds M1 => if ds.length ≤ 1000000 then .ok (.cell M1.length) (M1 ++ [.lst ds]) else .stuck
def callK (n : Nat) (F : FM) (g : List D → List D) : List D → MS → Res D := fun ds M1 => if (g ds).length = n then F (g ds) M1 else .stuck
def callKK (n np nk : Nat) (F : FM) (g : List D → List D → List D) (mk : MA) (sd : SD) : List D → MS → Res D := fun ds M1 => (mk sd M1).bind fun es M2 => if ds.length = np ∧ es.length = nk ∧ (g ds es).length = n then F (g ds es) M2 else .stuck
def callKK2 (n np nk : Nat) (F : FM) (g : List D → List D → List D) (ds : List D) : List D → MS → Res D := fun es M2 => if ds.length = np ∧ es.length = nk ∧ (g ds es).length = n then F (g ds es) M2 else .stuck
def bmK (T : String) (f : D → List D → MS → Res D) (ms : MA) (sd : SD) : D → MS → Res D := fun d M1 => if tyvD M1 T d = true then (ms sd M1).bind fun ds M2 => f d ds M2 else .stuck
def bmK2 (f : D → List D → MS → Res D) (d : D) : List D → MS → Res D := fun ds M2 => f d ds M2
def methK (C m : String) (n : Nat) (F : FM) (g : List D → List D) (ms : MA) (sd : SD) : D → MS → Res D := fun d M1 => if insOf M1 C m d = true then (ms sd M1).bind fun ds M2 => if (g (d :: ds)).length = n then F (g (d :: ds)) M2 else .stuck else .stuck
def itK : D → MS → Res ItD := fun d M1 => match itD M1 d with
  | some it => .ok it M1
  | none => .stuck
noncomputable def lcK (g : MG) (ta : MB) (a : ME) (vs : List Nat) (sd : SD) : ItD → MS → Res D := fun it M1 => (lcGo it.chk g ta a (wipeD sd vs) it.ds [] M1).ne.bind fun ds M2 => .ok (.lst ds) M2
noncomputable def lcCK (g : MG) (ta : MB) (a : ME) (vs : List Nat) (sd : SD) : ItD → MS → Res D := fun it M1 => (lcGo it.chk g ta a (wipeD sd vs) it.ds [] M1).ne.bind fun ds M2 => .ok (.cell M2.length) (M2 ++ [.lst ds])
def lstK' : List D → MS → Res D := fun ds M2 => .ok (.lst ds) M2
def celK' : List D → MS → Res D := fun ds M2 => .ok (.cell M2.length) (M2 ++ [.lst ds])
def r1K : List D → MS → Res ItD := fun ds M1 => match ds with
  | [.int j] => if -1000000000 ≤ j ∧ j ≤ 1000000000 then .ok (intsI (rangeN 0 j)) M1 else .stuck
  | _ => .stuck
def r2K : List D → MS → Res ItD := fun ds M1 => match ds with
  | [.int i, .int j] => if -1000000000 ≤ i ∧ i ≤ 1000000000 ∧ -1000000000 ≤ j ∧ j ≤ 1000000000 then .ok (intsI (rangeN i j)) M1 else .stuck
  | _ => .stuck
def r3K : List D → MS → Res ItD := fun ds M1 => match ds with
  | [.int i, .int j, .int c] => if -1000000000 ≤ i ∧ i ≤ 1000000000 ∧ -1000000000 ≤ j ∧ j ≤ 1000000000 ∧ 0 < c ∧ c ≤ 1000000000 then .ok (intsI (rangeC i j c)) M1 else .stuck
  | _ => .stuck
def sfK1 (cs : List String) (f : String) (mo : ME) (sd : SD) : D → MS → SRes := fun v M1 => SRes.ofE (mo sd M1) sd fun o M2 => match setFldD cs f M2 o v with
  | some M3 => .nx sd M3
  | none => .stuck
def sfK2 (cs : List String) (f : String) (sd : SD) (v : D) : D → MS → SRes := fun o M2 => match setFldD cs f M2 o v with
  | some M3 => .nx sd M3
  | none => .stuck
@[simp] theorem seqS_ap : seqS sa sb sd M = (sa sd M).seq sb := rfl
@[simp] theorem setS_ap {i : Nat} : setS i a sd M = SRes.ofE (a sd M) sd (setK sd i) := rfl
@[simp] theorem setK_ap {i : Nat} : setK sd i d M = .nx (sd.set i (some d)) M := rfl
@[simp] theorem exprS_ap : exprS a sd M = SRes.ofE (a sd M) sd (exprK sd) := rfl
@[simp] theorem exprK_ap : exprK sd d M = .nx sd M := rfl
@[simp] theorem retS_ap : retS a sd M = SRes.ofE (a sd M) sd retK := rfl
@[simp] theorem retK_ap : retK d M = .ret d M := rfl
@[simp] theorem passS_ap : passS sd M = .nx sd M := rfl
@[simp] theorem stuckS_ap : stuckS sd M = .stuck := rfl
@[simp] theorem ifS_ap : ifS tc sa sb sd M = SRes.ofE (tc sd M) sd (ifK sa sb sd) := rfl
@[simp] theorem ifK_t : ifK sa sb sd true M = sa sd M := rfl
@[simp] theorem ifK_f : ifK sa sb sd false M = sb sd M := rfl
@[simp] theorem putS_ap {mo mi m : ME} : putS mo mi m sd M = SRes.ofE (m sd M) sd (putK1 mo mi sd) := rfl
@[simp] theorem putK1_ap {mo mi : ME} : putK1 mo mi sd d M = SRes.ofE (mo sd M) sd (putK2 mi sd d) := rfl
@[simp] theorem putK2_ap {mi : ME} : putK2 mi sd d e M = SRes.ofE (mi sd M) sd (putK3 sd d e) := rfl
@[simp] theorem augS_ap {i : Nat} : augS i f a sd M = SRes.ofE (nameE i sd M) sd (augK1 sd i f a) := rfl
@[simp] theorem augK1_ap {i : Nat} : augK1 sd i f a d M = SRes.ofE (a sd M) sd (augK2 sd i f d) := rfl
@[simp] theorem augK2_ap {i : Nat} : augK2 sd i f d e M = SRes.ofE (f d e M) sd (setK sd i) := rfl
@[simp] theorem forS_ap {it : MI} {g : MG} : forS it g sb sd M = SRes.ofE (it sd M) sd (forK g sb sd) := rfl
@[simp] theorem forK_ap {g : MG} {i : ItD} : forK g sb sd i M = forGo i.chk g sb i.ds sd M := rfl
@[simp] theorem SRes.res_nx : (SRes.nx sd M).res = .ok .non M := rfl
@[simp] theorem SRes.res_ret : (SRes.ret d M).res = .ok d M := rfl
@[simp] theorem SRes.res_exc {C : String} {ns : List String} : (SRes.exc C ns ds sd M).res = .exc C ns ds M := rfl
@[simp] theorem nameE_0 {o : D} {r : SD} : nameE 0 (some o :: r) M = .ok o M := rfl
@[simp] theorem nameE_s {i : Nat} {o : Option D} {r : SD} : nameE (i + 1) (o :: r) M = nameE i r M := by unfold nameE; simp
@[simp] theorem constE_ap : constE d sd M = .ok d M := rfl
@[simp] theorem binE_ap : binE f a b sd M = (a sd M).bind (binK f b sd) := rfl
@[simp] theorem binK_ap : binK f b sd d M = (b sd M).bind (binK2 f d) := rfl
@[simp] theorem binK2_ap : binK2 f d e M = f d e M := rfl
@[simp] theorem unE_ap {h : D → MS → Res D} : unE h a sd M = (a sd M).bind h := rfl
@[simp] theorem andE_ap : andE a b sd M = (a sd M).bind (andK b sd) := rfl
@[simp] theorem andK_t : andK b sd (.bl true) M = b sd M := rfl
@[simp] theorem andK_f : andK b sd (.bl false) M = .ok (.bl false) M := rfl
@[simp] theorem orE_ap : orE a b sd M = (a sd M).bind (orK b sd) := rfl
@[simp] theorem orK_t : orK b sd (.bl true) M = .ok (.bl true) M := rfl
@[simp] theorem orK_f : orK b sd (.bl false) M = b sd M := rfl
@[simp] theorem notE_ap : notE a sd M = (a sd M).bind notK := rfl
@[simp] theorem notK_ap {c : Bool} : notK (.bl c) M = .ok (.bl (!c)) M := rfl
@[simp] theorem ifE_ap : ifE tc a b sd M = (tc sd M).bind (ifEK a b sd) := rfl
@[simp] theorem ifEK_t : ifEK a b sd true M = a sd M := rfl
@[simp] theorem ifEK_f : ifEK a b sd false M = b sd M := rfl
@[simp] theorem valB_ap : valB a sd M = (a sd M).bind valK := rfl
@[simp] theorem valK_ap {c : Bool} : valK (.bl c) M = .ok c M := rfl
@[simp] theorem truB_ap : truB a sd M = (a sd M).bind truK := rfl
@[simp] theorem truK_bl {c : Bool} : truK (.bl c) M = .ok c M := rfl
@[simp] theorem truK_non : truK .non M = .ok false M := rfl
@[simp] theorem truK_int {i : Int} : truK (.int i) M = .ok (i != 0) M := rfl
@[simp] theorem truK_lst : truK (.lst ds) M = .ok (!ds.isEmpty) M := rfl
@[simp] theorem truK_flst : truK (.flst ds) M = .ok (!ds.isEmpty) M := rfl
@[simp] theorem truK_tup : truK (.tup ds) M = .ok (!ds.isEmpty) M := rfl
@[simp] theorem andB_ap : andB ta tb sd M = (ta sd M).bind (andBK tb sd) := rfl
@[simp] theorem andBK_t : andBK tb sd true M = tb sd M := rfl
@[simp] theorem andBK_f : andBK tb sd false M = .ok false M := rfl
@[simp] theorem orB_ap : orB ta tb sd M = (ta sd M).bind (orBK tb sd) := rfl
@[simp] theorem orBK_t : orBK tb sd true M = .ok true M := rfl
@[simp] theorem orBK_f : orBK tb sd false M = tb sd M := rfl
@[simp] theorem notB_ap : notB ta sd M = (ta sd M).bind notBK := rfl
@[simp] theorem notBK_ap {c : Bool} : notBK c M = .ok (!c) M := rfl
@[simp] theorem yesB_ap : yesB sd M = .ok true M := rfl
@[simp] theorem nilA_ap : nilA sd M = .ok [] M := rfl
@[simp] theorem consA_ap : consA a ms sd M = (a sd M).bind (consK ms sd) := rfl
@[simp] theorem consK_ap : consK ms sd d M = (ms sd M).bind (consK2 d) := rfl
@[simp] theorem consK2_ap : consK2 d ds M = .ok (d :: ds) M := rfl
@[simp] theorem tupE_ap : tupE ms sd M = (ms sd M).bind tupK := rfl
theorem tupK_ap (h : ds.length ≤ 1000000) : tupK ds M = .ok (.tup ds) M := if_pos h
@[simp] theorem lstE_ap : lstE ms sd M = (ms sd M).bind lstK := rfl
theorem lstK_ap (h : ds.length ≤ 1000000) : lstK ds M = .ok (.lst ds) M := if_pos h
@[simp] theorem celE_ap : celE ms sd M = (ms sd M).bind celK := rfl
theorem celK_ap (h : ds.length ≤ 1000000) : celK ds M = .ok (.cell M.length) (M ++ [.lst ds]) := if_pos h
@[simp] theorem appE_ap {h : List D → MS → Res D} : appE h ms sd M = (ms sd M).bind h := rfl
@[simp] theorem callE_ap {n : Nat} {F : FM} {g : List D → List D} : callE n F g ms sd M = (ms sd M).bind (callK n F g) := rfl
theorem callK_ap {n : Nat} {F : FM} {g : List D → List D} (h : (g ds).length = n) : callK n F g ds M = F (g ds) M := if_pos h
@[simp] theorem callKE_ap {n np nk : Nat} {F : FM} {g : List D → List D → List D} : callKE n np nk F g ms mk sd M = (ms sd M).bind (callKK n np nk F g mk sd) := rfl
@[simp] theorem callKK_ap {n np nk : Nat} {F : FM} {g : List D → List D → List D} : callKK n np nk F g mk sd ds M = (mk sd M).bind (callKK2 n np nk F g ds) := rfl
theorem callKK2_ap {n np nk : Nat} {F : FM} {g : List D → List D → List D} (h : ds.length = np ∧ es.length = nk ∧ (g ds es).length = n) : callKK2 n np nk F g ds es M = F (g ds es) M := if_pos h
@[simp] theorem bmE_ap {T : String} {h : D → List D → MS → Res D} : bmE T h a ms sd M = (a sd M).bind (bmK T h ms sd) := rfl
theorem bmK_ap {T : String} {h : D → List D → MS → Res D} (ht : tyvD M T d = true) : bmK T h ms sd d M = (ms sd M).bind (bmK2 h d) := if_pos ht
@[simp] theorem bmK2_ap {h : D → List D → MS → Res D} : bmK2 h d ds M = h d ds M := rfl
@[simp] theorem methE_ap {C m : String} {n : Nat} {F : FM} {g : List D → List D} : methE C m n F g a ms sd M = (a sd M).bind (methK C m n F g ms sd) := rfl
@[simp] theorem anyI_ap : anyI a sd M = (a sd M).bind itK := rfl
@[simp] theorem itK_str {x : List Nat} : itK (.str x) M = .ok ⟨x.map fun c => .str [c], fun _ => True⟩ M := rfl
@[simp] theorem itK_tup : itK (.tup ds) M = .ok ⟨ds, fun _ => True⟩ M := rfl
@[simp] theorem itK_lst : itK (.lst ds) M = .ok ⟨ds, fun _ => True⟩ M := rfl
@[simp] theorem itK_flst : itK (.flst ds) M = .ok ⟨ds, fun _ => True⟩ M := rfl
@[simp] theorem lcE_ap {mi : MI} {g : MG} {vs : List Nat} : lcE mi g ta a vs sd M = (mi sd M).bind (lcK g ta a vs sd) := rfl
@[simp] theorem lcK_ap {g : MG} {vs : List Nat} {it : ItD} : lcK g ta a vs sd it M = (lcGo it.chk g ta a (wipeD sd vs) it.ds [] M).ne.bind lstK' := rfl
@[simp] theorem lstK'_ap : lstK' ds M = .ok (.lst ds) M := rfl
@[simp] theorem lcC_ap {mi : MI} {g : MG} {vs : List Nat} : lcC mi g ta a vs sd M = (mi sd M).bind (lcCK g ta a vs sd) := rfl
@[simp] theorem lcCK_ap {g : MG} {vs : List Nat} {it : ItD} : lcCK g ta a vs sd it M = (lcGo it.chk g ta a (wipeD sd vs) it.ds [] M).ne.bind celK' := rfl
@[simp] theorem celK'_ap : celK' ds M = .ok (.cell M.length) (M ++ [.lst ds]) := rfl
@[simp] theorem range1I_ap : range1I ms sd M = (ms sd M).bind r1K := rfl
theorem r1K_ap {j : Int} (h : -1000000000 ≤ j ∧ j ≤ 1000000000) : r1K [.int j] M = .ok (intsI (rangeN 0 j)) M := if_pos h
@[simp] theorem range2I_ap : range2I ms sd M = (ms sd M).bind r2K := rfl
theorem r2K_ap {i j : Int} (h : -1000000000 ≤ i ∧ i ≤ 1000000000 ∧ -1000000000 ≤ j ∧ j ≤ 1000000000) : r2K [.int i, .int j] M = .ok (intsI (rangeN i j)) M := if_pos h
@[simp] theorem range3I_ap : range3I ms sd M = (ms sd M).bind r3K := rfl
/-- values -/
@[simp] theorem addD_int {i j : Int} : addD (.int i) (.int j) M = .ok (.int (i + j)) M := rfl
theorem addD_str {x y : List Nat} (h : x.length + y.length ≤ 1000000) : addD (.str x) (.str y) M = .ok (.str (x ++ y)) M := if_pos h
@[simp] theorem subI_int {i j : Int} : subI (.int i) (.int j) M = .ok (.int (i - j)) M := rfl
theorem mulD_int {i j : Int} (h : (-(2 ^ 64) < i ∧ i < 2 ^ 64) ∨ (-(2 ^ 64) < j ∧ j < 2 ^ 64)) : mulD (.int i) (.int j) M = .ok (.int (i * j)) M := if_pos h
theorem fdivI_int {i j : Int} (h : 0 < j ∧ j < 1073741824) : fdivI (.int i) (.int j) M = .ok (.int (i / j)) M := if_pos h
theorem modI_int {i j : Int} (h : 0 < j) : modI (.int i) (.int j) M = .ok (.int (i % j)) M := if_pos h
theorem powI_int {i j : Int} (h : 0 ≤ j ∧ j ≤ 1000000 ∧ i.natAbs < 2 ^ 64) : powI (.int i) (.int j) M = .ok (.int (i ^ j.toNat)) M := if_pos h
@[simp] theorem negI_int {i : Int} : negI (.int i) M = .ok (.int (-i)) M := rfl
@[simp] theorem ltD_int {i j : Int} : ltD (.int i) (.int j) M = .ok (.bl (decide (i < j))) M := rfl
@[simp] theorem leD_int {i j : Int} : leD (.int i) (.int j) M = .ok (.bl (decide (i ≤ j))) M := rfl
@[simp] theorem gtD_int {i j : Int} : gtD (.int i) (.int j) M = .ok (.bl (decide (j < i))) M := rfl
@[simp] theorem geD_int {i j : Int} : geD (.int i) (.int j) M = .ok (.bl (decide (j ≤ i))) M := rfl
@[simp] theorem ltD_str {x y : List Nat} : ltD (.str x) (.str y) M = .ok (.bl (decide (x < y))) M := rfl
@[simp] theorem leD_str {x y : List Nat} : leD (.str x) (.str y) M = .ok (.bl (!decide (y < x))) M := rfl
@[simp] theorem eqD_int {n : Bool} {i j : Int} : eqD n (.int i) (.int j) M = .ok (.bl ((i == j) != n)) M := rfl
@[simp] theorem eqD_str {n : Bool} {x y : List Nat} : eqD n (.str x) (.str y) M = .ok (.bl ((x == y) != n)) M := rfl
@[simp] theorem eqD_bl {n : Bool} {x y : Bool} : eqD n (.bl x) (.bl y) M = .ok (.bl ((x == y) != n)) M := rfl
@[simp] theorem inD_str {n : Bool} {x y : List Nat} : inD n (.str x) (.str y) M = .ok (.bl (subIn x y != n)) M := rfl
theorem ixD_str {x : List Nat} {k : Int} {c : Nat} (h : x.length ≤ 1000000) (e : L2.atI x k = some c) : ixD (.str x) (.int k) M = .ok (.str [c]) M := by unfold ixD; simp [h, e]
theorem ixD_lst {k : Int} (e : L2.atI ds k = some d) : ixD (.lst ds) (.int k) M = .ok d M := by unfold ixD; simp [seqOf, e]
theorem ixD_flst {k : Int} (e : L2.atI ds k = some d) : ixD (.flst ds) (.int k) M = .ok d M := by unfold ixD; simp [seqOf, e]
theorem ixD_cell {n : Nat} {k : Int} (hm : M[n]? = some (.lst ds)) (e : L2.atI ds k = some d) : ixD (.cell n) (.int k) M = .ok d M := by unfold ixD; simp [seqOf, hm, e]
theorem ixN_nat {n j : Nat} (h : j < n) : ixN n (j : Int) = some j := by
  unfold ixN
  rw [if_pos (by omega), if_pos (by omega)]
  simp
theorem atI_of {α : Type} {l : List α} {j : Nat} {x : α} (h : l[j]? = some x) : L2.atI l (j : Int) = some x := by
  unfold L2.atI
  rw [ixN_nat (List.getElem?_eq_some_iff.mp h).1]
  exact h
@[simp] theorem lenF_flst : lenF [.flst ds] M = .ok (.int ds.length) M := rfl
@[simp] theorem lenF_lst : lenF [.lst ds] M = .ok (.int ds.length) M := rfl
@[simp] theorem lenF_tup : lenF [.tup ds] M = .ok (.int ds.length) M := rfl
theorem lenF_str {x : List Nat} (h : x.length ≤ 1000000) : lenF [.str x] M = .ok (.int x.length) M := if_pos h
@[simp] theorem max2F_int {i j : Int} : max2F [.int i, .int j] M = .ok (.int (if j > i then j else i)) M := rfl
@[simp] theorem min2F_int {i j : Int} : min2F [.int i, .int j] M = .ok (.int (if j < i then j else i)) M := rfl
@[simp] theorem absF_int {i : Int} : absF [.int i] M = .ok (.int (if i < 0 then -i else i)) M := rfl
@[simp] theorem intF_int {i : Int} : intF [.int i] M = .ok (.int i) M := rfl
@[simp] theorem intF_bl {i : Bool} : intF [.bl i] M = .ok (.int (if i then 1 else 0)) M := rfl
@[simp] theorem boolF_int {i : Int} : boolF [.int i] M = .ok (.bl (i != 0)) M := rfl
@[simp] theorem boolF_bl {i : Bool} : boolF [.bl i] M = .ok (.bl i) M := rfl
theorem joinF_lst {x : List Nat} {xs : List (List Nat)} (h : (xs.map List.length).sum + xs.length * x.length ≤ 1000000) : joinF (.str x) [.lst (xs.map D.str)] M = .ok (.str (TL.joinL x xs)) M := by unfold joinF; simp [seqOf, h]
theorem putK3_cell {n : Nat} {k : Int} {j : Nat} {v : D} (hm : M[n]? = some (.lst ds)) (e : ixN ds.length k = some j) : putK3 sd v (.cell n) (.int k) M = .nx sd (M.set n (.lst (ds.set j v))) := by
  unfold putK3 setItemD; simp [hm, e]
@[simp] theorem setFldS_ap {cs : List String} {g : String} {mo m : ME} : setFldS cs g mo m sd M = SRes.ofE (m sd M) sd (sfK1 cs g mo sd) := rfl
@[simp] theorem sfK1_ap {cs : List String} {g : String} {mo : ME} : sfK1 cs g mo sd d M = SRes.ofE (mo sd M) sd (sfK2 cs g sd d) := rfl
theorem sfK2_cell {cs : List String} {g C : String} {ns : List String} {n : Nat} (hm : M[n]? = some (.obj C ns ds)) (hc : C ∈ cs ∧ ns.length < 900 ∧ ns.length = ds.length) : sfK2 cs g sd d (.cell n) M = .nx sd (M.set n (.obj C (putN ns ds g d).1 (putN ns ds g d).2)) := by
  unfold sfK2 setFldD; simp only [hm, if_pos hc]
theorem fldD_obj {cs : List String} {g C : String} {ns : List String} (hC : C ∈ cs) (h : lookF ns ds g = some d) : fldD cs g (.obj C ns ds) M = .ok d M := by unfold fldD; simp [hC, h]
theorem fldD_cell {cs : List String} {g C : String} {ns : List String} {n : Nat} (hm : M[n]? = some (.obj C ns ds)) (hC : C ∈ cs) (h : lookF ns ds g = some d) : fldD cs g (.cell n) M = .ok d M := by unfold fldD; simp [hm, hC, h]
theorem inO_obj {C : String} {F : FM} {neg b : Bool} {ns : List String} {M' : MS} (h : F [.obj C ns ds, d] M = .ok (.bl b) M') : inO C F neg d (.obj C ns ds) M = .ok (.bl (b != neg)) M' := by unfold inO isIns; simp [h]
theorem joinL_nil : ∀ xs : List (List Nat), TL.joinL [] xs = xs.flatten
  | [] => rfl
  | [x] => by simp [TL.joinL]
  | x :: y :: r => by
    have := joinL_nil (y :: r)
    simp only [TL.joinL, List.nil_append, List.flatten_cons] at *
    rw [this]
end
section
variable {sd : SD} {M : MS} {sa : MST}
theorem runD_ap {n : Nat} {ds : List D} : runD n sa ds M = (sa (startD n ds) M).res := rfl
end
theorem subIn_one (c : Nat) (y : List Nat) : subIn [c] y = decide (c ∈ y) := by
  have := StrLaws.found_one (tx y) c
  simpa [subIn] using this
theorem mkT_of {C : String} {F : FM} {ds : List D} {M : MS} {ns : List String} {es : List D} (h : F (.cell M.length :: ds) (M ++ [.obj C [] []]) = .ok .non (M ++ [.obj C ns es])) (hn : ncs M.length es = true) : mkT C F ds M = .ok (.obj C ns es) M := by
  unfold mkT mkD
  rw [h]
  simp only [Res.bind_ok]
  unfold closeR
  simp [clo, hn]
end DL
namespace DL
open PySem PySem.Spec L2
open PyProof.Rows hiding St
end DL
namespace DL
open PySem PySem.Spec L2
open PyProof.Rows hiding St
end DL
namespace DL
open PySem PySem.Spec L2
open PyProof.Rows hiding St
section
variable {X : Cx} {k : Nat} {f c : Addr} {fd : FuncData} {ps : List Str} {F : FM}
/-- truth of an instance by its __bool__ -/
def truO (C : String) (F : FM) (d : D) (M : MS) : Res Bool := if isIns M C d = true then (F [d] M).ne.bind fun r M1 => match r with
  | .bl b => .ok b M1
  | _ => .stuck else .stuck
def truOB (C : String) (F : FM) (a : ME) : MB := fun sd M => (a sd M).bind fun d M1 => truO C F d M1
end
end DL
namespace DL
open PySem PySem.Spec L2
open PyProof.Rows hiding St
section
variable {X : Cx} {k : Nat} {f c : Addr} {fd : FuncData} {ps : List Str} {F : FM}
def notTE (t : MB) : ME := fun sd M => (t sd M).bind fun b M1 => .ok (.bl (!b)) M1
def cutL {α : Type} (xs : List α) (lo hi : Option Int) : List α := (xs.drop (HT.sIx xs.length 0 lo)).take (HT.sIx xs.length xs.length hi - HT.sIx xs.length 0 lo)
abbrev MO' := SD → MS → Res (Option Int)
def noO : MO' := fun _ M => .ok none M
def soO (m : ME) : MO' := fun sd M => (m sd M).bind fun d M1 => match d with
  | .int i => .ok (some i) M1
  | _ => .stuck
structure DO (X : Cx) (W : WX) (e : Option Expr) (m : MO') : Prop where
  po : PO X e (fun st H Q => ∃ ro sd M, RelS X.K X.mg ro M H ∧ RepSt X.K X.mg ro H sd st ∧ Post (fun _ _ (o : Option Int) c => c = o) X.K X.mg (fun c d H' => W c d st H') ro H Q (m sd M))
theorem do_none {W : WX} : DO X W none noO := by
  refine ⟨⟨fun pins s st H Q I q => po_none.run pins s st H Q I ?_⟩⟩
  obtain ⟨ro, sd, M, R, S, P⟩ := q
  exact P ro H none R (Pres.refl _ _) rfl
theorem do_some {W : WX} {e : Expr} {m : ME} (h : DE X W e m) : DO X W (some e) (soO m) := by
  refine ⟨⟨fun pins s st H Q I q => (po_some h.pe).run pins s st H Q I ?_⟩⟩
  obtain ⟨ro, sd, M, R, S, P⟩ := q
  refine ⟨ro, sd, M, R, S, (Post.bind P).imp fun x H1 ⟨ro1, M1, d, R1, P1, r1, q1⟩ => ?_⟩
  cases d with
  | int i => cases (show x = V.int i from r1); exact ⟨i, rfl, q1 ro1 H1 _ R1 (Pres.refl _ _) rfl⟩
  | _ => exact q1.elim
def sliceD (d : D) (lo hi : Option Int) (M : MS) : Res D := match d with
  | .str x => if x.length ≤ 1000000 then .ok (.str (cutL x lo hi)) M else .stuck
  | .tup ds => .ok (.tup (cutL ds lo hi)) M
  | d => match seqOf M d with
    | some ds => .ok (.lst (cutL ds lo hi)) M
    | none => .stuck
def slE (mo : ME) (lo hi : MO') : ME := fun sd M => (mo sd M).bind fun d M1 => (lo sd M1).bind fun l M2 => (hi sd M2).bind fun h M3 => sliceD d l h M3
theorem Reps.cut {K : PySem.W.Frag} {mg : Str → Option Value} {ro : Pl} {H : Hp} {ds : List D} {vs : List V} (h : Reps K mg ro H ds vs) (lo hi : Option Int) : Reps K mg ro H (cutL ds lo hi) (cutV vs lo hi) := by
  unfold cutL cutV
  rw [h.len]
  exact (h.drop _).take _
theorem cutS_tx (x : List Nat) (lo hi : Option Int) : cutS (tx x) lo hi = tx (cutL x lo hi) := by
  unfold cutS cutL
  simp [Str.length]
theorem seq_list {K : PySem.W.Frag} {mg : Str → Option Value} {ro : Pl} {H : Hp} {M : MS} (R : RelS K mg ro M H) {d : D} {x : V} {ds : List D} (r : Rep K mg ro H d x) (e : seqOf M d = some ds) (hn : isTup d = false) : ∃ a vs, x = .ref a ∧ SqL K H a vs ∧ Reps K mg ro H ds vs := by
  cases d with
  | lst es => cases (show some es = some ds from e); obtain ⟨a, vs, rfl, h, _, q⟩ := r; exact ⟨a, vs, rfl, SqL.of h, q⟩
  | flst es => cases (show some es = some ds from e); obtain ⟨a, vs, rfl, h, q⟩ := r; exact ⟨a, vs, rfl, h.sq, q⟩
  | tup es => cases hn
  | cell n =>
    obtain ⟨a, vs, rfl, h, q⟩ := lst_of R r e
    exact ⟨a, vs, rfl, SqL.of h, q⟩
  | _ => cases e
theorem de_sl {W : WX} {e : Expr} {lo hi : Option Expr} {mo : ME} {ml mh : MO'} {pos p2 : Pos} (he : DE X W e mo) (hl : DO X W lo ml) (hh : DO X W hi mh) : DE X W (.Subscript e (.Slice lo hi none p2) pos) (slE mo ml mh) := by
  refine ⟨⟨fun pins s st H Q I q => (pe_slice (SlR.or sl_list (SlR.or sl_tupA sl_str)) he.pe hl.po hh.po).run pins s st H Q I ?_⟩⟩
  obtain ⟨ro, sd, M, R, S, P⟩ := q
  refine ⟨ro, sd, M, R, S, (Post.bind P).imp fun x H1 ⟨ro1, M1, d, R1, P1, r1, q1⟩ => ?_⟩
  refine ⟨ro1, sd, M1, R1, S.mono P1, (Post.bind (R := fun _ _ (o : Option Int) c => c = o) q1).imp fun l H2 ⟨ro2, M2, l', R2, P2, r2, q2⟩ => ?_⟩
  subst r2
  refine ⟨ro2, sd, M2, R2, (S.mono P1).mono P2, (Post.bind (R := fun _ _ (o : Option Int) c => c = o) q2).imp fun h H3 ⟨ro3, M3, h', R3, P3, r3, q3⟩ => ?_⟩
  subst r3
  have rx := Rep.mono P3 _ _ (Rep.mono P2 _ _ r1)
  have fin : ∀ ds, seqOf M3 d = some ds → isTup d = false → PostD X.K X.mg (fun c d H' => W c d st H') ro3 H3 Q (.ok (.lst (cutL ds l h)) M3) → rSlL X.K x l h H3 Q := fun ds hs ht P' => by
    obtain ⟨a, vs, rfl, q, rs⟩ := seq_list R3 rx hs ht
    exact ⟨a, vs, rfl, q, PostD.newL R3 (rs.cut l h) P'⟩
  cases d with
  | str z =>
    have q3 : PostD X.K X.mg (fun c d H' => W c d st H') ro3 H3 Q (if z.length ≤ 1000000 then .ok (.str (cutL z l h)) M3 else .stuck) := q3
    cases (show x = V.str (tx z) from rx)
    split at q3
    · rename_i hz
      exact .inr (.inr ⟨tx z, rfl, by simp only [Str.length, List.size_toArray]; exact line_le hz, by rw [cutS_tx]; exact PostD.pure (d := .str (cutL z l h)) R3 rfl q3⟩)
    · exact q3.elim
  | tup ds =>
    have q3 : PostD X.K X.mg (fun c d H' => W c d st H') ro3 H3 Q (.ok (.tup (cutL ds l h)) M3) := q3
    obtain ⟨a, vs, rfl, q, rs⟩ := id rx
    refine .inr (.inl ⟨a, vs, rfl, q.sq, fun hw => ?_, fun _ => PostD.newT R3 (rs.cut l h) q3⟩)
    have e : cutL ds l h = ds := by
      unfold cutL
      rw [rs.len, hw.1, hw.2, List.drop_zero, Nat.sub_zero, ← rs.len, List.take_length]
    rw [e] at q3
    exact PostD.pure R3 rx q3
  | lst ds => exact .inl (fin ds rfl rfl q3)
  | flst ds => exact .inl (fin ds rfl rfl q3)
  | cell n =>
    have q3 : PostD X.K X.mg (fun c d H' => W c d st H') ro3 H3 Q (match seqOf M3 (.cell n) with | some ds => .ok (.lst (cutL ds l h)) M3 | none => .stuck) := q3
    cases hs : seqOf M3 (.cell n) with
    | none => rw [hs] at q3; exact q3.elim
    | some ds => rw [hs] at q3; exact .inl (fin ds hs rfl q3)
  | _ => exact q3.elim
def listF (ds : List D) (M : MS) : Res D := match ds with
  | [d] => (match seqOf M d with
    | some es => .ok (.lst es) M
    | none => .stuck)
  | _ => .stuck
theorem callS_list : CallS X (.type "list") listF := by
  refine ⟨_, call_list_of, fun ro H M ds xs E Q R rs P => ?_⟩
  unfold listF at P
  split at P
  · split at P
    · rename_i es he
      obtain ⟨v, rfl, rv⟩ := reps1 rs
      obtain ⟨a, vs, rfl, q, qs⟩ := seq_of R rv he
      exact ⟨a, vs, rfl, q, PostD.newL R qs P⟩
    · exact P.elim
  · exact P.elim
theorem CallS.or {fv : Value} {f g : List D → MS → Res D} (hf : CallS X fv f) (hg : CallS X fv g) (h : List D → MS → Bool) : CallS X fv (fun ds M => if h ds M = true then f ds M else g ds M) := by
  obtain ⟨r, h1, h2⟩ := hf
  obtain ⟨r', h1', h2'⟩ := hg
  refine ⟨_, CallR.or h1 h1', fun ro H M ds xs E Q R rs P => ?_⟩
  dsimp only at P
  by_cases hc : h ds M = true
  · rw [if_pos hc] at P; exact .inl (h2 ro H M ds xs E Q R rs P)
  · rw [if_neg hc] at P; exact .inr (h2' ro H M ds xs E Q R rs P)
structure DGs (X : Cx) (ts : List Expr) (is : List Nat) : Prop where
  pgs : PGs X ts (fun vs st H Q => ∃ ro M sd ds, RelS X.K X.mg ro M H ∧ RepSt X.K X.mg ro H sd st ∧ Reps X.K X.mg ro H ds vs ∧ ∃ sd', setAll is ds sd = some sd' ∧ ∀ st', RepSt X.K X.mg ro H sd' st' → (∀ ws : List Nat, (∀ i, i ∈ is → i ∈ ws) → wipe st' ws = wipe st ws) → Q st' H)
theorem dgs_nil : DGs X [] [] := by
  refine ⟨⟨fun pins s st H vs us Q I r q => pgs_nil.run pins s st H vs us Q I r ?_⟩⟩
  obtain ⟨ro, M, sd, ds, R, S, rs, sd', e, q⟩ := q
  cases ds with
  | nil => cases (show vs = [] from rs); cases e; exact ⟨rfl, q st S fun _ _ => rfl⟩
  | cons d ds => cases e
theorem dgs_cons {i : Nat} {is : List Nat} {x : Str} {pos : Pos} {es : List Expr} (hr : DGs X es is) (hN : X.N.Nodup) (hi : X.N[i]? = some x := by rfl) (hx : Loc X.env.scope x := by first | exact Or.inl rfl | exact Or.inr rfl)
    (hf : X.fn x = true ∨ X.env.scope.names.lookup x = some .local := by first | exact .inl rfl | exact .inr rfl | assumption) (hs : (assignEach (.Name x pos :: es) X.env).map (·.2) = assign (.Name x pos) X.env :: (assignEach es X.env).map (·.2) := by rfl) : DGs X (.Name x pos :: es) (i :: is) := by
  refine ⟨⟨fun pins s st H vs us Q I r q => (pgs_cons (pg_name hN hi hx hf) hr.pgs hs).run pins s st H vs us Q I r ?_⟩⟩
  obtain ⟨ro, M, sd, ds, R, S, rs, sd', e, q⟩ := q
  cases ds with
  | nil => cases e
  | cons d ds =>
    obtain ⟨v, w, rfl, rd, rt⟩ := rs
    refine ⟨v, w, rfl, ro, M, sd.set i (some d), ds, R, S.set rd, rt, sd', e, fun st' S' hw => q st' S' fun ws h => ?_⟩
    rw [hw ws (fun j hj => h j (List.mem_cons_of_mem _ hj))]
    exact wipe_set st (h i List.mem_cons_self)
theorem dg_tup {es : List Expr} {is : List Nat} {kk : Nat} {pos : Pos} (hc : X.calm = true) (h : DGs X es is) (hn : (assignEach es X.env).length = is.length := by rfl) (hst : (assignEach es X.env).findIdx? (·.1) = none := by rfl) : DG X (.Tuple es kk pos) (tupG is) is := by
  refine ⟨⟨fun pins s st H v u Q I r q => (pg_tup (n := is.length) hc h.pgs hn hst).run pins s st H v u Q I r ?_⟩⟩
  obtain ⟨ro, sd, M, d, R, S, rd, sd', e, q⟩ := q
  cases d with
  | tup ds =>
    obtain ⟨a, vs, rfl, hq, rs⟩ := rd
    have hl : ∀ (is : List Nat) (ds : List D) (sd : SD) {sd' : SD}, setAll is ds sd = some sd' → ds.length = is.length := by
      intro is
      induction is with
      | nil => intro ds sd sd' h; cases ds with | nil => rfl | cons _ _ => cases h
      | cons i is ih => intro ds sd sd' h; cases ds with | nil => cases h | cons d ds => simpa using ih ds _ h
    exact ⟨a, vs, rfl, hq.sq, by rw [← rs.len]; exact hl is ds sd e, ro, M, sd, ds, R, S, rs, sd', e, q⟩
  | _ => cases e
def unpS (g : MG) (m : ME) : MST := fun sd M => SRes.ofE (m sd M) sd fun d M1 => match g d sd with
  | some sd' => .nx sd' M1
  | none => .stuck
theorem ds_unp {W : WX} {tg e : Expr} {g : MG} {ix : List Nat} {m : ME} {pos : Pos} (he : DE X W e m) (hg : DG X tg g ix) (hs : swapsWithSole [tg] e pos.line X.env = pure false := by rfl) (hw : swappedStores [tg] e X.env = pure none := by rfl)
    (h1 : (assignEach [tg] X.env).map (·.2) = [assign tg X.env] := by rfl) : DS X W (.Assign [tg] e pos) (unpS g m) := by
  refine ⟨⟨fun pins s st H D0 I q => (ps_asg he.pe hg.pg hs hw h1).run pins s st H D0 I ?_⟩⟩
  obtain ⟨ro, sd, M, R, S, P⟩ := q
  refine ⟨ro, sd, M, R, S, (PostS.ofE P S).imp fun x H1 ⟨ro1, M1, d, R1, P1, r1, q1⟩ => ?_⟩
  split at q1
  · rename_i sd' e
    exact ⟨ro1, sd, M1, d, R1, S.mono P1, r1, sd', e, fun st' S' _ => q1 ro1 H1 _ R1 (Pres.refl _ _) S'⟩
  · exact q1.elim
def enumD : Nat → List D → List D
  | _, [] => []
  | i, d :: r => .tup [.int (i : Int), d] :: enumD (i + 1) r
theorem enumD_get : ∀ (ds : List D) (i j : Nat) (d : D), (enumD i ds)[j]? = some d → ∃ x, ds[j]? = some x ∧ d = .tup [.int ((i + j : Nat) : Int), x]
  | [], i, j, d, h => by simp [enumD] at h
  | x :: r, i, 0, d, h => by simp [enumD] at h; exact ⟨x, rfl, h.symm⟩
  | x :: r, i, j + 1, d, h => by
    simp [enumD] at h
    obtain ⟨y, hy, e⟩ := enumD_get r (i + 1) j d h
    exact ⟨y, by simpa using hy, by rw [e]; congr 3; omega⟩
theorem enumD_len : ∀ (ds : List D) (i : Nat), (enumD i ds).length = ds.length
  | [], _ => rfl
  | x :: r, i => by simp [enumD, enumD_len r]
def lchk (M : MS) (d : D) : MS → Prop := fun M' => seqOf M' d = seqOf M d
end
end DL
namespace DL
open PySem PySem.Spec L2
open PyProof.Rows hiding St
section
variable {X : Cx} {W : WX}
theorem cx_false {P : Program} {w : World} {outer : List Env} {H : Hp} {s : Shared} {u : Value} {s' : Shared} (h : L2.CX P w outer H s (fun _ _ _ => False) u s') : False := by
  obtain ⟨_, _, _, _, _, _, _, _, _, _, _, _, z⟩ := h
  exact z
theorem pass_false {X : Cx} : Passes (L2.CX X.prog X.w) X (fun _ _ _ => False) := fun _ _ _ _ _ _ _ c => (cx_false c).elim
/-- an own class whose __init__ is ValueError's -/
structure BaseX (K : PySem.W.Frag) (B : Addr) : Prop where
  rd : PySem.W.readsIn K B (.type "type") = true
  ga : PySem.W.specialIn K (.ref B) "__getattribute__" = some (some (.builtin "type.__getattribute__"))
  vV : PySem.W.findCls K (.ref B) (.type "type") "__init__" = some (.val (.builtin "ValueError.__init__"))
/-- B.__init__(self, ..), B an own class below ValueError -/
theorem pe_binit {B : Addr} {x : Str} {e : Expr} {es : List Expr} {ta : TA} {p1 p2 pos : Pos} {pl : Sem Bool} (hg : Gl X x) (hm : X.mg x = some (.ref B)) (b : BaseX X.K B) (ha : PA X (e :: es) ta) (hdb : (x == ("__debug__" : Str)) = false := by decide)
    (hc : eval (.Call (.Attribute (.Name x p1) "__init__" p2) (e :: es) [] pos) X.env = (do
      let ov ← eval (.Name x p1) X.env
      standAt p2.atName
      let (f, first) ← holding [ov] (getMethod ov "__init__" pl)
      callWith pos f first (backTo pos (starEach (e :: es) X.env)) (backToKw pos (keywordEach [] X.env))) := by rfl)
    (he : starEach (e :: es) X.env = (false, eval e X.env) :: starEach es X.env := by rfl) (hpl : (backTo pos (starEach es X.env)).any (·.1) = false := by rfl) :
    PE X (.Call (.Attribute (.Name x p1) "__init__" p2) (e :: es) [] pos) (tVeI X.K ta) := by
  refine ⟨fun pins s σ H Q I h => ?_⟩
  refine PySem.W.methodCall_KW (ld_glob I hg hm ?_ hdb) hc
  refine PySem.W.method_cls I.kIn b.ga (PySem.W.cls_value I.kIn b.rd b.vV (by decide +kernel) ?_)
  show wpAny _ _ (callWith pos (Value.builtin "ValueError.__init__") [] (backTo pos (starEach (e :: es) X.env)) []) _ _ _
  refine PyProof.Rows.callWith_method1 (thn (ha.run pos pins _ σ H _ (I.tok _) h) fun us s1 ⟨vs, H1, I1, r1, a, C, ws, ev, hl, T, ea, q⟩ => ?_) he hpl
  subst ev
  cases r1 with
  | @cons _ u0 _ ur ra rw' =>
    obtain rfl : u0 = Value.ref a := ra
    have hlen : ur.length ≤ sizeLine := by
      rw [← Paired.length rw', sizeLine_eq]
      omega
    exact oinit_ok T I1 ea hlen fun s' J => ⟨.non, H1, J, rfl, q⟩
end
def spI1 (K : PySem.W.Frag) (C : Addr) (f : Str) : Sp := fun vs H Q _ => ∃ a y, vs = [.ref a, y] ∧ H a = some (exo a C none) ∧ OexC K C ∧ PySem.W.findIn K (.ref C) f = some none ∧
  ∀ dx, H dx = none → dx ≠ a → Q .non (upd (upd H dx (exd dx [(f, y)])) a (exo a C (some dx)))
section
variable {P : Program} {w : World} {K : PySem.W.Frag} {mg : Str → Option Value} {base : Heap}
theorem init1_ok {x qual : Str} {st : Stmt} {f C B : Addr} {fd : FuncData} {bn fld sn pn : Str} {m : Str} {j : Nat} {p1 p2 p3 p4 p5 p6 p7 p8 p9 p10 : Pos} (Fn : FnP K x qual st [] [] f fd) (S : FnScope [sn, pn] [sn, pn] (defScope st))
    (hB : mg bn = some (.ref B)) (b : BaseX K B) (hdb : (bn == ("__debug__" : Str)) = false := by decide)
    (hbody : defBody st = [.Expr (.Call (.Attribute (.Name bn p1) "__init__" p2) [.Name sn p3, .Constant (.str m) j p4] [] p5) p6, .Assign [.Attribute (.Name sn p7) fld p8] (.Name pn p9) p10] := by rfl)
    (hg : ∀ (cdv : Value) (A : Around) (outer : List Env) (s : Shared) (H : Hp) (E : XK), Gl (cxOf (L2.CX P w) P w K mg base [sn, pn] qual (defScope st) f cdv A outer s H E) bn := by intros; rfl)
    (hc : ∀ (cdv : Value) (A : Around) (outer : List Env) (s : Shared) (H : Hp) (E : XK), ∃ pl, eval (.Call (.Attribute (.Name bn p1) "__init__" p2) [.Name sn p3, .Constant (.str m) j p4] [] p5) (cxOf (L2.CX P w) P w K mg base [sn, pn] qual (defScope st) f cdv A outer s H E).env = (do
      let ov ← eval (.Name bn p1) (cxOf (L2.CX P w) P w K mg base [sn, pn] qual (defScope st) f cdv A outer s H E).env
      standAt p2.atName
      let (f', first) ← holding [ov] (getMethod ov "__init__" pl)
      callWith p5 f' first (backTo p5 (starEach [.Name sn p3, .Constant (.str m) j p4] (cxOf (L2.CX P w) P w K mg base [sn, pn] qual (defScope st) f cdv A outer s H E).env)) (backToKw p5 (keywordEach [] (cxOf (L2.CX P w) P w K mg base [sn, pn] qual (defScope st) f cdv A outer s H E).env))) := by intros; exact ⟨_, rfl⟩)
    (v1 : Vis (defScope st) sn := by exact Or.inl rfl) (v2 : Vis (defScope st) pn := by exact Or.inl rfl) (d1 : (sn == ("__debug__" : Str)) = false := by decide) (d2 : (pn == ("__debug__" : Str)) = false := by decide) (c1 : (sn == ("__classdict__" : Str)) = false := by decide) (c2 : (pn == ("__classdict__" : Str)) = false := by decide) :
    FnOk P w K mg base (L2.CX P w) 1 f fd [sn, pn] (spI1 K C fld) := by
  refine FunD.ok (k := 0) Fn S (fun vs H Q E h => ?_) fun cdv A outer s H vs Q E hr h => ?_
  · obtain ⟨a, y, rfl, _⟩ := h; rfl
  · obtain ⟨a, y, rfl, ea, T, hno, q⟩ := h
    rw [hbody]
    obtain ⟨pl, hc⟩ := hc cdv A outer s H E
    refine ⟨_, pss_cons (ps_expr (pe_binit (pl := pl) (hg cdv A outer s H E) hB b (pa_cons (pe_var (i := 0) rfl v1 d1 c1) (pa_cons pe_str pa_nil)) hdb hc)) (pss_one (ps_ost (pe_var (i := 0) rfl v1 d1 c1) (pe_var (i := 1) rfl v2 d2 c2))), ?_⟩
    refine ⟨_, rfl, a, C, [_], rfl, by simp, T, ea, ?_⟩
    exact ⟨_, rfl, _, rfl, a, C, rfl, T, hno, .inl ⟨ea, fun dx n ne => q dx n ne⟩⟩
end
def excS (C : String) (ns : List String) (ma : MA) : MST := fun sd M => SRes.ofE (ma sd M) sd fun ds M1 => if ds.length = ns.length then .exc C ns ds.reverse sd M1 else .stuck
/-- what of the text an own exception class is -/
structure ExC (K : PySem.W.Frag) (mg : Str → Option Value) (C : String) (c fI : Addr) (fs : List String) : Prop where
  mgC : mg (Str.ofString C) = some (.ref c)
  ox : OexC K c
  ini : PySem.W.findIn K (.ref c) "__init__" = some (some (.ref fI))
  ity : PySem.W.typeIn K (.ref fI) = some (.type "function")
  no : ∀ f, f ∈ fs → PySem.W.findIn K (.ref c) (Str.ofString f) = some none
section
variable {X : Cx} {W : WX} {C f g : String} {c fI : Addr} {fd : FuncData} {ps : List Str} {e : Expr} {es : List Expr} {ma : MA} {p pos pos2 : Pos}
theorem ds_raise1 (cx : Ctx X W) (T : ExC X.K X.mg C c fI [f]) (F1 : FnOk X.prog X.w X.K X.mg X.base (L2.CX X.prog X.w) 1 fI fd ps (spI1 X.K c (Str.ofString f))) (hr : Room 2 X.A) (hb : Binds X.K fd ps []) (hg : Gl X (Str.ofString C)) (ha : DA X W [e] ma)
    (hdb : (Str.ofString C == ("__debug__" : Str)) = false := by decide) (he : starEach [e] X.env = (false, eval e X.env) :: starEach [] X.env := by rfl) (hpl : (backTo pos (starEach [] X.env)).any (·.1) = false := by rfl) :
    DS X W (.Raise (some (.Call (.Name (Str.ofString C) p) [e] [] pos)) none pos2) (excS C [f] ma) := by
  refine ⟨⟨fun pins s st H D0 I q => (ps_raise cx.calm cx.tk (pmk_oex (ds := []) (dvs := []) T.ox T.ini T.ity F1 hr hb .nil pass_false hg T.mgC ha.pa hdb he hpl)).run pins s st H D0 I ?_⟩⟩
  obtain ⟨ro, sd, M, R, S, P⟩ := q
  refine ⟨ro, sd, M, R, S, (PostS.ofE P S).imp fun xs H1 ⟨ro1, M1, ds, R1, P1, r1, q1⟩ => ?_⟩
  split at q1
  · rename_i hl
    match ds, hl with
    | [d], _ =>
      obtain ⟨y, rfl, ry⟩ := reps1 r1
      refine ⟨by simp, fun a na => ⟨a, y, rfl, upd_same, T.ox, T.no f (by simp), fun dx ndx nda => ⟨rfl, dx, [(Str.ofString f, y)], upd_same, ?_, ?_, ?_⟩⟩⟩
      · rw [upd_ne nda, upd_same]
      · rw [upd_ne nda] at ndx; exact ndx
      · have nd : H1 dx = none := by rw [upd_ne nda] at ndx; exact ndx
        have eH : upd (del (upd (upd (upd H1 a (exo a c none)) dx (exd dx [(Str.ofString f, y)])) a (exo a c (some dx))) a) dx (.xd [(Str.ofString f, y)]) = upd H1 dx (.xd [(Str.ofString f, y)]) := by
          funext b
          by_cases h1 : b = dx
          · subst h1; rw [upd_same, upd_same]
          · rw [upd_ne h1, upd_ne h1]
            by_cases h2 : b = a
            · subst h2; rw [del_same, na]
            · rw [del_ne h2, upd_ne h2, upd_ne h1, upd_ne h2]
        rw [eH]
        obtain ⟨R2, P2⟩ := R1.alloc (o := .xd [(Str.ofString f, y)]) nd
        exact q1 ro1 _ st (.ref c) (some dx) R2 P2 ((S.mono P1).mono P2) ⟨c, rfl, T.mgC, .inr ⟨dx, [y], rfl, upd_same, R1.fresh nd, rfl, Reps.mono P2 _ _ (Reps.one ry)⟩⟩
  · exact q1.elim
end
def finS (i : Nat) : SRes → SRes
  | .nx sd M => .nx (sd.set i none) M
  | .brk sd M => .brk (sd.set i none) M
  | .ct sd M => .ct (sd.set i none) M
  | .ret d M => .ret d M
  | _ => .stuck
def exSlot (C : String) (ns : List String) (ds : List D) (a d : Addr) : Option D := if ns = [] then none else some (.exn C ns ds a d)
/-- try: b / except x as n: m; exm tells whether the clause takes an exception of the class -/
def tryS (exm : String → Option Bool) (i : Nat) (mb : MST) (ms : Addr → Option Addr → MST) : MST := fun sd M => match mb sd M with
  | .exc C ns ds sd1 M1 => (match exm C with
    | some true => finS i (ms 0 (some 0) (sd1.set i (exSlot C ns ds 0 0)) M1)
    | some false => .exc C ns ds sd1 M1
    | none => .stuck)
  | r => r
/-- the class of what is caught -/
def Caught (mg : Str → Option Value) (exm : String → Option Bool) (cls : Value) : Prop := ∃ C cc, exm C = some true ∧ mg (Str.ofString C) = some (.ref cc) ∧ cls = .ref cc
structure ExM (K : PySem.W.Frag) (mg : Str → Option Value) (c : Value) (exm : String → Option Bool) : Prop where
  ok : ∀ C b, exm C = some b → ∀ cc, mg (Str.ofString C) = some (.ref cc) → PySem.W.exmOne K (.ref cc) c = some b
section
variable {X : Cx} {W : WX} {x n : Str} {c : Value} {i : Nat} {body suite : List Stmt} {b₀ : Stmt} {np pos pos' : Pos} {mb : MST} {ms : Addr → Option Addr → MST} {m1 : MST} {exm : String → Option Bool}
theorem ds_try_as (hs : X.stack = X.env :: X.outer) (hf : X.env.frame = some X.env.locals) (hN : X.N.Nodup) (tk : Takes X W) (hc : Names X x c) (hx : ExM X.K X.mg c exm)
    (hb : ∀ (W' : WX) (pn : List (Addr × Obj)) (xe : Value → Shared → Prop), Ctx (X.tr pn xe) W' → DSs (X.tr pn xe) W' body mb)
    (hsu : ∀ (a : Addr) (oe : Obj) (cls : Value) (d : Option Addr) (pn : List (Addr × Obj)), Zc cls d oe → (∃ vs, oe.data = .fields vs) → Caught X.mg exm cls → DSs (X.suite a ((a, oe) :: pn)) W0 (b₀ :: suite) (ms a d))
    (heq : ∀ (a : Addr) (d : Option Addr) (C : String) (ns : List String) (ds : List D) (sd : SD) (M : MS), (d = none → ns = []) → finS i (ms a d (sd.set i (exSlot C ns ds a (d.getD 0))) M) = finS i (ms 0 (some 0) (sd.set i (exSlot C ns ds 0 0)) M)) (hcalm : X.calm = true) (hi : X.N[i]? = some n := by rfl) (hln : X.env.kindOf n = some .local := by rfl) :
    DS X W (.Try body [.ExceptHandler (some (.Name x np)) (some n) (b₀ :: suite) pos'] [] [] pos) (tryS exm i mb ms) := by
  refine ⟨⟨fun pins s st H D0 I q => (ps_try_as (c := c) (Wout := W) (tb := fun W' => liftS X.K X.mg W' mb) (ts := fun a cls d D st H => Caught X.mg exm cls ∧ liftS X.K X.mg W0 (ms a d) D st H) hs hf hN hi hln hc tk (fun W' pn xe t po => (hb W' pn xe ⟨t, po, hcalm⟩).ps) (fun a oe cls d pn z1 z2 => ⟨fun pins s σ H D I h => (hsu a oe cls d pn z1 z2 h.1).ps.run pins s σ H D I h.2⟩)).run pins s st H D0 I ?_⟩⟩
  obtain ⟨ro, sd, M, R, S, P⟩ := q
  refine ⟨ro, sd, M, R, S, ?_⟩
  unfold tryS at P
  cases e : mb sd M with
  | nx sd1 M1 => rw [e] at P; exact P
  | ret d M1 => rw [e] at P; exact P
  | brk sd1 M1 => rw [e] at P; exact P
  | ct sd1 M1 => rw [e] at P; exact P
  | stuck => rw [e] at P; exact P
  | exc C ns ds sd1 M1 =>
    rw [e] at P
    have P : PostS X.K X.mg W ro H D0 (match exm C with | some true => finS i (ms 0 (some 0) (sd1.set i (exSlot C ns ds 0 0)) M1) | some false => .exc C ns ds sd1 M1 | none => .stuck) := P
    intro ro' H' st' cls dd R' P' S' rx
    obtain ⟨cc, rfl, hmg, rx'⟩ := id rx
    cases hm : exm C with
    | none => rw [hm] at P; exact P.elim
    | some b =>
      rw [hm] at P
      refine ⟨b, hx.ok C b hm cc hmg, fun hbt a na => ?_, fun hbf => ?_⟩
      · subst hbt
        have P : PostS X.K X.mg W ro H D0 (finS i (ms 0 (some 0) (sd1.set i (exSlot C ns ds 0 0)) M1)) := P
        rw [← heq a dd C ns ds sd1 M1 (fun z => by rcases rx' with ⟨_, h2, _⟩ | ⟨d, vs, h1, _⟩; exact h2; rw [h1] at z; cases z)] at P
        refine ⟨⟨C, cc, hm, hmg, rfl⟩, ro', sd1.set i (exSlot C ns ds a (dd.getD 0)), M1, R', ?_, ?_⟩
        · unfold exSlot
          split
          · exact S'.unset
          · rename_i hne
            refine S'.set ?_
            rcases rx' with ⟨_, h2, _⟩ | ⟨d, vs, rfl, h2, h3, h4, h5⟩
            · exact absurd h2 hne
            · exact ⟨a, vs, ⟨rfl, rfl⟩, h2, h3, h4, h5⟩
        · have P := PostS.moves P P'
          cases er : ms a dd (sd1.set i (exSlot C ns ds a (dd.getD 0))) M1 with
          | nx sd2 M2 => rw [er] at P; exact fun ro2 H2 st2 R2 P2 S2 => P ro2 H2 _ R2 P2 S2.unset
          | brk sd2 M2 => rw [er] at P; exact fun ro2 H2 st2 R2 P2 S2 => P ro2 H2 _ R2 P2 S2.unset
          | ct sd2 M2 => rw [er] at P; exact fun ro2 H2 st2 R2 P2 S2 => P ro2 H2 _ R2 P2 S2.unset
          | ret d M2 => rw [er] at P; exact P
          | exc => rw [er] at P; exact P.elim
          | stuck => rw [er] at P; exact P
      · subst hbf
        exact P ro' H' st' _ dd R' P' S' rx
/-- e.f, e the exception that the suite holds -/
def xfE (a : Addr) (d : Option Addr) (f : String) (m : ME) : ME := fun sd M => (m sd M).bind fun e M1 => match e with
  | .exn _ ns ds x y => if x = a ∧ some y = d then (match lookF ns ds f with
    | some r => .ok r M1
    | none => .stuck) else .stuck
  | _ => .stuck
theorem de_xf {a : Addr} {oe : Obj} {cls : Value} {d : Option Addr} {pn : List (Addr × Obj)} {e : Expr} {m : ME} {f : String} (hz : Zc cls d oe) (hf : ∃ vs, oe.data = .fields vs) (hcl : Caught X.mg exm cls)
    (T : ∀ C cc, exm C = some true → X.mg (Str.ofString C) = some (.ref cc) → XfC X.K cc ∧ PySem.W.findIn X.K (.ref cc) (Str.ofString f) = some none) (he : DE (X.suite a ((a, oe) :: pn)) W0 e m)
    (hb : attributeBase e (Str.ofString f) X.env (eval e X.env) = eval e X.env := by rfl) : DE (X.suite a ((a, oe) :: pn)) W0 (.Attribute e (Str.ofString f) pos) (xfE a d f m) := by
  obtain ⟨C, cc, h1, h2, rfl⟩ := hcl
  obtain ⟨t1, t2⟩ := T C cc h1 h2
  refine ⟨⟨fun pins s st H Q I q => (pe_xf t1 t2 hz hf he.pe hb).run pins s st H Q I ?_⟩⟩
  obtain ⟨ro, sd, M, R, S, P⟩ := q
  refine ⟨ro, sd, M, R, S, (Post.bind P).imp fun x H1 ⟨ro1, M1, e', R1, P1, r1, q1⟩ => ?_⟩
  cases e' with
  | exn C' ns ds x' y' =>
    obtain ⟨b, vs, ⟨rfl, eb⟩, hH, hn, hl, rs⟩ := r1
    subst eb
    by_cases hxy : b = a ∧ some y' = d
    · have q2 : PostD X.K X.mg (fun _ _ _ => False) ro1 H1 Q (match lookF ns ds f with | some r => .ok r M1 | none => .stuck) := by
        simp only [hxy, and_self, if_true] at q1
        exact q1
      obtain ⟨rfl, rfl⟩ := hxy
      cases hr : lookF ns ds f with
      | none => rw [hr] at q2; exact q2.elim
      | some r =>
        rw [hr] at q2
        obtain ⟨v, hv, rv⟩ := lookF_some rs hr
        exact ⟨rfl, rfl, y', _, v, rfl, hH, hv, PostD.pure R1 rv q2⟩
    · simp only [hxy, if_false] at q1
      exact q1.elim
  | _ => exact q1.elim
end
end DL
namespace DL
open PySem PySem.Spec L2
open PyProof.Rows hiding St
section
variable {K : PySem.W.Frag} {mg : Str → Option Value}
/-- except by a table -/
def exmL (l : List (String × Bool)) : String → Option Bool := fun C => match l with
  | [] => none
  | (B, b) :: r => if B = C then some b else exmL r C
theorem exmL_nil {c : Value} : ExM K mg c (exmL []) := ⟨fun C b h => by cases h⟩
theorem exmL_cons {c : Value} {B : String} {cB : Addr} {b : Bool} {l : List (String × Bool)} (hm : mg (Str.ofString B) = some (.ref cB)) (h : PySem.W.exmOne K (.ref cB) c = some b) (r : ExM K mg c (exmL l)) : ExM K mg c (exmL ((B, b) :: l)) := ⟨fun C k e cc hc => by
  unfold exmL at e
  split at e
  · rename_i q
    cases e
    subst q
    rw [hm] at hc; cases hc
    exact h
  · exact r.ok C k e cc hc⟩
/-- fields of what is caught -/
abbrev XfT (K : PySem.W.Frag) (mg : Str → Option Value) (exm : String → Option Bool) (f : String) : Prop := ∀ C cc, exm C = some true → mg (Str.ofString C) = some (.ref cc) → XfC K cc ∧ PySem.W.findIn K (.ref cc) (Str.ofString f) = some none
theorem xfT_nil {f : String} : XfT K mg (exmL []) f := fun C cc h => by cases h
theorem xfT_yes {f B : String} {cB : Addr} {l : List (String × Bool)} (hm : mg (Str.ofString B) = some (.ref cB)) (x : XfC K cB) (h : PySem.W.findIn K (.ref cB) (Str.ofString f) = some none) (r : XfT K mg (exmL l) f) : XfT K mg (exmL ((B, true) :: l)) f := fun C cc e hc => by
  unfold exmL at e
  split at e
  · rename_i q
    subst q
    rw [hm] at hc; cases hc
    exact ⟨x, h⟩
  · exact r C cc e hc
theorem oexC_mk {C : Addr} {nm q : Str} {N : Addr} {bs bm : List Value} {sn : List Str} {sub : List Value} {ab : Bool} {col : Option Bool} {dd : Option Addr} {k0 k1 k2 k3 k5 : Option Value} (l : K.lookup C = some (excClassObj nm q C N bs bm true sn sub ab col dd k0 k1 k2 k3 k5 "ValueError.__new__")) (r : PySem.HandSPX.refsVE bm = true)
    (sa : PySem.W.findIn K (.ref C) "__setattr__" = some (some (.builtin "object.__setattr__"))) (ex : PySem.W.subIn K (.ref C) (.type "BaseException") = some true) (ty : PySem.W.typeIn K (.ref C) = some (.type "type")) (kc : PySem.W.keepIn K (.ref C) = true) : OexC K C :=
  ⟨⟨nm, q, N, bs, bm, sn, sub, ab, col, dd, k0, k1, k2, k3, k5, l, r⟩, sa, ex, ty, kc⟩
end
theorem dok_stuck {P : Program} {w : World} {K : PySem.W.Frag} {mg : Str → Option Value} {base : Heap} {k : Nat} {f : Addr} {fd : FuncData} {ps : List Str} : DOk P w K mg base k f fd ps (fun _ _ => .stuck) :=
  ⟨fun vs H Q E h => h.1, fun A outer s H args us vs Q E hr he hb hv h => by
    obtain ⟨_, _, _, _, _, _, z⟩ := h
    exact z.elim⟩
end DL
namespace DL
open PySem PySem.Spec L2
open PyProof.Rows hiding St
def fmtE (m : ME) : ME := fun sd M => (m sd M).bind fun d M1 => match d with
  | .str x => if x.length ≤ 1000000 then .ok (.str x) M1 else .stuck
  | .int i => if i.natAbs.log2 < 1900 then .ok (.str ((toString i : Str).cps.toList)) M1 else .stuck
  | _ => .stuck
def jGo : List ME → List Nat → ME
  | [], acc => fun _ M => .ok (.str acc) M
  | m :: ms, acc => fun sd M => (m sd M).bind fun d M1 => match d with
    | .str y => if acc.length + y.length ≤ 1000000 then jGo ms (acc ++ y) sd M1 else .stuck
    | _ => .stuck
def fstrE (ms : List ME) : ME := jGo ms []
inductive DJ (X : Cx) (W : WX) : List Expr → List ME → Prop where
  | nil : DJ X W [] []
  | cons {e : Expr} {m : ME} {es : List Expr} {ms : List ME} (h : DE X W e m) (r : DJ X W es ms) : DJ X W (e :: es) (m :: ms)
section
variable {X : Cx} {W : WX}
theorem de_fmt {e : Expr} {m : ME} {pos : Pos} (he : DE X W e m) : DE X W (.FormattedValue e (-1) none pos) (fmtE m) := by
  refine ⟨⟨fun pins s st H Q I q => (pe_fmt he.pe).run pins s st H Q I ?_⟩⟩
  obtain ⟨ro, sd, M, R, S, P⟩ := q
  refine ⟨ro, sd, M, R, S, (Post.bind P).imp fun x H1 ⟨ro1, M1, d, R1, P1, r1, q1⟩ => ?_⟩
  cases d with
  | str y =>
    have q1 : PostD X.K X.mg (fun c d H' => W c d st H') ro1 H1 Q (if y.length ≤ 1000000 then .ok (.str y) M1 else .stuck) := q1
    cases (show x = V.str (tx y) from r1)
    split at q1
    · rename_i hl
      exact .inl ⟨tx y, rfl, by simp only [Str.length, List.size_toArray]; exact line_le hl, PostD.pure (d := .str y) R1 rfl q1⟩
    · exact q1.elim
  | int i =>
    have q1 : PostD X.K X.mg (fun c d H' => W c d st H') ro1 H1 Q (if i.natAbs.log2 < 1900 then .ok (.str ((toString i : Str).cps.toList)) M1 else .stuck) := q1
    cases (show x = V.int i from r1)
    split at q1
    · rename_i hl
      exact .inr ⟨i, rfl, by omega, PostD.pure (d := .str ((toString i : Str).cps.toList)) R1 (by show V.str _ = V.str (tx _); simp [tx]) q1⟩
    · exact q1.elim
  | _ => exact q1.elim
theorem dj_pj : ∀ {es : List Expr} {ms : List ME}, DJ X W es ms → PJ X es (ms.map fun m => liftE X.K X.mg W m)
  | _, _, .nil => .nil
  | _, _, .cons h r => .cons h.pe (dj_pj r)
theorem tJs_of : ∀ {ms : List ME} {acc : List Nat} {st : St} {H : Hp} {Q : VK}, liftE X.K X.mg W (jGo ms acc) st H Q → tJs (ms.map fun m => liftE X.K X.mg W m) (tx acc) st H (fun out H1 => Q (.str out) H1)
  | [], acc, st, H, Q, ⟨ro, sd, M, R, S, P⟩ => PostD.pure (d := .str acc) R rfl P
  | m :: ms, acc, st, H, Q, ⟨ro, sd, M, R, S, P⟩ => by
    refine ⟨ro, sd, M, R, S, (Post.bind P).imp fun x H1 ⟨ro1, M1, d, R1, P1, r1, q1⟩ => ?_⟩
    cases d with
    | str y =>
      have q1 : PostD X.K X.mg (fun c d H' => W c d st H') ro1 H1 Q (if acc.length + y.length ≤ 1000000 then jGo ms (acc ++ y) sd M1 else .stuck) := q1
      cases (show x = V.str (tx y) from r1)
      split at q1
      · rename_i hl
        refine ⟨tx y, rfl, ?_, ?_⟩
        · rw [Str.tx_append]
          simp only [Str.length, List.size_toArray, List.length_append]
          exact line_le hl
        · rw [Str.tx_append]
          exact tJs_of ⟨ro1, sd, M1, R1, S.mono P1, q1⟩
      · exact q1.elim
    | _ => exact q1.elim
theorem de_fstr {v1 v2 : Expr} {rest : List Expr} {ms : List ME} {pos : Pos} (h : DJ X W (v1 :: v2 :: rest) ms) : DE X W (.JoinedStr (v1 :: v2 :: rest) pos) (fstrE ms) :=
  ⟨⟨fun pins s st H Q I q => (pe_joined (dj_pj h)).run pins s st H Q I (tJs_of q)⟩⟩
end
end DL
namespace DL
open PySem PySem.Spec L2
open PyProof.Rows hiding St
theorem xf_set {i : Nat} {f : String} {a : Addr} {d : Option Addr} {C : String} {ns : List String} {ds : List D} {sd : SD} {M : MS} (h : d = none → ns = []) :
    xfE a d f (nameE i) (sd.set i (exSlot C ns ds a (d.getD 0))) M = xfE 0 (some 0) f (nameE i) (sd.set i (exSlot C ns ds 0 0)) M := by
  unfold xfE nameE
  by_cases hi : i < sd.length
  · rw [List.getElem?_set_self hi, List.getElem?_set_self hi]
    unfold exSlot
    by_cases hn : ns = []
    · rw [if_pos hn, if_pos hn]; rfl
    · rw [if_neg hn, if_neg hn]
      cases d with
      | none => exact absurd (h rfl) hn
      | some dd => simp
  · rw [List.getElem?_eq_none (by rw [List.length_set]; omega), List.getElem?_eq_none (by rw [List.length_set]; omega)]; rfl
end DL
namespace DL
open PySem PySem.Spec L2
open PyProof.Rows hiding St
section
variable {K : PySem.W.Frag}
theorem kitCls_own {t : Value} {C : Addr} {b : Bool} (h1 : PySem.W.isClsIn K C = true) (h2 : PySem.W.typeIn K (.ref C) = some (.type "type")) (h3 : PySem.W.subIn K t (.ref C) = some b) : PySem.W.kitCls K t (.ref C) = some b := by
  unfold PySem.W.kitCls
  unfold PySem.W.isClsIn at h1
  simp [h1, h2, h3]
theorem exm_own {t : Value} {C : Addr} {b : Bool} (h0 : PySem.W.subIn K (.ref C) (.type "BaseException") = some true) (h1 : PySem.W.isClsIn K C = true) (h2 : PySem.W.typeIn K (.ref C) = some (.type "type")) (h3 : PySem.W.subIn K t (.ref C) = some b) : PySem.W.exmOne K t (.ref C) = some b := by
  unfold PySem.W.exmOne
  rw [h0]
  exact kitCls_own h1 h2 h3
end
end DL
namespace DL
open PySem PySem.Spec L2
open PyProof.Rows hiding St
section
variable {sd w : SD} {M : MS} {d : D} {ds : List D} {i : Nat} {b : MST} {tt : MB} {te : ME}
@[simp] theorem nameG_ap : nameG i d sd = some (sd.set i (some d)) := rfl
@[simp] theorem intsI_chk {xs : List Int} : (intsI xs).chk = fun _ => True := rfl
/-- what one turn gives goes on -/
def SRes.loop (r : SRes) (k : SD → MS → SRes) : SRes := match r with
  | .nx sd M => k sd M
  | .ct sd M => k sd M
  | .brk sd M => .nx sd M
  | .ret v M => .ret v M
  | .exc C ns ds sd M => .exc C ns ds sd M
  | .stuck => .stuck
@[simp] theorem SRes.loop_nx {k : SD → MS → SRes} : (SRes.nx sd M).loop k = k sd M := rfl
@[simp] theorem SRes.loop_ct {k : SD → MS → SRes} : (SRes.ct sd M).loop k = k sd M := rfl
@[simp] theorem SRes.loop_brk {k : SD → MS → SRes} : (SRes.brk sd M).loop k = .nx sd M := rfl
@[simp] theorem SRes.loop_ret {k : SD → MS → SRes} : (SRes.ret d M).loop k = .ret d M := rfl
@[simp] theorem SRes.loop_exc {k : SD → MS → SRes} {C : String} {ns : List String} : (SRes.exc C ns ds sd M).loop k = .exc C ns ds sd M := rfl
@[simp] theorem forGo_nil {g : MG} : forGo (fun _ => True) g b [] sd M = .nx sd M := by unfold forGo; simp
@[simp] theorem forGo_cons : forGo (fun _ => True) (nameG i) b (d :: ds) sd M = (b (sd.set i (some d)) M).loop (forGo (fun _ => True) (nameG i) b ds) := by
  conv => lhs; unfold forGo
  simp
  unfold SRes.loop
  cases b (sd.set i (some d)) M <;> rfl
/-- a comprehension over a typed list that changes nothing -/
theorem lc_typed {α : Type} {g : α → D} {p : α → Bool} {f : α → D} {xs : List α} (hl : xs.length ≤ 1000000) (h : ∀ x, x ∈ xs → tt (w.set i (some (g x))) M = .ok (p x) M ∧ (p x = true → te (w.set i (some (g x))) M = .ok (f x) M)) :
    lcGo (fun _ => True) (nameG i) tt te w (xs.map g) [] M = .ok ((xs.filter p).map f) M := by
  have key : ∀ (xs : List α) (acc : List D), acc.length + xs.length ≤ 1000000 → (∀ x, x ∈ xs → tt (w.set i (some (g x))) M = .ok (p x) M ∧ (p x = true → te (w.set i (some (g x))) M = .ok (f x) M)) →
      lcGo (fun _ => True) (nameG i) tt te w (xs.map g) acc M = .ok (acc ++ (xs.filter p).map f) M := by
    intro xs
    induction xs with
    | nil => intro acc _ _; simp [lcGo]
    | cons x xs ih =>
      intro acc hl h
      obtain ⟨h1, h2⟩ := h x List.mem_cons_self
      have h3 : ∀ y, y ∈ xs → _ := fun y hy => h y (List.mem_cons_of_mem _ hy)
      rw [List.map_cons]
      unfold lcGo
      rw [if_pos trivial, nameG_ap]
      dsimp only
      rw [h1, Res.ne_ok, Res.bind_ok]
      cases hp : p x with
      | false => simp only [Bool.false_eq_true, if_false]; rw [ih acc (by simp at hl; omega) h3]; simp [hp]
      | true =>
        rw [if_pos rfl, h2 hp, Res.ne_ok, Res.bind_ok, if_pos (by simp at hl; omega), ih (acc ++ [f x]) (by simp at hl ⊢; omega) h3]
        simp [hp]
  have := key xs [] (by simpa using hl) h
  simpa using this
theorem lc_map {α : Type} {g : α → D} {f : α → D} {xs : List α} (hl : xs.length ≤ 1000000) (h : ∀ x, x ∈ xs → te (w.set i (some (g x))) M = .ok (f x) M) :
    lcGo (fun _ => True) (nameG i) yesB te w (xs.map g) [] M = .ok (xs.map f) M := by
  have := lc_typed (tt := yesB) (te := te) (p := fun _ => true) (f := f) (M := M) (w := w) (i := i) (g := g) hl fun x hx => ⟨rfl, fun _ => h x hx⟩
  rwa [List.filter_eq_self.mpr (fun _ _ => rfl)] at this
end
mutual
def toP : D → PyData
  | .bl b => .bool b
  | .int i => .int i
  | .str x => .str (tx x)
  | .tup ds => .tuple (toPs ds)
  | .lst ds => .list (toPs ds)
  | .flst ds => .list (toPs ds)
  | _ => .none
def toPs : List D → List PyData
  | [] => []
  | d :: ds => toP d :: toPs ds
end
abbrev okC (x : List Nat) : Prop := ∀ c, c ∈ x → c < 1114112
mutual
/-- no objects, n levels at most -/
def plN : Nat → D → Prop
  | n, .non => True
  | n, .bl _ => True
  | n, .int _ => True
  | n, .str x => okC x
  | 0, .tup _ => False
  | 0, .lst _ => False
  | 0, .flst _ => False
  | n + 1, .tup ds => plNs n ds
  | n + 1, .lst ds => plNs n ds
  | n + 1, .flst ds => plNs n ds
  | _, _ => False
def plNs : Nat → List D → Prop
  | _, [] => True
  | n, d :: ds => plN n d ∧ plNs n ds
end
theorem toP_str {x : List Nat} (h : okC x) : PyData.canLay0 (.str (tx x)) = true := by
  simpa [PyData.canLay0, PyData.strOk] using h
mutual
theorem pl_py {M : MS} : ∀ (n m : Nat) (d : D), plN n d → n ≤ m → pyN (m + 1) M d = some (toP d) ∧ PyData.canLay0 (toP d) = true ∧ PyData.depth (toP d) ≤ n
  | n, m, .non, _, _ => ⟨rfl, rfl, by simp [toP, PyData.depth]⟩
  | n, m, .bl _, _, _ => ⟨rfl, rfl, by simp [toP, PyData.depth]⟩
  | n, m, .int _, _, _ => ⟨rfl, rfl, by simp [toP, PyData.depth]⟩
  | n, m, .str x, h, _ => ⟨rfl, toP_str (by cases n <;> exact h), by simp [toP, PyData.depth]⟩
  | 0, _, .tup _, h, _ => h.elim
  | 0, _, .lst _, h, _ => h.elim
  | 0, _, .flst _, h, _ => h.elim
  | n + 1, 0, .tup _, _, h => absurd h (by omega)
  | n + 1, 0, .lst _, _, h => absurd h (by omega)
  | n + 1, 0, .flst _, _, h => absurd h (by omega)
  | n + 1, m + 1, .tup ds, h, hm => by
    obtain ⟨h1, h2, h3⟩ := pls_py (M := M) n m ds h (by omega)
    refine ⟨?_, h2, ?_⟩
    · show (mapO (pyN (m + 1) M) ds).map PyData.tuple = _
      rw [h1]; rfl
    · simp only [toP, PyData.depth]; omega
  | n + 1, m + 1, .lst ds, h, hm => by
    obtain ⟨h1, h2, h3⟩ := pls_py (M := M) n m ds h (by omega)
    refine ⟨?_, h2, ?_⟩
    · show (mapO (pyN (m + 1) M) ds).map PyData.list = _
      rw [h1]; rfl
    · simp only [toP, PyData.depth]; omega
  | n + 1, m + 1, .flst ds, h, hm => by
    obtain ⟨h1, h2, h3⟩ := pls_py (M := M) n m ds h (by omega)
    refine ⟨?_, h2, ?_⟩
    · show (mapO (pyN (m + 1) M) ds).map PyData.list = _
      rw [h1]; rfl
    · simp only [toP, PyData.depth]; omega
  | n, m, .obj .., h, _ => by cases n <;> exact h.elim
  | n, m, .dic .., h, _ => by cases n <;> exact h.elim
  | n, m, .glo .., h, _ => by cases n <;> exact h.elim
  | n, m, .ty .., h, _ => by cases n <;> exact h.elim
  | n, m, .exn .., h, _ => by cases n <;> exact h.elim
  | n, m, .cell .., h, _ => by cases n <;> exact h.elim
theorem pls_py {M : MS} : ∀ (n m : Nat) (ds : List D), plNs n ds → n ≤ m → mapO (pyN (m + 1) M) ds = some (toPs ds) ∧ PyData.canLayAll0 (toPs ds) = true ∧ PyData.depthAll (toPs ds) ≤ n
  | n, m, [], _, _ => ⟨rfl, rfl, by simp [toPs, PyData.depthAll]⟩
  | n, m, d :: ds, h, hm => by
    obtain ⟨h1, h2, h3⟩ := pl_py (M := M) n m d h.1 hm
    obtain ⟨g1, g2, g3⟩ := pls_py (M := M) n m ds h.2 hm
    refine ⟨?_, ?_, ?_⟩
    · simp only [mapO, h1, g1, toPs]
    · simp [toPs, PyData.canLayAll0, h2, g2]
    · simp only [toPs, PyData.depthAll]; omega
end
/-- the laws' == -/
def eqvD (d e : D) : Bool := PyData.eqv (toP d) (toP e)
def eqvDs (d e : List D) : Bool := PyData.eqvAll (toPs d) (toPs e)
theorem eqSc_v {d e : D} {b : Bool} (h : eqSc d e = some b) : eqvD d e = b := by
  cases d <;> cases e <;> first | cases h | skip
  all_goals first | rfl | skip
  simp only [eqvD, toP, PyData.eqv]
  rename_i x y
  by_cases hxy : x = y
  · subst hxy; simp
  · have : ¬ tx x = tx y := fun z => hxy (tx_inj.mp z)
    rw [beq_eq_false_iff_ne.mpr this, beq_eq_false_iff_ne.mpr hxy]
theorem eqD_plN {neg : Bool} {d e : D} {M : MS} (n : Nat) (hn : n ≤ 29) (hd : plN n d) (he : plN n e) : eqD neg d e M = .ok (.bl (eqvD d e != neg)) M := by
  unfold eqD
  split
  · rename_i h
    obtain ⟨b, hb⟩ := Option.isSome_iff_exists.mp h
    unfold eqS
    rw [hb, eqSc_v hb]
  · obtain ⟨h1, h2, h3⟩ := pl_py (M := M) n 29 d hd (by omega)
    obtain ⟨g1, g2, g3⟩ := pl_py (M := M) n 29 e he (by omega)
    unfold eqP pyD
    rw [h1, g1]
    have s1 : SeqAt.shaped (toP d) = true := by unfold SeqAt.shaped; simp [h2]; omega
    have s2 : SeqAt.shaped (toP e) = true := by unfold SeqAt.shaped; simp [g2]; omega
    simp only [s1, s2, and_self, if_true]
    rfl
theorem eqD_pl {neg : Bool} {d e : D} {M : MS} (hd : plN 7 d) (he : plN 7 e) : eqD neg d e M = .ok (.bl (eqvD d e != neg)) M := eqD_plN 7 (by omega) hd he
theorem eqvD_lst {ds es : List D} : eqvD (.lst ds) (.lst es) = eqvDs ds es := by simp [eqvD, eqvDs, toP, PyData.eqv]
theorem eqvD_str {x y : List Nat} : eqvD (.str x) (.str y) = (x == y) := eqSc_v rfl
theorem eqvDs_cons {d e : D} {ds es : List D} : eqvDs (d :: ds) (e :: es) = (eqvD d e && eqvDs ds es) := by simp [eqvDs, eqvD, toPs, PyData.eqvAll]
theorem eqvDs_nil : eqvDs [] [] = true := rfl
theorem eqvDs_nc {d : D} {ds : List D} : eqvDs [] (d :: ds) = false := rfl
theorem eqvDs_cn {d : D} {ds : List D} : eqvDs (d :: ds) [] = false := rfl
theorem plNs_map {α : Type} {n : Nat} {g : α → D} : ∀ {xs : List α}, (∀ x, x ∈ xs → plN n (g x)) → plNs n (xs.map g)
  | [], _ => trivial
  | x :: xs, h => ⟨h x List.mem_cons_self, plNs_map fun y hy => h y (List.mem_cons_of_mem _ hy)⟩
/-- texts of the world, ints, lists of them at top -/
@[simp] theorem plN_str {n : Nat} {x : List Nat} : plN n (.str x) = okC x := by cases n <;> rfl
@[simp] theorem plN_int {n : Nat} {x : Int} : plN n (.int x) = True := by cases n <;> rfl
@[simp] theorem plN_bl {n : Nat} {x : Bool} : plN n (.bl x) = True := by cases n <;> rfl
@[simp] theorem plN_non {n : Nat} : plN n .non = True := by cases n <;> rfl
@[simp] theorem plN_lst {n : Nat} {ds : List D} : plN (n + 1) (.lst ds) = plNs n ds := rfl
@[simp] theorem plN_flst {n : Nat} {ds : List D} : plN (n + 1) (.flst ds) = plNs n ds := rfl
@[simp] theorem plN_tup {n : Nat} {ds : List D} : plN (n + 1) (.tup ds) = plNs n ds := rfl
@[simp] theorem plNs_nil {n : Nat} : plNs n [] = True := rfl
@[simp] theorem plNs_cons {n : Nat} {d : D} {ds : List D} : plNs n (d :: ds) = (plN n d ∧ plNs n ds) := rfl
section
variable {sd : SD} {M : MS} {ms : MA} {h : D → List D → MS → Res D}
@[simp] theorem bmK_strS {x : List Nat} : bmK "str" h ms sd (.str x) M = (ms sd M).bind (bmK2 h (.str x)) := if_pos rfl
@[simp] theorem bmK_lstS {ds : List D} : bmK "list" h ms sd (.lst ds) M = (ms sd M).bind (bmK2 h (.lst ds)) := if_pos rfl
@[simp] theorem sL_nil : sL "" = [] := rfl
end
end DL
namespace DL
open PySem PySem.Spec L2
open PyProof.Rows hiding St
def blOf : D → Option Bool
  | .bl b => some b
  | _ => none
def intOf : D → Option Int
  | .int b => some b
  | _ => none
def stOf : D → Option (List Nat)
  | .str b => some b
  | _ => none
abbrev blsOf (ds : List D) : Option (List Bool) := mapO blOf ds
abbrev intsOf (ds : List D) : Option (List Int) := mapO intOf ds
abbrev stsOf (ds : List D) : Option (List (List Nat)) := mapO stOf ds
theorem mapO_eq {A : Type} {f : D → Option A} {g : A → D} (h : ∀ d a, f d = some a → d = g a) : ∀ {ds : List D} {as : List A}, mapO f ds = some as → ds = as.map g
  | [], as, e => by cases e; rfl
  | d :: ds, as, e => by
    unfold mapO at e
    cases h1 : f d with
    | none => rw [h1] at e; cases e
    | some a =>
      cases h2 : mapO f ds with
      | none => rw [h1, h2] at e; cases e
      | some bs =>
        rw [h1, h2] at e; cases e
        rw [h d a h1, mapO_eq h h2]; rfl
theorem mapO_map {A : Type} {f : D → Option A} {g : A → D} (h : ∀ a, f (g a) = some a) : ∀ as : List A, mapO f (as.map g) = some as
  | [] => rfl
  | a :: as => by simp only [List.map_cons, mapO, h a, mapO_map h as]
theorem intsOf_eq {ds : List D} {bs : List Int} (e : intsOf ds = some bs) : ds = bs.map D.int := mapO_eq (fun d a h => by cases d <;> cases h; rfl) e
theorem stsOf_eq {ds : List D} {bs : List (List Nat)} (e : stsOf ds = some bs) : ds = bs.map D.str := mapO_eq (fun d a h => by cases d <;> cases h; rfl) e
@[simp] theorem blsOf_map (bs : List Bool) : blsOf (bs.map D.bl) = some bs := mapO_map (f := blOf) (g := D.bl) (fun _ => rfl) bs
@[simp] theorem intsOf_map (bs : List Int) : intsOf (bs.map D.int) = some bs := mapO_map (f := intOf) (g := D.int) (fun _ => rfl) bs
@[simp] theorem stsOf_map (bs : List (List Nat)) : stsOf (bs.map D.str) = some bs := mapO_map (f := stOf) (g := D.str) (fun _ => rfl) bs
section
variable {K : PySem.W.Frag} {mg : Str → Option Value} {ro : Pl} {H : Hp}
theorem map_reps {A : Type} {g : A → D} {v : A → V} (h : ∀ a, Rep K mg ro H (g a) (v a)) : ∀ as : List A, Reps K mg ro H (as.map g) (as.map v)
  | [] => rfl
  | a :: as => ⟨_, _, rfl, h a, map_reps h as⟩
end
/-- the items of one list -/
def lst1 (ds : List D) (M : MS) : Option (List D) := match ds with
  | [d] => if isTup d = true then none else seqOf M d
  | _ => none
theorem lst1_at {K : PySem.W.Frag} {mg : Str → Option Value} {ro : Pl} {H : Hp} {M : MS} (R : RelS K mg ro M H) {ds : List D} {xs : List V} {es : List D} (rs : Reps K mg ro H ds xs) (h : lst1 ds M = some es) : ∃ a vs, xs = [.ref a] ∧ SqL K H a vs ∧ Reps K mg ro H es vs := by
  unfold lst1 at h
  split at h
  · rename_i d
    split at h
    · cases h
    · rename_i ht
      obtain ⟨x, rfl, rx⟩ := reps1 rs
      obtain ⟨a, vs, rfl, hq, q⟩ := seq_list R rx h (by simpa using ht)
      exact ⟨a, vs, rfl, hq, q⟩
  · cases h
def sumF (ds : List D) (M : MS) : Res D := match (lst1 ds M).bind intsOf with
  | some bs => .ok (.int bs.sum) M
  | none => .stuck
def leS (a b : List Nat) : Bool := !decide (b < a)
def sortT (ns : List (List Nat)) : List (List Nat) := ns.mergeSort leS
def sortedSF (ds : List D) (M : MS) : Res D := match (lst1 ds M).bind stsOf with
  | some bs => if bs.length < 64 then .ok (.lst ((sortT bs).map D.str)) M else .stuck
  | none => .stuck
section
variable {X : Cx}
theorem callS_sum (hc : X.calm = true) : CallS X (.builtin "sum") sumF := by
  refine ⟨_, cr_sum hc, fun ro H M ds xs E Q R rs P => ?_⟩
  unfold sumF at P
  split at P
  · rename_i bs h
    obtain ⟨es, h1, h2⟩ := Option.bind_eq_some_iff.mp h
    obtain ⟨a, vs, rfl, hq, q⟩ := lst1_at R rs h1
    rw [intsOf_eq h2] at q
    rw [Reps.ints q] at hq
    exact ⟨a, bs, rfl, hq, PostD.pure (d := .int _) R rfl P⟩
  · exact P.elim
end
def chK (f g : D → D → MS → Res D) (c : ME) (sd : SD) (x y : D) : D → MS → Res D := fun z M3 => match z with
  | .bl true => (c sd M3).bind fun w M4 => g y w M4
  | .bl false => .ok (.bl false) M3
  | _ => .stuck
def chE (f g : D → D → MS → Res D) (a b c : ME) : ME := fun sd M => (a sd M).bind fun x M1 => (b sd M1).bind fun y M2 => (f x y M2).bind (chK f g c sd x y)
@[simp] theorem chE_ap {f g : D → D → MS → Res D} {a b c : ME} {sd : SD} {M : MS} : chE f g a b c sd M = (a sd M).bind fun x M1 => (b sd M1).bind fun y M2 => (f x y M2).bind (chK f g c sd x y) := rfl
@[simp] theorem chK_t {f g : D → D → MS → Res D} {c : ME} {sd : SD} {M : MS} {x y : D} : chK f g c sd x y (.bl true) M = (c sd M).bind fun w M4 => g y w M4 := rfl
@[simp] theorem chK_f {f g : D → D → MS → Res D} {c : ME} {sd : SD} {M : MS} {x y : D} : chK f g c sd x y (.bl false) M = .ok (.bl false) M := rfl
def splF (d : D) (ds : List D) (M : MS) : Res D := match d, ds with
  | .str x, [.str y] => if 0 < y.length ∧ x.length ≤ 900000 then .ok (.lst ((Txt.split (tx x) (tx y)).map fun z => D.str z.cps.toList)) M else .stuck
  | _, _ => .stuck
theorem mtS_split {X : Cx} : MtS X "str" "str.split" splF := by
  refine ⟨_, mt_split, fun ro H M d ds x xs E Q R r rs P => ?_⟩
  unfold splF at P
  split at P
  · split at P
    · rename_i hl
      cases (show x = V.str (tx _) from r)
      obtain ⟨v, rfl, rv⟩ := reps1 rs
      cases (show v = V.str (tx _) from rv)
      refine ⟨_, _, rfl, rfl, ?_, ?_, fun p hp => PostD.newL R ?_ P p hp⟩
      · simp only [Str.length, List.size_toArray]; simp; intro e; rw [e] at hl; simp at hl
      · simp only [Str.length, List.size_toArray]; exact line_le (by omega)
      · exact map_reps (g := fun z : Str => D.str z.cps.toList) (v := V.str) (fun z => by show V.str z = V.str (tx _); simp [tx]) _
    · exact P.elim
  · exact P.elim
end DL
namespace DL
open PySem PySem.Spec L2
open PyProof.Rows hiding St
end DL
namespace DL
open PySem PySem.Spec L2
open PyProof.Rows hiding St
end DL
namespace DL
open PySem PySem.Spec L2
open PyProof.Rows hiding St
def revT (z : Str) : Str := ⟨z.cps.toList.reverse.toArray⟩
def tRevA (K : PySem.W.Frag) (te : TE) : TE := fun σ H Q => te σ H fun x H1 => (∃ a xs, x = .ref a ∧ SqL K H1 a xs ∧ ∀ p, H1 p = none → Q (.ref p) (upd H1 p (.lst xs.reverse))) ∨ (∃ z, x = .str z ∧ z.length ≤ sizeLine ∧ Q (.str (revT z)) H1)
theorem picked_rev (z : Str) (t : Tok) : (slicePicked z none none (some (-1, t))).filterMap (z.cps[·]?) = z.cps.toList.reverse := by
  show (sliceRange ((z.length : Int) - 1) (-1) (-1)).filterMap (z.cps[·]?) = _
  rw [PySem.W.krv_sliceRange, PySem.W.krv_range, List.filterMap_reverse]
  show ((List.range z.cps.size).filterMap (z.cps[·]?)).reverse = _
  rw [PySem.W.krv_all]
theorem pe_revA {X : Cx} {e : Expr} {te : TE} {k : Nat} {p1 p2 p3 pos : Pos} (he : PE X e te) : PE X (.Subscript e (.Slice none none (some (.UnaryOp .USub (.Constant (.int 1) k p1) p2)) p3) pos) (tRevA X.K te) := by
  refine ⟨fun pins s σ H Q I h => ?_⟩
  refine Subscript_ (thn (he.run pins s σ H _ I h) fun v s1 ⟨x, H1, I1, r1, q1⟩ => ?_)
  have hst : PO X (some (.UnaryOp .USub (.Constant (.int 1) k p1) p2)) (tPart (tUn (rU fun i => .int (-i)) (tC (.int 1)))) := po_some (pe_un un_neg pe_int)
  refine wpAny_Slice (thn (po_none.run pins s1 σ H1 (fun o H2 => o = none ∧ H2 = H1) I1 ⟨rfl, rfl⟩) fun vl s2 ⟨l, H2, I2, pl, el, e2⟩ => ?_)
  subst el e2
  refine thn (po_none.run pins s2 σ H2 (fun o H3 => o = none ∧ H3 = H2) I2 ⟨rfl, rfl⟩) fun vu s3 ⟨u, H3, I3, pu, eu, e3⟩ => ?_
  subst eu e3
  refine thn (hst.run pins s3 σ H3 (fun o H4 => o = some (-1) ∧ H4 = H3) I3 ⟨1, rfl, -1, rfl, rfl, rfl⟩) fun vs s4 ⟨o, H4, I4, ps, eo, e4⟩ => ?_
  subst eo e4
  have I5 : Inv X pins σ H4 { s4 with heap := s4.heap.push { cls := .type "slice", data := .fields #[vl, vu, vs] } } := I4.kept (t' := s4.toks) fun b ob q => Heap.get?_push_of_some _ q
  rcases q1 with ⟨a, xs, ex, hx, q⟩ | ⟨z, ex, hz, q⟩
  · subst ex
    cases r1
    obtain ⟨its, r, ht, hz⟩ := I5.list hx
    have hlen := r.length
    show wpAny (model X.prog X.w) X.A (subscriptTail e (.Slice none none (some (.UnaryOp .USub (.Constant (.int 1) k p1) p2)) p3) (.ref a) (.ref s4.heap.objs.size)) (EP X pins σ Q) X.xe { s4 with heap := s4.heap.push { cls := .type "slice", data := .fields #[vl, vu, vs] } }
    refine tail_any (ops := [.ref a, .ref s4.heap.objs.size]) ht.isList.typeIs (PySem.slot_list_getitem.lookup) ?_ (by with_unfolding_all rfl)
    refine wpAny_getItem_list_slice ht.isList (Heap.IsSliceOf.new _ vl vu vs) pl pu ps (by decide) ?_ (by rw [List.size_toArray]; omega)
    rw [PySem.W.krv_pick]
    refine ⟨.ref _, _, I5.laid (t' := s4.toks) (o := .lst xs.reverse) (fun b ob q => Heap.get?_push_of_some _ q) (Nat.le_refl _) ?_, rfl, q _ (I5.hok.fresh (Nat.le_refl _))⟩
    exact ⟨by rw [List.length_reverse]; exact hz, _, 0, r.reverse, Heap.get?_push_size _ rfl⟩
  · subst ex
    obtain ⟨t, rfl⟩ := r1
    obtain ⟨l, rfl, el⟩ := IsPart.raw pl
    obtain ⟨u, rfl, eu⟩ := IsPart.raw pu
    obtain ⟨w, rfl, ew⟩ := IsPart.raw ps
    cases l with
    | some l => cases el
    | none =>
    cases u with
    | some l => cases eu
    | none =>
    cases w with
    | none => cases ew
    | some w =>
    obtain ⟨w1, w2⟩ := w
    have : w1 = -1 := by simpa using ew
    subst this
    show wpAny (model X.prog X.w) X.A (subscriptTail e (.Slice none none (some (.UnaryOp .USub (.Constant (.int 1) k p1) p2)) p3) (.str z t) (.ref s4.heap.objs.size)) (EP X pins σ Q) X.xe _
    refine tail_any (T := "str") (ops := [.str z t, .ref s4.heap.objs.size]) (typeIs_str _ _ _) F.slot_str_getitem.lookup ?_ (by with_unfolding_all rfl)
    refine wpAny_getItem_str_slice (l := none) (u := none) (st := some (-1, w2)) ⟨_, Heap.get?_push_size _ rfl, rfl, rfl⟩ rfl ?_
    show Made.post (if (false && _) = true then Made.val (.str z t) else Made.str ⟨((slicePicked z none none (some (-1, w2))).filterMap (z.cps[·]?)).toArray⟩) (EP X pins σ Q) _
    rw [if_neg (by simp), picked_rev]
    refine ⟨?_, .str _, H4, I5.tok _, ⟨_, rfl⟩, q⟩
    simpa [Str.length] using hz
def revAE (mo : ME) : ME := fun sd M => (mo sd M).bind fun d M1 => match d with
  | .str x => if x.length ≤ 1000000 then .ok (.str x.reverse) M1 else .stuck
  | d => if isTup d = true then .stuck else match seqOf M1 d with
    | some ds => .ok (.lst ds.reverse) M1
    | none => .stuck
theorem revT_tx (x : List Nat) : revT (tx x) = tx x.reverse := by
  simp [revT, tx]
theorem de_revA {X : Cx} {W : WX} {e : Expr} {mo : ME} {k : Nat} {p1 p2 p3 pos : Pos} (he : DE X W e mo) : DE X W (.Subscript e (.Slice none none (some (.UnaryOp .USub (.Constant (.int 1) k p1) p2)) p3) pos) (revAE mo) := by
  refine ⟨⟨fun pins s st H Q I q => (pe_revA he.pe).run pins s st H Q I ?_⟩⟩
  obtain ⟨ro, sd, M, R, S, P⟩ := q
  refine ⟨ro, sd, M, R, S, (Post.bind P).imp fun x H1 ⟨ro1, M1, d, R1, P1, r1, q1⟩ => ?_⟩
  have key : PostD X.K X.mg (fun c d H' => W c d st H') ro1 H1 Q (if isTup d = true then .stuck else match seqOf M1 d with | some ds => .ok (.lst ds.reverse) M1 | none => .stuck) → (∃ a xs, x = .ref a ∧ SqL X.K H1 a xs ∧ ∀ p, H1 p = none → Q (.ref p) (upd H1 p (.lst xs.reverse))) := fun q1 => by
    split at q1
    · exact q1.elim
    · rename_i ht
      split at q1
      · rename_i ds hs
        obtain ⟨a, vs, rfl, q, rs⟩ := seq_list R1 r1 hs (by simpa using ht)
        exact ⟨a, vs, rfl, q, PostD.newL R1 rs.rev q1⟩
      · exact q1.elim
  cases d with
  | str z =>
    have q1 : PostD X.K X.mg (fun c d H' => W c d st H') ro1 H1 Q (if z.length ≤ 1000000 then .ok (.str z.reverse) M1 else .stuck) := q1
    cases (show x = V.str (tx z) from r1)
    split at q1
    · rename_i hz
      exact .inr ⟨tx z, rfl, by simp only [Str.length, List.size_toArray]; exact line_le hz, by rw [revT_tx]; exact PostD.pure (d := .str z.reverse) R1 rfl q1⟩
    · exact q1.elim
  | _ => exact .inl (key q1)
@[simp] theorem revE_ap {me : ME} {sd : SD} {M : MS} : revAE me sd M = (me sd M).bind fun d M1 => match d with
  | .str x => if x.length ≤ 1000000 then .ok (.str x.reverse) M1 else .stuck
  | d => if isTup d = true then .stuck else match seqOf M1 d with
    | some ds => .ok (.lst ds.reverse) M1
    | none => .stuck := rfl
theorem leS_total (a b : List Nat) : (leS a b || leS b a) = true := by
  unfold leS
  by_cases h : b < a
  · have : ¬ a < b := fun h2 => List.lt_irrefl _ (List.lt_trans h h2)
    simp [h, this]
  · simp [h]
theorem leS_trans (a b c : List Nat) (h1 : leS a b = true) (h2 : leS b c = true) : leS a c = true := by
  unfold leS at *
  simp only [Bool.not_eq_true', decide_eq_false_iff_not, List.not_lt] at *
  exact List.le_trans h1 h2
theorem leS_anti (a b : List Nat) (h1 : leS a b = true) (h2 : leS b a = true) : a = b := by
  unfold leS at *
  simp only [Bool.not_eq_true', decide_eq_false_iff_not, List.not_lt] at *
  exact List.le_antisymm h1 h2
theorem ltCps_lt : ∀ (a b : List Nat), ltCps a b = decide (a < b)
  | [], [] => by simp [ltCps]
  | [], _ :: _ => by simp [ltCps]
  | _ :: _, [] => by simp [ltCps]
  | x :: a, y :: b => by
    have ih := ltCps_lt a b
    unfold ltCps
    rw [ih]
    by_cases h : x < y
    · simp [h, List.cons_lt_cons_iff]
    · by_cases h2 : x = y
      · subst h2; simp [List.cons_lt_cons_iff]
      · simp [h, h2, List.cons_lt_cons_iff]
theorem rising_pw : ∀ (xs : List (List Nat)) (p : List Nat), risingS (tx p) (xs.map tx) = true → (p :: xs).Pairwise (fun a b => leS a b = true)
  | [], p, _ => by simp
  | x :: xs, p, h => by
    have h : (!ltCps x.toArray.toList p.toArray.toList && risingS (tx x) (xs.map tx)) = true := h
    simp only [Bool.and_eq_true, Bool.not_eq_true', ltCps_lt] at h
    obtain ⟨h1, h2⟩ := h
    have ih := rising_pw xs x h2
    have e : leS p x = true := by unfold leS; rw [h1]; rfl
    refine List.Pairwise.cons (fun y hy => ?_) ih
    rcases List.mem_cons.mp hy with rfl | hy
    · exact e
    · exact leS_trans _ _ _ e ((List.pairwise_cons.mp ih).1 y hy)
theorem sortT_eq {ns ns' : List (List Nat)} (p : ns'.Perm ns) (q : ns'.Pairwise (fun a b => leS a b = true)) : ns' = sortT ns := by
  refine List.Perm.eq_of_pairwise (le := fun a b => leS a b = true) (fun a b _ _ h1 h2 => leS_anti a b h1 h2) q ?_ (p.trans (List.mergeSort_perm ns _).symm)
  exact List.pairwise_mergeSort (le := leS) leS_trans leS_total ns
theorem tx_map_of_perm {ys : List Str} {xs : List (List Nat)} (h : ys.Perm (xs.map tx)) : ∃ zs : List (List Nat), ys = zs.map tx ∧ zs.Perm xs := by
  have e : ys = (ys.map (fun y : Str => y.cps.toList)).map tx := by
    rw [List.map_map]
    conv => lhs; rw [← List.map_id ys]
    apply List.map_congr_left
    intro y hy
    simp [tx]
  refine ⟨_, e, ?_⟩
  have := h.map (fun y : Str => y.cps.toList)
  rw [List.map_map] at this
  have e2 : xs.map ((fun y : Str => y.cps.toList) ∘ tx) = xs := by
    conv => rhs; rw [← List.map_id xs]
    apply List.map_congr_left
    intro y hy
    simp [tx]
  rwa [e2] at this
theorem callS_sortedS {X : Cx} : CallS X (.builtin "sorted") sortedSF := by
  refine ⟨_, cr_sortedS, fun ro H M ds xs E Q R rs P => ?_⟩
  unfold sortedSF at P
  split at P
  · rename_i bs h
    split at P
    · rename_i h64
      obtain ⟨es, h1, h2⟩ := Option.bind_eq_some_iff.mp h
      obtain ⟨a, vs, rfl, hq, q⟩ := lst1_at R rs h1
      rw [stsOf_eq h2] at q
      rw [Reps.strs q] at hq
      refine ⟨a, bs.map tx, rfl, hq, by simpa using h64, fun ys p hp ho hn => ?_⟩
      obtain ⟨zs, rfl, hz⟩ := tx_map_of_perm hp
      have : zs = sortT bs := sortT_eq hz (by
        cases zs with
        | nil => exact .nil
        | cons z zs => exact rising_pw zs z ho)
      subst this
      rw [List.map_map]
      exact PostD.newL R (map_reps (g := D.str) (v := V.str ∘ tx) (fun _ => rfl) _) P p hn
    · exact P.elim
  · exact P.elim
section
variable {C m : String} {okT : TN → Bool} {F : FM} {ns ns' bs : List String} {ds ds' es : List D} {d e r : D} {M M' : MS} {b : Bool} {i : Int} {x : List Nat} {sd : SD} {a : ME} {ms : MA} {n : Nat} {g : List D → List D}
@[simp] theorem truOB_ap : truOB C F a sd M = (a sd M).bind (truO C F) := rfl
def notTK : Bool → MS → Res D := fun b M1 => .ok (.bl (!b)) M1
@[simp] theorem notTE_ap {t : MB} : notTE t sd M = (t sd M).bind notTK := rfl
@[simp] theorem notTK_ap {b : Bool} : notTK b M = .ok (.bl (!b)) M := rfl
theorem addD_lst (h : (ds.length + es.length) ≤ 1000000) : addD (.lst ds) (.lst es) M = .ok (.lst (ds ++ es)) M := by
  unfold addD
  rw [if_neg (by simp [isI2]), if_neg (by simp [isS2]), if_neg (by simp [isT2])]
  unfold addL
  simp [isTup, h]
end
end DL
namespace DL
open PySem PySem.Spec L2
open PyProof.Rows hiding St
def isNF (d e : D) (M : MS) : Res D := match e with
  | .non => .ok (.bl (isN d)) M
  | _ => .stuck
def notNF (d e : D) (M : MS) : Res D := match e with
  | .non => .ok (.bl (!isN d)) M
  | _ => .stuck
section
variable {X : Cx}
theorem opS_isNF : OpS X (compareOp .Is) isNF := opS_isN
end
end DL
namespace DL
open PySem PySem.Spec L2
open PyProof.Rows hiding St
section
variable {sd : SD} {M : MS} {d e : D} {ds es : List D} {x y : List Nat} {mo m : ME} {lo hi : MO'} {l h : Option Int}
def slK1 (lo hi : MO') (sd : SD) : D → MS → Res D := fun d M1 => (lo sd M1).bind fun l M2 => (hi sd M2).bind fun h M3 => sliceD d l h M3
def slK2 (hi : MO') (sd : SD) (d : D) : Option Int → MS → Res D := fun l M2 => (hi sd M2).bind fun h M3 => sliceD d l h M3
def slK3 (d : D) (l : Option Int) : Option Int → MS → Res D := fun h M3 => sliceD d l h M3
def soK : D → MS → Res (Option Int) := fun d M1 => match d with
  | .int i => .ok (some i) M1
  | _ => .stuck
@[simp] theorem slE_ap : slE mo lo hi sd M = (mo sd M).bind (slK1 lo hi sd) := rfl
@[simp] theorem slK1_ap : slK1 lo hi sd d M = (lo sd M).bind (slK2 hi sd d) := rfl
@[simp] theorem slK2_ap : slK2 hi sd d l M = (hi sd M).bind (slK3 d l) := rfl
@[simp] theorem slK3_ap : slK3 d l h M = sliceD d l h M := rfl
@[simp] theorem noO_ap : noO sd M = .ok none M := rfl
@[simp] theorem soO_ap : soO m sd M = (m sd M).bind soK := rfl
@[simp] theorem soK_ap {i : Int} : soK (.int i) M = .ok (some i) M := rfl
@[simp] theorem sliceD_lst : sliceD (.lst ds) l h M = .ok (.lst (cutL ds l h)) M := rfl
@[simp] theorem sliceD_tup : sliceD (.tup ds) l h M = .ok (.tup (cutL ds l h)) M := rfl
theorem sliceD_str (hx : x.length ≤ 1000000) : sliceD (.str x) l h M = .ok (.str (cutL x l h)) M := if_pos hx
theorem cutL_to {α : Type} (xs : List α) (k : Nat) : cutL xs none (some (k : Int)) = xs.take k := by
  unfold cutL
  rw [HT.sIx_none, HT.sIx_nat, List.drop_zero, Nat.sub_zero]
  by_cases h : k ≤ xs.length
  · rw [Nat.min_eq_left h]
  · rw [Nat.min_eq_right (by omega), List.take_of_length_le (Nat.le_refl _), List.take_of_length_le (by omega)]
theorem cutL_from {α : Type} (xs : List α) (k : Nat) : cutL xs (some (k : Int)) none = xs.drop k := by
  unfold cutL
  rw [HT.sIx_none, HT.sIx_nat]
  by_cases h : k ≤ xs.length
  · rw [Nat.min_eq_left h, List.take_of_length_le (by rw [List.length_drop]; omega)]
  · rw [Nat.min_eq_right (by omega), List.drop_of_length_le (Nat.le_refl _), List.drop_of_length_le (by omega)]; simp
theorem cutL_mid {α : Type} (xs : List α) (a b : Nat) (h : b ≤ xs.length) (hab : a ≤ b) : cutL xs (some (a : Int)) (some (b : Int)) = (xs.drop a).take (b - a) := by
  unfold cutL
  simp only [HT.sIx_nat]
  rw [Nat.min_eq_left (show b ≤ xs.length from h), Nat.min_eq_left (show a ≤ xs.length by omega)]
theorem cutL_last {α : Type} (xs : List α) (a : Nat) (h : a < xs.length) : cutL xs (some (a : Int)) (some (-1)) = (xs.drop a).dropLast := by
  unfold cutL
  have h1 : HT.sIx xs.length xs.length (some (-1)) = xs.length - 1 := by
    show (if (-1 : Int) < 0 then ((-1 : Int) + (xs.length : Int)).toNat else min (-1 : Int).toNat xs.length) = _
    rw [if_pos (by decide)]; omega
  have h2 : HT.sIx xs.length 0 (some (a : Int)) = a := by rw [HT.sIx_nat]; omega
  have h3 : (xs.drop a).dropLast = (xs.drop a).take ((xs.drop a).length - 1) := List.dropLast_eq_take
  have h4 : (xs.drop a).length = xs.length - a := by simp
  rw [h1, h2, h3, h4]
  congr 1
  omega
theorem addD_tup (hl : ds.length + es.length ≤ 1000000) : addD (.tup ds) (.tup es) M = .ok (.tup (ds ++ es)) M := by
  unfold addD
  rw [if_neg (by simp [isI2]), if_neg (by simp [isS2]), if_pos (by simp [isT2])]
  exact if_pos hl
@[simp] theorem isNF_ap : isNF d .non M = .ok (.bl (isN d)) M := rfl
@[simp] theorem notNF_ap : notNF d .non M = .ok (.bl (!isN d)) M := rfl
@[simp] theorem iaddD_int {i j : Int} : iaddD (.int i) (.int j) M = .ok (.int (i + j)) M := rfl
@[simp] theorem isiB_str : isiF [] tblB [.str x, .ty "str"] M = .ok (.bl true) M := rfl
@[simp] theorem isiB_tup : isiF [] tblB [.tup ds, .ty "str"] M = .ok (.bl false) M := rfl
theorem inD_strs {neg : Bool} {xs : List (List Nat)} (hx : okC x) (hs : ∀ z, z ∈ xs → okC z) : inD neg (.str x) (.lst (xs.map D.str)) M = .ok (.bl (decide (x ∈ xs) != neg)) M := by
  have h1 := pl_py (M := M) 7 29 (.str x) (by simpa using hx) (by omega)
  have h2 := pl_py (M := M) 7 29 (.lst (xs.map D.str)) (by rw [plN_lst]; exact plNs_map fun z hz => by rw [plN_str]; exact hs z hz) (by omega)
  unfold inD
  rw [if_neg (by simp [isS2])]
  unfold inP pyD
  rw [h1.1, h2.1]
  have e : toP (.lst (xs.map D.str)) = .list (xs.map fun z => PyData.str (tx z)) := by
    show PyData.list (toPs (xs.map D.str)) = _
    congr 1
    clear hs h2
    induction xs with
    | nil => rfl
    | cons z xs ih => simp [toPs, toP, ih]
  have s1 : SeqAt.shaped (toP (.str x)) = true := by unfold SeqAt.shaped; simp [h1.2.1]; have := h1.2.2; omega
  have s2 : SeqAt.shaped (toP (.lst (xs.map D.str))) = true := by unfold SeqAt.shaped; simp [h2.2.1]; have := h2.2.2; omega
  rw [e] at s2 ⊢
  simp only [s1, s2, and_self, if_true]
  have key : ((xs.map fun z => PyData.str (tx z)).any fun z => PyData.eqv z (toP (.str x))) = decide (x ∈ xs) := by
    rw [List.any_map, Bool.eq_iff_iff]
    simp only [List.any_eq_true, Function.comp_apply, decide_eq_true_eq]
    constructor
    · rintro ⟨z, hz, h⟩
      have h : (tx z == tx x) = true := h
      have := tx_inj.mp (beq_iff_eq.mp h)
      rw [← this]; exact hz
    · exact fun h => ⟨x, h, by show (tx x == tx x) = true; simp⟩
  rw [key]
theorem fstrE_ap {ms : List ME} : fstrE ms sd M = jGo ms [] sd M := rfl
def jK (ms : List ME) (acc : List Nat) (sd : SD) : D → MS → Res D := fun d M1 => match d with
    | .str y => if acc.length + y.length ≤ 1000000 then jGo ms (acc ++ y) sd M1 else .stuck
    | _ => .stuck
theorem jGo_nil {acc : List Nat} : jGo [] acc sd M = .ok (.str acc) M := rfl
theorem jGo_cons {ms : List ME} {acc : List Nat} : jGo (m :: ms) acc sd M = (m sd M).bind (jK ms acc sd) := rfl
theorem jK_str {ms : List ME} {acc : List Nat} (h : acc.length + y.length ≤ 1000000) : jK ms acc sd (.str y) M = jGo ms (acc ++ y) sd M := if_pos h
theorem fmtE_str {a : ME} {M1 : MS} (h : a sd M = .ok (.str y) M1) (hy : y.length ≤ 1000000) : fmtE a sd M = .ok (.str y) M1 := by
  unfold fmtE
  rw [h, Res.bind_ok]
  exact if_pos hy
theorem whileS_ap {n : Nat} {c : MB} {b : MST} : whileS n c b sd M = whileGo c b n sd M := rfl
theorem whileGo_f {n : Nat} {c : MB} {b : MST} {M1 : MS} (h : c sd M = .ok false M1) : whileGo c b (n + 1) sd M = .nx sd M1 := by
  unfold whileGo
  rw [h]; rfl
theorem whileGo_t {n : Nat} {c : MB} {b : MST} {M1 M2 : MS} {sd2 : SD} (h : c sd M = .ok true M1) (hb : b sd M1 = .nx sd2 M2) : whileGo c b (n + 1) sd M = whileGo c b n sd2 M2 := by
  conv => lhs; unfold whileGo
  rw [h]
  show (match b sd M1 with | .nx sd2 M2 => whileGo c b n sd2 M2 | .ct sd2 M2 => whileGo c b n sd2 M2 | .brk sd2 M2 => .nx sd2 M2 | .ret v M2 => .ret v M2 | .exc C ns ds sd2 M2 => .exc C ns ds sd2 M2 | .stuck => .stuck) = _
  rw [hb]
end
end DL
namespace DL
open PySem PySem.Spec L2
open PyProof.Rows hiding St
def iaddL (d e : D) (M : MS) : Res D := match d, e with
  | .cell n, .lst ys => (match M[n]? with
    | some (.lst xs) => if xs.length + ys.length ≤ 1000000 then .ok (.cell n) (M.set n (.lst (xs ++ ys))) else .stuck
    | _ => .stuck)
  | _, _ => .stuck
def isCel (d _e : D) (_M : MS) : Bool := match d with
  | .cell _ => true
  | _ => false
def iaddX : D → D → MS → Res D := fun d e M => if isCel d e M = true then iaddL d e M else iaddD d e M
section
variable {X : Cx} {M : MS}
theorem iopS_addL : OpS X (inplaceOp .Add) iaddL := by
  refine ⟨_, iop_ext, fun ro H M d e x y E Q R rx ry P => ?_⟩
  cases d <;> cases e <;> try exact P.elim
  rename_i n ys
  have P : PostD X.K X.mg E ro H Q (match M[n]? with | some (.lst xs) => if xs.length + ys.length ≤ 1000000 then .ok (.cell n) (M.set n (.lst (xs ++ ys))) else .stuck | _ => .stuck) := P
  split at P
  · rename_i xs hm
    split at P
    · rename_i hl
      obtain ⟨a, ho, rfl, g, h, vs, rfl, q⟩ := R.cellAt rx hm
      obtain ⟨b, zs, rfl, hb, _, qz⟩ := id ry
      obtain ⟨R', P'⟩ := R.change (o := .lst (vs ++ zs)) (mo := .lst (xs ++ ys)) g ⟨_, rfl, q.append qz⟩
      exact ⟨a, b, vs, zs, rfl, rfl, h, hb, by rw [← q.len, ← qz.len]; exact line_le hl, P ro _ _ R' P' ⟨a, rfl, g⟩⟩
    · exact P.elim
  · exact P.elim
theorem iopS_addX : OpS X (inplaceOp .Add) iaddX := OpS.or iopS_addL iopS_add isCel
@[simp] theorem gtD_strs {x y : List Nat} : gtD (.str x) (.str y) M = .ok (.bl (decide (y < x))) M := rfl
@[simp] theorem iaddX_int {i j : Int} : iaddX (.int i) (.int j) M = .ok (.int (i + j)) M := rfl
end
end DL
namespace DL
open PySem PySem.Spec L2
open PyProof.Rows hiding St
section
variable {s s' : SD} {a a' b b' : ME} {ms ms' : MA} {f : D → D → MS → Res D} {g : D → MS → Res D} {h : List D → MS → Res D} {n : Nat} {F : FM} {q : List D → List D} {j : Nat}
theorem eqE_const {d : D} : ∀ M, constE d s M = constE d s' M := fun _ => rfl
theorem eqE_bin (ha : ∀ M, a s M = a' s' M) (hb : ∀ M, b s M = b' s' M) : ∀ M, binE f a b s M = binE f a' b' s' M := fun M => by
  rw [binE_ap, binE_ap, ha]
  congr 1
  funext d M1
  rw [binK_ap, binK_ap, hb]
theorem eqS_ret {M : MS} (ha : ∀ M, a s M = a' s' M) : finS j (retS a s M) = finS j (retS a' s' M) := by
  rw [retS_ap, retS_ap, ha]
  cases a' s' M <;> rfl
end
end DL
namespace DL
open PySem PySem.Spec L2
open PyProof.Rows hiding St
end DL
namespace DL
open PySem PySem.Spec L2
open PyProof.Rows hiding St
set_option maxHeartbeats 1000000 in
theorem meets_enumerate_newB1 {v : Value} {o : Obj} {H : Heap → Prop} (B : Begins v o H) :
    Meets (Builtin.«enumerate.__new__» ⟨[.type "enumerate", v], []⟩) (fun _ R s => H s.heap ∧
      R (.ok (.ret (.ref (s.heap.push o).objs.size))) { s with heap := (s.heap.push o).push { cls := .type "enumerate", data := .fields #[.none, .bool false, .ref s.heap.objs.size, rawInt 0, .none, .none] } }) :=
  .of_wp fun prog w A R s h => by
    obtain ⟨hp, g, d, tk, os⟩ := s; obtain ⟨h1, h⟩ := h
    have hsub := sub_enumerate
    have q1 : ∀ {A' : Around} {E : Value → Shared → Prop} {Q : Value → Shared → Prop}, Q (.ref hp.objs.size) ⟨hp.push o, g, d, tk, os⟩ → wpAny (model prog w) A' (pyIter v) Q E ⟨hp, g, d, tk, os⟩ :=
      fun q => B.iter prog w _ _ ⟨hp, g, d, tk, os⟩ _ h1 q
    wp_walk using q1
    refine wpAny_stack_any fun st => wpAny_pure ?_
    split
    · rename_i c _ _ _ _ _
      cases (c == Value.type "enumerate")
      · wp_walk using q1
        exact ⟨_, rfl, h⟩
      · wp_walk using q1
        exact ⟨_, rfl, h⟩
    · wp_walk using q1
      exact ⟨_, rfl, h⟩
section
variable {prog : Program} {w : World} {A : Around} {E : Value → Shared → Prop} {s : Shared}
theorem enum_begins1 {v : Value} {o : Obj} {H : Heap → Prop} {Q : Value → Shared → Prop} (B : Begins v o H) (h1 : H s.heap)
    (h : ∀ h', IsEnum h' (s.heap.objs.size + 1) s.heap.objs.size 0 .none → h'.get? s.heap.objs.size = some o → h'.objs.size = s.heap.objs.size + 2 →
      (∀ b o, s.heap.get? b = some o → h'.get? b = some o) → Q (.ref (s.heap.objs.size + 1)) { s with heap := h' }) :
    wpAny (model prog w) A (call (.type "enumerate") [v]) Q E s := by
  refine callType_new F.called_enumerate (by decide) (F.typeCall_enumerate_1 _) (F.newCall_enumerate_1 _) (fun obj => F.args_object_init_2 obj _) F.entry_enumerate_new
    (meets_enumerate_newB1 B) ⟨h1, ?_⟩
  have hz : (s.heap.push o).objs.size = s.heap.objs.size + 1 := Heap.size_push ..
  show _ ∧ _
  rw [hz]
  have he : IsEnum ((s.heap.push o).push { cls := .type "enumerate", data := .fields #[.none, .bool false, .ref s.heap.objs.size, rawInt 0, .none, .none] }) (s.heap.objs.size + 1) s.heap.objs.size 0 .none := by
    have := Heap.get?_push_size (s.heap.push o) (o := { cls := .type "enumerate", data := .fields #[.none, .bool false, .ref s.heap.objs.size, rawInt 0, .none, .none] }) rfl
    rw [hz] at this; exact this
  refine ⟨⟨_, he, rfl⟩, h _ he (Heap.get?_push_of_some _ (Heap.get?_push_size _ B.free)) (by rw [Heap.size_push, hz]) fun b o x => Heap.get?_push_of_some _ (Heap.get?_push_of_some _ x)⟩
end
/-- the tuple at a as it stands at each turn, each item in a new pair -/
def IteT (K : PySem.W.Frag) (a : Addr) : It :=
  ⟨fun i H => ∃ (xs : List V) (x : V), SqT K H a xs ∧ xs[i]? = some x, fun i H v H' => ∃ T x, v = .ref T ∧ H T = none ∧ H' = upd H T (.tup [.int (i : Nat), x]) ∧ ∀ xs, SqT K H a xs → xs[i]? = some x, fun i H => ∃ xs : List V, SqT K H a xs ∧ xs.length ≤ i⟩
theorem turn_enumT {P : Program} {w : World} {K : PySem.W.Frag} {elts : List Expr} {kk : Nat} {tpos : Pos} (a e it : Addr) :
    Turn P w K (.Tuple elts kk tpos) (IteT K a) [e, it] e (fun i h => (∃ old, IsEnum h e it ((i : Nat) : Int) old) ∧ h.IsTupleIter it a i ∧ e ≠ it ∧ e ≠ a ∧ a ≠ it) where
  mem := by simp
  obj := fun i h st b hb => by
    obtain ⟨⟨old, he⟩, ⟨o, ho, hc, hd⟩, _⟩ := st
    have e' : b = e ∨ b = it := by simpa using hb
    rcases e' with z | z
    · rw [z]; exact ⟨_, he, fun v q => nomatch q⟩
    · rw [z]; exact ⟨o, ho, fun v q => by rw [hd] at q; cases q⟩
  keep := fun i h h' st k => let ⟨⟨old, he⟩, hi, hne⟩ := st; ⟨⟨old, k e (by simp) _ he⟩, hi.at fun o q => k it (by simp) o q, hne⟩
  item := by
    intro X hP hw hK hc i pins s σ H E I hf st hg
    subst hP hw hK
    obtain ⟨⟨old, he⟩, hit, hne, hea, hai⟩ := st
    obtain ⟨xs, x, hq, hx⟩ := hg
    obtain ⟨its, rv, p, hz⟩ := I.tuple hq
    obtain ⟨u, hu, ru⟩ := rv.get hx
    have hel : e < s.heap.objs.size := Heap.lt_size he
    have hil : it < s.heap.objs.size := by obtain ⟨_, q, _⟩ := hit; exact Heap.lt_size q
    have hA : X.A.in1.handled = none := I.ok.hd hc
    have D := Draws.tuple (prog := X.prog) (w := X.w) hA it a hai its.toArray
    have hin : i < its.toArray.size := by
      have := (List.getElem?_eq_some_iff.mp hu).1
      simpa using this
    refine wpAny_pyNext_enum_itemC D he ⟨hit, p⟩ hin hne (by simp [hne, hea]) fun x' h' tk hP' ho st' hT hsz hk => ?_
    obtain ⟨hit', p'⟩ := st'
    have ex : x' = u := by
      have h1 : its.toArray[i]? = some x' := hP'
      rw [List.getElem?_toArray, hu] at h1
      exact (Option.some.inj h1).symm
    subst ex
    refine ⟨_, rfl, wpAny_letOwnedTupleGo_enum (s := { s with heap := h', toks := tk + 1 }) ho fun h'' he' sb => ?_⟩
    have hT2 : h''.get? s.heap.objs.size = some { cls := .type "tuple", data := .seq #[.int i tk, x'] } := (sb.2 _ (Nat.ne_of_gt hel)).trans hT
    have new : ObjOk X.prog X.w (upd H s.heap.objs.size (.tup [.int (i : Nat), x])) h'' s.heap.objs.size (.tup [.int (i : Nat), x]) :=
      ⟨by show 2 ≤ sizeLine; decide, [.int i tk, x'], .cons ⟨_, rfl⟩ (.cons ru .nil), ⟨_, hT2, rfl, _, rfl⟩⟩
    have I1 : Inv X pins σ (upd H s.heap.objs.size (.tup [.int (i : Nat), x])) { s with heap := h'', toks := tk + 1 } :=
      I.turnedNew (ch := [e, it]) (fun b ob hb q => (sb.2 b (fun z => hb (by simp [z]))).trans (hk b ob (fun z => hb (by simp [z])) (fun z => hb (by simp [z])) q)) hf (Nat.le_refl _) new
    refine ⟨.ref s.heap.objs.size, _, I1, rfl, ⟨_, x, rfl, I.hok.fresh (Nat.le_refl _), rfl, fun ys hy => by rw [I.tuple_inj hy hq]; exact hx⟩, ⟨⟨x', ?_⟩, hit'.at fun o q => (sb.2 it (Ne.symm hne)).trans q, hne, hea, hai⟩, fun b hb => ?_⟩
    · have e1 : ((i + 1 : Nat) : Int) = (i : Int) + 1 := by omega
      rw [e1]; exact he'
    · have hb' : b < s.heap.objs.size := by
        have e' : b = e ∨ b = it := by simpa using hb
        rcases e' with z | z
        · rw [z]; exact hel
        · rw [z]; exact hil
      rw [upd_ne (Nat.ne_of_lt hb')]
      exact (hf b hb).1
  done := by
    intro X hP hw hK hc i pins s σ H E I hf st hg
    subst hP hw hK
    obtain ⟨⟨old, he⟩, hit, hne, hea, hai⟩ := st
    obtain ⟨xs, hq, hx⟩ := hg
    obtain ⟨its, rv, p, hz⟩ := I.tuple hq
    obtain ⟨f0, f1, f2, f3, f4, f5⟩ := hf it (by simp)
    have hl := rv.length
    have hA : X.A.in1.handled = none := I.ok.hd hc
    have D : Draws X.prog X.w X.A.in1 it [it, a] 0 (fun _ _ => True) (fun _ h => h.IsTupleIter it a i ∧ h.IsTuple a its.toArray) :=
      { live := fun _ _ st => let ⟨o, ho, _⟩ := st.1; ⟨o, ho⟩
        frame := fun _ _ _ st hk => ⟨st.1.at fun o e => hk it (by simp) o e, st.2.at fun o e => hk a (by simp) o e⟩
        item := fun i s Q E hi _ _ => absurd hi (by omega)
        done := fun s Q E st hE => wpAny_nextOf_tuple_end hA st.1 st.2 (by simp; omega) hE }
    exact wpAny_pyNext_enum_endD D he ⟨hit, p⟩ fun h' eb => ⟨rfl, I.turned (t' := s.toks) (fun b o hb q => eb b o hb q) f0 f1 f3 f4 f5⟩
  self := fun A i s Q E st h => let ⟨⟨_, he⟩, _⟩ := st; wpAny_pyIter_enum he h
/-- over a list or a tuple -/
def iEnumX (K : PySem.W.Frag) (ta : TA) : TI := fun σ H R => ta σ H fun vs H1 => ∃ a xs, vs = [.ref a] ∧ ((SqL K H1 a xs ∧ R (Ite K a) H1) ∨ (SqT K H1 a xs ∧ R (IteT K a) H1))
theorem pi_enumX {X : Cx} {e : Expr} {ta : TA} {p pos tpos : Pos} {elts : List Expr} {kk : Nat} (hg : Gl X "enumerate") (hm : X.mg "enumerate" = none) (ha : PA X [e] ta) (hs : starEach [e] X.env = [(false, eval e X.env)] := by rfl) :
    PI X (.Tuple elts kk tpos) (.Call (.Name "enumerate" p) [e] [] pos) (iEnumX X.K ta) := by
  refine ⟨fun pins s σ H R I h => ?_⟩
  refine Call_ (ld_blt I hg hm boot_enumerate (PyProof.Rows.callWith_type1 (thn (ha.run pos pins s σ H _ I h) fun us s1 ⟨vs, H1, I1, r1, q1⟩ => ?_) hs rfl))
  obtain ⟨a, xs, ex, q1⟩ := q1
  subst ex
  cases r1 with
  | cons r rr =>
    cases rr
    cases r
    have fp : ∀ h' : Heap, (∀ b o, s1.heap.get? b = some o → h'.get? b = some o) → ∀ b ∈ [s1.heap.objs.size + 1, s1.heap.objs.size], s1.heap.objs.size ≤ b := fun h' _ b hb => by
      have e' : b = s1.heap.objs.size + 1 ∨ b = s1.heap.objs.size := by simpa using hb
      rcases e' with z | z
      · rw [z]; exact Nat.le_add_right _ _
      · rw [z]; exact Nat.le_refl _
    rcases q1 with ⟨hq, q⟩ | ⟨hq, q⟩
    · obtain ⟨its, rv, p', hz⟩ := I1.list hq
      refine call_enumerate_list p'.isList fun h' he hit hsz hk => wpAny_pyIter_enum he ?_
      have I2 : Inv X pins σ H1 { s1 with heap := h' } := I1.kept (t' := s1.toks) hk
      refine ⟨s1.heap.objs.size + 1, [s1.heap.objs.size + 1, s1.heap.objs.size], _, _, H1, rfl, I2, turn_enum a (s1.heap.objs.size + 1) s1.heap.objs.size, ⟨⟨.none, he⟩, hit, Nat.succ_ne_self _⟩, fun b hb => ?_, q⟩
      have hle := fp h' hk b hb
      exact I1.fpOk hle (I1.hok.fresh hle)
    · obtain ⟨its, rv, p', hz⟩ := I1.tuple hq
      have hal : a < s1.heap.objs.size := by obtain ⟨_, e, _⟩ := p'; exact Heap.lt_size e
      refine enum_begins1 (begins_tuple a its.toArray) p' fun h' he hit hsz hk => wpAny_pyIter_enum he ?_
      have I2 : Inv X pins σ H1 { s1 with heap := h' } := I1.kept (t' := s1.toks) hk
      refine ⟨s1.heap.objs.size + 1, [s1.heap.objs.size + 1, s1.heap.objs.size], _, _, H1, rfl, I2, turn_enumT a (s1.heap.objs.size + 1) s1.heap.objs.size, ⟨⟨.none, he⟩, ⟨_, hit, rfl, rfl⟩, Nat.succ_ne_self _, Nat.ne_of_gt (Nat.lt_succ_of_lt hal), Nat.ne_of_lt hal⟩, fun b hb => ?_, q⟩
      have hle := fp h' hk b hb
      exact I1.fpOk hle (I1.hok.fresh hle)
def enumX (m : ME) : MI := fun sd M => (m sd M).bind fun d M1 => match seqOf M1 d with
  | some ds => .ok ⟨enumD 0 ds, lchk M1 d⟩ M1
  | none => .stuck
section
variable {X : Cx}
theorem di_enumX {W : WX} {e : Expr} {m : ME} {p pos tpos : Pos} {elts : List Expr} {kk : Nat} (hg : Gl X "enumerate") (hm : X.mg "enumerate" = none) (h : DE X W e m) (hs : starEach [e] X.env = [(false, eval e X.env)] := by rfl) (hs2 : starEach [e] X.env = (false, eval e X.env) :: starEach [] X.env := by rfl) :
    DI X W (.Tuple elts kk tpos) (.Call (.Name "enumerate" p) [e] [] pos) (enumX m) := by
  refine ⟨⟨fun pins s st H Q I q => (pi_enumX hg hm (da_cons h da_nil hs2).pa hs).run pins s st H Q I ?_⟩⟩
  obtain ⟨ro, sd, M, R, S, P⟩ := q
  refine ⟨ro, sd, M, R, S, ?_⟩
  have P : Post _ X.K X.mg (fun c d H' => W c d st H') ro H Q ((m sd M).bind _) := P
  unfold consA
  cases em : m sd M with
  | stuck => rw [em] at P; exact P.elim
  | exc C ns ds M1 => rw [em] at P; exact P
  | ok d M1 =>
    rw [em, Res.bind_ok] at P
    rintro ro1 H1 xs R1 P1 rs
    obtain ⟨x, rfl, rx⟩ := reps1 rs
    split at P
    · rename_i ds hs'
      cases ht : isTup d with
      | false =>
        obtain ⟨a, vs, rfl, hq, q'⟩ := seq_list R1 rx hs' ht
        refine ⟨a, vs, rfl, .inl ⟨hq, P ro1 H1 _ R1 P1 fun ro' H' M' R' P' hM => ?_⟩⟩
        have hM : seqOf M' d = some ds := by rw [← hs']; exact hM
        obtain ⟨a', vs', e', hq', rs'⟩ := seq_list R' (Rep.monoW P' _ _ rx) hM ht
        cases e'
        refine ⟨⟨vs', hq', by rw [enumD_len, rs'.len]; exact Nat.le_refl _⟩, fun i z hz => ?_⟩
        obtain ⟨y, hy, rfl⟩ := enumD_get ds 0 i z hz
        obtain ⟨v, hv, rv⟩ := rs'.get hy
        refine ⟨⟨vs', v, hq', hv⟩, fun w H'' ⟨T, y', ew, hT, eH, hall⟩ => ?_⟩
        subst ew eH
        have ey := hall vs' hq'
        rw [hv] at ey
        cases ey
        obtain ⟨R2, P2⟩ := R'.alloc (o := .tup [.int (i : Nat), v]) hT
        refine ⟨fun b o h => upd_grow hT b o h, ⟨T, [.int (i : Nat), v], rfl, .inl ⟨.inl upd_same, R'.fresh hT⟩, ?_⟩⟩
        exact ⟨_, _, rfl, by rw [Nat.zero_add]; rfl, Reps.one (Rep.mono P2 _ _ rv)⟩
      | true =>
        obtain ⟨es, rfl⟩ : ∃ es, d = .tup es := by cases d <;> first | exact ⟨_, rfl⟩ | cases ht
        cases hs'
        obtain ⟨a, vs, rfl, hq, q'⟩ := rx
        refine ⟨a, vs, rfl, .inr ⟨hq.sq, P ro1 H1 _ R1 P1 fun ro' H' M' R' P' hM => ?_⟩⟩
        have rx' : Rep X.K X.mg ro' H' (.tup ds) (.ref a) := Rep.monoW P' _ _ ⟨a, vs, rfl, hq, q'⟩
        obtain ⟨a', vs', e', hq', rs'⟩ := rx'
        cases e'
        refine ⟨⟨vs', hq'.sq, by rw [enumD_len, rs'.len]; exact Nat.le_refl _⟩, fun i z hz => ?_⟩
        obtain ⟨y, hy, rfl⟩ := enumD_get ds 0 i z hz
        obtain ⟨v, hv, rv⟩ := rs'.get hy
        refine ⟨⟨vs', v, hq'.sq, hv⟩, fun w H'' ⟨T, y', ew, hT, eH, hall⟩ => ?_⟩
        subst ew eH
        have ey := hall vs' hq'.sq
        rw [hv] at ey
        cases ey
        obtain ⟨R2, P2⟩ := R'.alloc (o := .tup [.int (i : Nat), v]) hT
        refine ⟨fun b o h => upd_grow hT b o h, ⟨T, [.int (i : Nat), v], rfl, .inl ⟨.inl upd_same, R'.fresh hT⟩, ?_⟩⟩
        exact ⟨_, _, rfl, by rw [Nat.zero_add]; rfl, Reps.one (Rep.mono P2 _ _ rv)⟩
    · exact P.elim
end
end DL
namespace DL
open PySem PySem.Spec L2
open PyProof.Rows hiding St
end DL
namespace DL
open PySem PySem.Spec L2
open PyProof.Rows hiding St
abbrev Rw := Int × Value
/-- the set at a: its rows keep Phi -/
def SetG (w : World) (h : Heap) (a : Addr) (Phi : List Rw → Prop) : Prop :=
  ∃ (o : Obj) (rs : Array Rw) (n : Nat) (t : SetTable), h.get? a = some o ∧ o.ExactSet ∧ o.data = .set rs n t ∧ Phi rs.toList ∧ rs.size < scanBound ∧ t.fits rs.size = true ∧ Ris t.place.toList ∧ (w.params.followText "set-order" = true ∨ t.led = true)
theorem SetG.keep {w : World} {h h' : Heap} {a : Addr} {Phi : List Rw → Prop} (G : SetG w h a Phi) (k : ∀ o, h.get? a = some o → h'.get? a = some o) : SetG w h' a Phi :=
  let ⟨o, rs, n, t, z, r⟩ := G
  ⟨o, rs, n, t, k o z, r⟩
theorem SetG.imp {w : World} {h : Heap} {a : Addr} {Phi Psi : List Rw → Prop} (G : SetG w h a Phi) (k : ∀ l, Phi l → Psi l) : SetG w h a Psi :=
  let ⟨o, rs, n, t, z1, z2, z3, z4, r⟩ := G
  ⟨o, rs, n, t, z1, z2, z3, k _ z4, r⟩
section
variable {P : Program} {w : World} {A : Around} {E : Value → Shared → Prop} {s : Shared} {a : Addr}
theorem addG_tail {Phi : List Rw → Prop} (inv : ∀ l l' : List Rw, l'.Perm l → Phi l → Phi l') {g : Bool → Sem Unit} (quiet : ∀ (b : Bool) (z : Shared) (Z : Unit → Shared → Prop), Z () z → wpAny (model P w) A (g b) Z E z)
    {o : Obj} {rs : Array Rw} {n : Nat} {t : SetTable} (gO : s.heap.get? a = some o) (gX : o.ExactSet) (gD : o.data = .set rs n t) {rs1 : Array Rw} {t1 : SetTable} (g1 : Phi rs1.toList) (gB : rs1.size < scanBound) (gF : t1.fits rs1.size = true) (gR : Ris t1.place.toList)
    (gL : w.params.followText "set-order" = true ∨ t1.led = true) {wd : Bool} {R : Option Bool → Shared → Prop} (fin : ∀ h', Heap.SameBut a s.heap h' → SetG w h' a Phi → R (some true) { s with heap := h' }) :
    wpAny (model P w) A (do storeSet a rs1 t1; if (!wd && t1.tooFull) = true then (do g (relayAll t1 rs1 (SetTable.grown rs1.size)).2.2; storeSet a (relayAll t1 rs1 (SetTable.grown rs1.size)).1 (relayAll t1 rs1 (SetTable.grown rs1.size)).2.1; pure (some true)) else pure (some true)) R E s := by
  have s1 := store_at (es' := rs1) (t' := t1) gO gD
  have b1 := Heap.SameBut.update s.heap a (Obj.putSet rs1 t1)
  refine wpAny_bind (wpAny_storeSet_of gO gD ?_ (fits_of_scanBound gB))
  split
  · have q1 := relayAll_perm t1 rs1 (SetTable.grown rs1.size)
    have q2 := relayAll_fits t1 rs1 (SetTable.grown rs1.size)
    have q3 := relayAll_ris t1 rs1 (SetTable.grown rs1.size)
    have q4 := relayAll_led t1 rs1 (SetTable.grown rs1.size)
    generalize relayAll t1 rs1 (SetTable.grown rs1.size) = Y at q1 q2 q3 q4 ⊢
    obtain ⟨rs2, t2, gv⟩ := Y
    dsimp only at q1 q2 q3 q4 ⊢
    have z : rs2.size = rs1.size := by simpa using q1.length_eq
    have zb : rs2.size < scanBound := z ▸ gB
    refine wpAny_bind (quiet _ _ _ (wpAny_bind (wpAny_storeSet_of s1 rfl (wpAny_pure (fin _ (b1.trans (Heap.SameBut.update _ a _)) ?_)) (fits_of_scanBound zb))))
    exact ⟨_, rs2, _, t2, store_at (es' := rs2) (t' := t2) s1 rfl, gX, rfl, inv _ _ q1 g1, zb, q2, q3, gL.imp id fun y => q4.trans y⟩
  · exact wpAny_pure (fin _ b1 ⟨_, rs1, _, t1, s1, gX, rfl, g1, gB, gF, gR, gL⟩)
def cpsOf (e : Rw) : List Nat := match e.2 with
  | .str y _ => y.cps.toList
  | _ => []
def TxtE (P : Program) (w : World) (e : Rw) : Prop := ∃ x tk, e.2 = Value.str (tx x) tk ∧ e.1 = (strKind P w).hash (tx x)
def TxtL (P : Program) (w : World) (xs : List (List Nat)) (l : List Rw) : Prop := (∀ e, e ∈ l → TxtE P w e) ∧ (l.map cpsOf).Perm xs ∧ xs.Nodup
abbrev SetS (P : Program) (w : World) (h : Heap) (a : Addr) (xs : List (List Nat)) : Prop := SetG w h a (TxtL P w xs)
theorem txtL_perm {xs : List (List Nat)} (l l' : List Rw) (p : l'.Perm l) (h : TxtL P w xs l) : TxtL P w xs l' := ⟨fun e he => h.1 e (p.mem_iff.mp he), (p.map cpsOf).trans h.2.1, h.2.2⟩
theorem cpsOf_tx {e : Rw} {x : List Nat} {tk : Tok} (h : e.2 = Value.str (tx x) tk) : cpsOf e = x := by unfold cpsOf; rw [h]
theorem txtE_is {e : Rw} (h : TxtE P w e) (x : List Nat) : (strKind P w).is (tx x) e.2 = true ↔ cpsOf e = x := by
  obtain ⟨y, tk, e1, _⟩ := h
  rw [cpsOf_tx e1, e1]
  constructor
  · intro q
    obtain ⟨u, hu⟩ := Value.isStrOf_shape (show Value.isStrOf (tx x) (Value.str (tx y) tk) = true from q)
    injection hu with q1 q2
    exact tx_inj.mp q1
  · rintro rfl
    exact strKind_is P w _ _
theorem txt_elems {l : List Rw} (h : ∀ e, e ∈ l → TxtE P w e) : ElemsOf (strKind P w) l := fun e he => by
  obtain ⟨x, tk, e1, e2⟩ := h e he
  exact ⟨⟨tx x, by rw [e1]; exact strKind_is P w _ _, e2⟩, by rw [e1]; rfl⟩
def insT (xs : List (List Nat)) (x : List Nat) : List (List Nat) := if x ∈ xs then xs else xs ++ [x]
theorem setS_addH {xs : List (List Nat)} {x : List Nat} {tk : Tok} {Q : Bool → Shared → Prop} (G : SetS P w s.heap a xs) (room : xs.length + 1 < scanBound)
    (q : ∀ h', Heap.SameBut a s.heap h' → SetS P w h' a (insT xs x) → ∀ b, Q b { s with heap := h' }) : wpAny (model P w) A (setAddHashed a (.str (tx x) tk) ((strKind P w).hash (tx x))) Q E s := by
  obtain ⟨o, rs, n, t, gO, gX, gD, ⟨gE, gP, gN⟩, gB, gF, gR, gL⟩ := G
  have isx : (strKind P w).is (tx x) (.str (tx x) tk) = true := strKind_is P w _ tk
  have scn : (Value.str (tx x) tk).scannable = true := rfl
  have els := txt_elems gE
  unfold setAddHashed setAddHashedIn
  refine wpAny_holding (wpAny_bind (wpAny_setState_of gO gD gF ?_))
  dsimp only
  rw [byScan_of scn gB els]
  simp only [↓reduceIte]
  unfold setAddByScan
  refine wpAny_bind (wpAny_bind (wpAny_rule (wpAny_bind (wpAny_setScan_of isx gO gD gF els ?_))))
  cases fi : List.findIdx? (fun e => (strKind P w).is (tx x) e.2) rs.toList with
  | some j =>
    obtain ⟨hj, pj, _⟩ := List.findIdx?_eq_some_iff_getElem.mp fi
    have hm : x ∈ xs := gP.mem_iff.mp (List.mem_map.mpr ⟨_, List.getElem_mem hj, (txtE_is (gE _ (List.getElem_mem hj)) x).mp pj⟩)
    have q' := q s.heap (Heap.SameBut.refl a s.heap) (by unfold insT; rw [if_pos hm]; exact ⟨o, rs, n, t, gO, gX, gD, ⟨gE, gP, gN⟩, gB, gF, gR, gL⟩) false
    dsimp only
    exact wpAny_pure (wpAny_pure q')
  | none =>
    have hm : ¬ x ∈ xs := fun z => by
      obtain ⟨e, he, ee⟩ := List.mem_map.mp (gP.mem_iff.mpr z)
      have := List.findIdx?_eq_none_iff.mp fi e he
      rw [(txtE_is (gE e he) x).mpr ee] at this
      cases this
    dsimp only
    have giv : ∀ (b : Bool) {z : Shared} {Z : Unit → Shared → Prop}, Z () z → wpAny (model P w) A (match b with | true => rule "set.scan.the-table-gave-way" | false => pure ()) Z E z := fun b z Z h => by
      cases b
      · exact wpAny_pure h
      · exact wpAny_rule h
    have q1 := layNew_perm t rs ((strKind P w).hash (tx x)) (.str (tx x) tk)
    have q2 := layNew_fits t rs ((strKind P w).hash (tx x)) (.str (tx x) tk)
    have q3 := layNew_ris t rs ((strKind P w).hash (tx x)) (.str (tx x) tk) gR
    have q4 := layNew_led t rs ((strKind P w).hash (tx x)) (.str (tx x) tk)
    generalize layNew t rs ((strKind P w).hash (tx x)) (.str (tx x) tk) = Y at q1 q2 q3 q4 ⊢
    obtain ⟨rs1, t1, wd, gv⟩ := Y
    dsimp only at q1 q2 q3 q4 ⊢
    rw [Array.toList_push] at q1
    have g1 : TxtL P w (insT xs x) rs1.toList := by
      refine ⟨fun e he => ?_, ?_, ?_⟩
      · rcases List.mem_append.mp (q1.mem_iff.mp he) with z | z
        · exact gE e z
        · rw [List.mem_singleton.mp z]; exact ⟨x, tk, rfl, rfl⟩
      · unfold insT
        rw [if_neg hm]
        have := q1.map cpsOf
        rw [List.map_append] at this
        exact this.trans (gP.append (by rw [List.map_singleton, cpsOf_tx (x := x) (tk := tk) rfl]))
      · unfold insT
        rw [if_neg hm, List.nodup_append]
        refine ⟨gN, by simp, fun y hy z hz => ?_⟩
        rw [List.mem_singleton.mp hz]
        exact fun e => hm (e ▸ hy)
    have zb : rs1.size < scanBound := by
      have e1 := q1.length_eq
      have e2 := gP.length_eq
      simp only [List.length_append, List.length_map, List.length_singleton, Array.length_toList] at e1 e2
      omega
    have hL : w.params.followText "set-order" = true ∨ t1.led = true := gL.imp id fun y => q4.trans y
    refine wpAny_bind (giv _ ?_)
    split
    · refine wpAny_bind ?_
      rw [hashByValue_scannable 8 scn]
      refine wpAny_pure (addG_tail txtL_perm ?_ gO gX gD g1 zb ?_ ?_ ?_ fun h' sb r => ?_)
      · intro b z Z h
        cases b
        · exact wpAny_pure h
        · exact wpAny_rule h
      · first | exact SetTable.fits_plain_off q2 | (split <;> first | exact q2 | exact SetTable.fits_plain_off q2)
      · first | exact q3 | (split <;> exact q3)
      · first | exact hL | (split <;> exact hL)
      · dsimp only; exact wpAny_pure (q h' sb r _)
    · refine wpAny_bind (wpAny_pure ?_)
      simp only [↓reduceIte]
      refine addG_tail txtL_perm ?_ gO gX gD g1 zb q2 q3 hL fun h' sb r => ?_
      · intro b z Z h
        cases b
        · exact wpAny_pure h
        · exact wpAny_rule h
      · dsimp only; exact wpAny_pure (q h' sb r _)
def dedT (xs : List (List Nat)) : List (List Nat) := xs.foldl insT []
theorem insT_len (ys : List (List Nat)) (x : List Nat) : (insT ys x).length ≤ ys.length + 1 := by unfold insT; split <;> simp
theorem foldl_insT_len (xs : List (List Nat)) : ∀ ys, (xs.foldl insT ys).length ≤ ys.length + xs.length := by
  induction xs with
  | nil => intro ys; simp
  | cons x xs ih =>
    intro ys
    have h1 := ih (insT ys x)
    have h2 := insT_len ys x
    simp only [List.foldl_cons, List.length_cons]
    omega
theorem dedT_len (xs : List (List Nat)) : (dedT xs).length ≤ xs.length := by unfold dedT; simpa using foldl_insT_len xs []
theorem dedT_take {xs : List (List Nat)} {i : Nat} {x : List Nat} (h : xs[i]? = some x) : dedT (xs.take (i + 1)) = insT (dedT (xs.take i)) x := by
  unfold dedT
  rw [List.take_add_one, h, Option.toList_some, List.foldl_append]
  rfl
theorem upd_texts {I : Addr} {fp wr : List Addr} {G : Array GenState → Array GenState → Prop} {n : Nat} {Pv : Nat → Value → Prop} {St : Nat → Shared → Prop} {R : Result → Shared → Prop}
    (Wk : WalksS P w A.in1 I fp wr G n Pv St) (S : Addr) (out : S ∉ fp) (xs : List (List Nat)) (len : xs.length = n) (few : n + 1 < scanBound) (val : ∀ i v, Pv i v → ∃ x tk, xs[i]? = some x ∧ v = .str (tx x) tk) :
    ∀ (k i : Nat) (s : Shared), n - i = k → i ≤ n → St i s → SetS P w s.heap S (dedT (xs.take i)) → (∀ s', Moved (S :: wr) G s s' → SetS P w s'.heap S (dedT xs) → R (.ok (.ret .none)) s') →
      codeAny (model P w) A (.builtin "set.update.loop" ⟨[.ref S, .ref I], []⟩) R s := by
  have nS : S ∉ wr := fun h => out (Wk.sub _ h)
  have incl : ∀ b, b ∈ wr → b ∈ S :: wr := fun b hb => List.mem_cons_of_mem _ hb
  intro k
  induction k with
  | zero =>
    intro i s hk hi hst gS hR
    obtain rfl : i = n := by omega
    refine codeAny_builtin PyProof.Rows.F.entry_set_update_loop ?_
    rw [Around.under_plainId PyProof.Rows.F.plain_set_update_loop]
    show wpAny _ A.in1 (pyNext (.ref I) >>= fun v => _) _ _ s
    refine wpAny_bind (Wk.done s _ _ hst fun s' mv => ?_)
    show wpAny _ A.in1 (ret Value.none) _ _ s'
    refine wpAny_pure (hR s' (mv.mono incl) ?_)
    rw [← len, List.take_length] at gS
    exact gS.keep fun o e => mv.heap S _ nS e
  | succ k ih =>
    intro i s hk hi hst gS hR
    have hl : i < n := by omega
    refine codeAny_builtin PyProof.Rows.F.entry_set_update_loop ?_
    rw [Around.under_plainId PyProof.Rows.F.plain_set_update_loop]
    show wpAny _ A.in1 (pyNext (.ref I) >>= fun v => _) _ _ s
    refine wpAny_bind (Wk.item i s _ _ hl hst fun v s' hP hst' mv => ?_)
    obtain ⟨x, tk, hx, rfl⟩ := val i v hP
    have gS' : SetS P w s'.heap S (dedT (xs.take i)) := gS.keep fun o e => mv.heap S _ nS e
    show wpAny _ A.in1 (holding [Value.str (tx x) tk] (setAdd S (.str (tx x) tk)) >>= fun u => _) _ _ s'
    refine wpAny_bind (wpAny_holding ?_)
    unfold setAdd
    refine wpAny_holding (wpAny_bind ((strKind P w).pyHash (k := tx x) (strKind_is P w _ _) ?_))
    refine setS_addH (s := { s' with toks := s'.toks + 1 }) gS' (by have := dedT_len (xs.take i); simp only [List.length_take] at this; omega) fun h' sb g' b => ?_
    rw [← dedT_take hx] at g'
    refine wpAny_pure ⟨plainId_quiet PyProof.Rows.F.plain_set_update_loop _, ih (i + 1) _ (by omega) hl (Wk.frame _ s' _ _ hst' (Nat.le_succ _) fun b hb o e => (sb.2 b fun z : b = S => out (z ▸ hb)).trans e) g' fun s2 mv2 g2 => ?_⟩
    refine hR s2 (Moved.trans Wk.gtrans ((mv.mono incl).then_heap (Nat.le_succ _) fun b o hb e => ?_) mv2) g2
    exact (sb.2 b fun z : b = S => hb (z ▸ List.mem_cons_self)).trans e
end
theorem strs_atY : ∀ {us : List Value} {ys : List Str}, StrsAre us ys → ∀ (i : Nat) (v : Value), us[i]? = some v → ∃ y tk, ys[i]? = some y ∧ v = .str y tk
  | _, _, .nil, i, v, h => by simp at h
  | _, _, .cons y t r, 0, v, h => by
    simp at h
    exact ⟨y, t, rfl, h.symm⟩
  | _, _, .cons y t r, i + 1, v, h => by
    simp at h
    simpa using strs_atY r i v h
theorem strs_atT {us : List Value} {xs : List (List Nat)} (h : StrsAre us (xs.map tx)) (i : Nat) (v : Value) (e : us[i]? = some v) : ∃ x tk, xs[i]? = some x ∧ v = .str (tx x) tk := by
  obtain ⟨y, tk, e1, e2⟩ := strs_atY h i v e
  rw [List.getElem?_map] at e1
  cases hx : xs[i]? with
  | none => rw [hx] at e1; cases e1
  | some x =>
    rw [hx] at e1
    cases e1
    exact ⟨x, tk, rfl, e2⟩
section
variable {P : Program} {w : World} {A : Around} {E : Value → Shared → Prop} {s : Shared} {a : Addr}
/-- the new set's object -/
abbrev nSet (w : World) : Obj := { cls := .type "set", dict := none, data := .set #[] 0 (.fresh 0 0 (!w.params.followText "set-order")) }
theorem setS_new {h : Heap} (g : h.get? a = some (nSet w)) : SetS P w h a [] :=
  ⟨_, #[], 0, _, g, ⟨rfl, rfl, rfl⟩, rfl, ⟨fun e he => by simp at he, by simp, List.nodup_nil⟩, by decide, by rfl, List.Pairwise.nil, by
    show _ ∨ (!w.params.followText "set-order") = true
    cases w.params.followText "set-order" <;> simp⟩
set_option maxRecDepth 100000 in
set_option maxHeartbeats 3200000 in
theorem call_setL {l : Addr} {its : Array Value} {xs : List (List Nat)} {Q : Value → Shared → Prop} (calm : A.handled = none) (gL : s.heap.IsList l its) (gI : StrsAre its.toList (xs.map tx)) (few : its.size + 1 < scanBound)
    (q : ∀ (h' : Heap) (tk : Nat), SetS P w h' s.heap.objs.size (dedT xs) → (∀ b o, s.heap.get? b = some o → h'.get? b = some o) → Q (.ref s.heap.objs.size) { s with heap := h', toks := tk }) :
    wpAny (model P w) A (call (.type "set") [.ref l]) Q E s := by
  have sz : xs.length = its.size := by rw [← Array.length_toList, StrsAre.len_eq gI, List.length_map]
  obtain ⟨c, tl, fM⟩ := PySem.F.called_set.mro
  have fN := PySem.F.called_set.made
  have fS := PySem.F.called_set.sub
  refine wpAny_call (codeAny_of_tree (?_ : wpAny _ _ (callAny (.type "set") _) _ _ _))
  refine wpAny_pure ⟨Code.quiet_builtin _ (by decide +kernel), (codeAny_builtin PySem.F.entry_type_call ?_)⟩
  rw [Around.under_plain (weight_type_call_type "set" [.ref l] []) (by rfl)]
  have fT := PySem.F.called_set.notType
  have fC := PySem.F.called_set.canCreate
  have fA := PySem.F.typeCall_set_1 (.ref l)
  repeat any_goals (first | assumption | wp_step)
  refine codeAny_mono (code_set_led1 (.ref l) (E := E) (Q₁ := fun ob s1 => ob = .ref s.heap.objs.size ∧ s1 = { s with heap := s.heap.push (nSet w) }) ⟨rfl, rfl⟩) fun r s1 hr => ?_
  cases r with
  | error e => exact hr
  | ok fl =>
    cases fl with
    | ret ob =>
      obtain ⟨rfl, rfl⟩ := hr
      have gN : (s.heap.push (nSet w)).get? s.heap.objs.size = some (nSet w) := Heap.get?_push_size _ rfl
      have gT : Shared.TypeIs { s with heap := s.heap.push (nSet w) } (.ref s.heap.objs.size) "set" := ⟨_, gN, rfl⟩
      have fi := PySem.F.called_set.init.lookup
      have fb := PySem.F.called_set.init.bind (.ref s.heap.objs.size)
      repeat any_goals (first | assumption | wp_step)
      refine codeAny_mono (codeAny_call_builtin (R := wants (fun r s2 => r = .none ∧ ∃ h' tk, s2 = { s with heap := h', toks := tk } ∧ SetS P w h' s.heap.objs.size (dedT xs) ∧ (∀ b o, s.heap.get? b = some o → h'.get? b = some o)) E) PySem.F.called_set.init.plain PySem.F.entry_set_init (check_set_init_1 gT ?_)) fun r2 s2 hr2 => ?_
      · obtain ⟨⟨oc, od, oD, osl⟩, gO, (rfl : oc = _), nl, (rfl : oD = _)⟩ := gL
        have gO' : (s.heap.push (nSet w)).get? l = some { cls := .type "list", dict := od, data := .seq its nl, slots := osl } := Heap.get?_push_of_some _ gO
        have k1 := PySem.F.sub_list_set
        have k2 := PySem.F.sub_list_frozenset
        have k3 : (Value.type "list" == Value.type "dict") = false := by decide
        have gl : (s.heap.push (nSet w)).IsList l its := ⟨_, gO', rfl, nl, rfl⟩
        unfold Builtin.«set.__init__» noKeywords Builtin.Frozenset.updateFrom
        generalize ePI : pyIter = PI
        wp_walk
        subst ePI
        refine wpAny_pyIter_list gl (wpAny_bind (wpAny_runValue ?_))
        have lt : l < s.heap.objs.size := Heap.lt_size gO
        have calm3 : A.in1.in1.in1.handled = none := by simp [calm]
        have n1 : l ≠ (s.heap.push (nSet w)).objs.size := fun z => Nat.lt_irrefl _ (Nat.lt_succ_of_lt lt |> fun y => by rw [z, Heap.size_push] at y; exact y)
        have n2 : s.heap.objs.size ∉ [(s.heap.push (nSet w)).objs.size, l] := by
          rw [Heap.size_push]
          intro z
          rcases List.mem_cons.mp z with z | z
          · exact absurd z (Nat.ne_of_lt (Nat.lt_succ_self _))
          · exact absurd (List.mem_singleton.mp z) (Nat.ne_of_gt lt)
        have vl : ∀ (i : Nat) (v : Value), its[i]? = some v → ∃ x tk, xs[i]? = some x ∧ v = .str (tx x) tk := fun i v hv => strs_atT gI i v (by rw [Array.getElem?_toList]; exact hv)
        refine upd_texts (Walks.toS (Walks.list calm3 _ l n1 its)) s.heap.objs.size n2 xs sz few vl (its.size - 0) 0 _ (by omega) (Nat.zero_le _) ⟨⟨_, Heap.get?_push_size _ rfl, rfl, rfl⟩, gl.push _⟩ ?g0 ?gR
        case g0 => exact setS_new (Heap.get?_push_of_some _ gN)
        case gR =>
          intro s' mv g'
          obtain ⟨h', g2, d2, tk2, os2⟩ := s'
          obtain rfl : g2 = s.gens := mv.gens
          obtain rfl : d2 = s.drawn := mv.drawn
          obtain rfl : os2 = s.os := mv.os
          show wpAny _ _ (_) _ _ _
          refine wpAny_pure (?_ : wpAny _ _ (ret Value.none) _ _ _)
          refine wpAny_pure ⟨rfl, h', tk2, rfl, g', fun b o e => ?_⟩
          have lb : b < s.heap.objs.size := Heap.lt_size e
          refine mv.heap b o ?_ (Heap.get?_push_of_some _ (Heap.get?_push_of_some _ e))
          rw [Heap.size_push]
          intro z
          rcases List.mem_cons.mp z with z | z
          · exact absurd z (Nat.ne_of_lt lb)
          · exact absurd (List.mem_singleton.mp z) (Nat.ne_of_lt (Nat.lt_succ_of_lt lb))
      · cases r2 with
        | error e => exact hr2
        | ok fl2 =>
          cases fl2 with
          | ret r =>
            obtain ⟨rfl, h', tk, rfl, g', k'⟩ := hr2
            repeat any_goals (first | assumption | wp_step)
            exact q _ _ g' k'
          | _ => exact hr2.elim
    | _ => exact hr.elim
end
def SetSO (P : Program) (w : World) (a : Addr) (xs : List (List Nat)) : HO := .ext fun h => SetS P w h a xs
theorem setSO_ok {P : Program} {w : World} {H : Hp} {h : Heap} {a : Addr} {xs : List (List Nat)} (G : SetS P w h a xs) : ObjOk P w H h a (SetSO P w a xs) := by
  have ⟨o, _, _, _, z, _⟩ := G
  exact ⟨G, ⟨o, z⟩, fun _ _ p k => SetG.keep p k⟩
section
variable {X : Cx}
theorem setSO_at {pins : List (Addr × Obj)} {σ : St} {H : Hp} {s : Shared} {a : Addr} {xs : List (List Nat)} (I : Inv X pins σ H s) (e : H a = some (SetSO X.prog X.w a xs)) : SetS X.prog X.w s.heap a xs := (I.hok a _ e).1
def rSetT (K : PySem.W.Frag) (P : Program) (w : World) : List V → Hp → VK → Prop := fun vs H Q => ∃ (l : Addr) (xs : List (List Nat)), vs = [V.ref l] ∧ SqL K H l ((xs.map tx).map V.str) ∧ xs.length < 4000 ∧ ∀ p, H p = none → Q (.ref p) (upd H p (SetSO P w p (dedT xs)))
theorem cr_setT (calm : X.calm = true) : CallR X (.type "set") (rSetT X.K X.prog X.w) := by
  intro pins s σ H vs us Q I r h
  obtain ⟨l, xs, rfl, hs, few, q⟩ := h
  rw [Vals.ref1 r]
  obtain ⟨its, rv, pl, hz⟩ := I.list hs
  have e := rv.length
  simp only [List.length_map] at e
  refine call_setL (I.ok.hd calm) pl.isList (by simpa using rv.strs) (by simp only [List.size_toArray]; have : scanBound = 4096 := rfl; omega) fun h' tk g k => ?_
  exact ⟨.ref _, upd H s.heap.objs.size (SetSO X.prog X.w s.heap.objs.size (dedT xs)), I.laid (t' := tk) (fun b u e => k b u e) (Nat.le_refl _) (setSO_ok g), rfl, q _ (I.hok.fresh (Nat.le_refl _))⟩
def rLenT (P : Program) (w : World) : List V → Hp → VK → Prop := fun vs H Q => ∃ (a : Addr) (xs : List (List Nat)), vs = [V.ref a] ∧ H a = some (SetSO P w a xs) ∧ Q (.int (xs.length : Nat)) H
theorem cr_lenT : CallR X (.builtin "len") (rLenT X.prog X.w) := by
  intro pins s σ H vs us Q I r h
  obtain ⟨a, xs, rfl, ha, q⟩ := h
  rw [Vals.ref1 r]
  obtain ⟨o, rs, n, t, gO, gX, gD, ⟨_, gP, _⟩, gB, gF, _⟩ := setSO_at I ha
  have e := gP.length_eq
  simp only [List.length_map, Array.length_toList] at e
  have : scanBound = 4096 := rfl
  exact call_len_set gO gX gD gF (by omega) ⟨.int (xs.length : Nat), H, I.tok _, ⟨_, by rw [← e]⟩, q⟩
end
end DL
namespace DL
open PySem PySem.Spec L2
open PyProof.Rows hiding St
section
variable {P : Program} {w : World} {A : Around} {E : Value → Shared → Prop} {s : Shared} {a b : Addr} {xs ys : List (List Nat)}
def sameT (xs ys : List (List Nat)) : Bool := decide (xs.length = ys.length) && xs.all fun x => decide (x ∈ ys)
end
section
variable {P : Program} {w : World} {A : Around} {E : Value → Shared → Prop} {s : Shared} {a : Addr} {xs : List (List Nat)}
theorem strs_txtE : ∀ (l : List Value), (∀ v, v ∈ l → ∃ x tk, v = Value.str (tx x) tk) → StrsAre l ((l.map fun v => cpsOf (0, v)).map tx)
  | [], _ => .nil
  | v :: l, h => by
    obtain ⟨x, tk, rfl⟩ := h v List.mem_cons_self
    have e : cpsOf (0, Value.str (tx x) tk) = x := cpsOf_tx (tk := tk) rfl
    simp only [List.map_cons, e]
    exact .cons _ tk (strs_txtE l fun u hu => h u (List.mem_cons_of_mem _ hu))
set_option maxHeartbeats 2000000 in
theorem sorted_at (G : SetS P w s.heap a xs) (calm : A.handled = none) {Q : Value → Shared → Prop}
    (q : ∀ s' p (out : Array Value) (c : Nat) (ss : List Str), (∀ b o, s.heap.get? b = some o → s'.heap.get? b = some o) → s'.gens = s.gens → s'.os = s.os → s.heap.objs.size ≤ p → s'.heap.get? p = some (seqObj "list" out c) → StrsAre out.toList ss → ss.Perm (xs.map tx) → sortedS ss = true → Q (.ref p) s') :
    wpAny (model P w) A (call (.builtin "sorted") [.ref a]) Q E s := by
  obtain ⟨o, rs, n, t, gO, gX, gD, ⟨gE, gP, gN⟩, gB, gF, gR, gL⟩ := G
  have e1 := gP.length_eq
  simp only [List.length_map, Array.length_toList] at e1
  refine Calls.call_function_entry kind_sorted plain_sorted entry_sorted (args_sorted1 (.ref a)) ?_
  unfold Builtin.«sorted»
  refine (wpAny_bind (m := checkCount "sorted" 1 1 _) (wpAny_pure ?_))
  refine (wpAny_bind (collect_set (A := A.in1) calm ⟨o, gO, gX.1, gD⟩ gF gB gR gL fun s1 vs k1 z1 g1 o1 pm => ?_))
  have vlen : vs.length = xs.length := by rw [pm.length_eq, List.length_map, Array.length_toList, e1]
  have hS : StrsAre vs ((vs.map fun v => cpsOf (0, v)).map tx) := strs_txtE vs fun v hv => by
    obtain ⟨e, he, rfl⟩ := List.mem_map.mp (pm.mem_iff.mp hv)
    obtain ⟨x, tk, ex, _⟩ := gE e he
    exact ⟨x, tk, ex⟩
  have pk : (vs.map fun v => cpsOf (0, v)).Perm xs := by
    have z := pm.map fun v => cpsOf (0, v)
    rw [List.map_map] at z
    exact z.trans gP
  have fits : vs.length ≤ sizeLine := by rw [vlen, ← e1]; exact fits_of_scanBound gB
  refine wpAny_bind (wpAny_newList ?_ fits)
  have gN' : (s1.heap.push (seqObj "list" vs.toArray 0)).get? s1.heap.objs.size = some (seqObj "list" vs.toArray 0) := Heap.get?_push_size _ rfl
  refine wpAny_bind (wpAny_holding (wpAny_call_entry slot_list_sort ⟨_, gN', rfl⟩ entry_list_sort ?_ (args_list_sort _)))
  refine list_sort_treeKAny strKind_oneLt gN' hS.keysOf (fun v1 v2 rest e => keyKind_strs (by rw [← e]; exact hS)) fits fun st' hp hs => ⟨_, rfl, ?_⟩
  obtain ⟨ss', h1, h2, h3⟩ := sorted_out_str hS hp hs
  obtain ⟨c, hc⟩ := sortedHeap_at (vs := vs) (out := (arrOf st').map (·.2)) gN'
  refine wpAny_pure ⟨_, rfl, q _ s1.heap.objs.size _ c ss' (fun b u e => ?_) g1 o1 z1 hc h1 (h2.trans (pk.map tx)) h3⟩
  have z := k1 b u e
  have lt := Heap.lt_size z
  refine (sortedHeap_old (Nat.ne_of_lt lt) (by rw [size_push']; exact Nat.lt_succ_of_lt lt)).trans ?_
  exact Heap.get?_push_of_some _ z
end
section
variable {X : Cx}
def rSortT (P : Program) (w : World) : List V → Hp → VK → Prop := fun vs H Q => ∃ (a : Addr) (xs : List (List Nat)), vs = [V.ref a] ∧ H a = some (SetSO P w a xs) ∧ ∀ p, H p = none → Q (.ref p) (upd H p (.lst (((sortT xs).map tx).map V.str)))
theorem cr_sortT (calm : X.calm = true) : CallR X (.builtin "sorted") (rSortT X.prog X.w) := by
  intro pins s σ H vs us Q I r h
  obtain ⟨a, xs, rfl, ha, q⟩ := h
  have G := setSO_at I ha
  rw [Vals.ref1 r]
  refine sorted_at G (I.ok.hd calm) fun s' p out c ss k g o hp hg hi hs ho => ?_
  obtain ⟨zs, rfl, hz⟩ := tx_map_of_perm hs
  obtain rfl : zs = sortT xs := sortT_eq hz (by
    cases zs with
    | nil => exact .nil
    | cons z zs => exact rising_pw zs z ho)
  obtain ⟨_, rs, _, _, _, _, _, ⟨_, gP, _⟩, gB, _⟩ := G
  have hlen : (((sortT xs).map tx).map V.str).length ≤ sizeLine := by
    have e1 := gP.length_eq
    have e2 := hz.length_eq
    simp only [List.length_map, Array.length_toList] at e1 e2 ⊢
    rw [e2, ← e1]
    exact fits_of_scanBound gB
  have hn : H p = none := I.hok.fresh hp
  have J : Inv X pins σ (upd H p (.lst (((sortT xs).map tx).map V.str))) { s with heap := s'.heap, gens := s'.gens, drawn := s'.drawn, toks := s'.toks } :=
    I.call (ch := []) (Un.laid k hp hn) (I.hok.laid k hp ⟨hlen, out.toList, c, vals_of_strs hi, hg⟩) (by rw [g]; exact I.bare) (fun _ z => nomatch z)
  have e : s' = { s with heap := s'.heap, gens := s'.gens, drawn := s'.drawn, toks := s'.toks } := by
    cases s'
    cases s
    cases o
    rfl
  exact e ▸ ⟨.ref p, _, J, rfl, q p hn⟩
end
end DL
namespace DL
open PySem PySem.Spec L2
open PyProof.Rows hiding St
abbrev MT := SD → MS → Res (List (List Nat))
def RT (P : Program) (w : World) (ro : Pl) (H : Hp) (xs : List (List Nat)) (v : V) : Prop := ∃ p, v = .ref p ∧ H p = some (SetSO P w p xs) ∧ p ∉ ro.all
def liftT (X : Cx) (W : WX) (m : MT) : TE := fun st H Q => ∃ ro sd M, RelS X.K X.mg ro M H ∧ RepSt X.K X.mg ro H sd st ∧ Post (RT X.prog X.w) X.K X.mg (fun c d H' => W c d st H') ro H Q (m sd M)
/-- e is a set of texts -/
structure DZ (X : Cx) (W : WX) (e : Expr) (m : MT) : Prop where
  pe : PE X e (liftT X W m)
/-- set(e) -/
def setR (ma : ME) : MT := fun sd M => (ma sd M).bind fun d M1 => match (lst1 [d] M1).bind stsOf with
  | some xs => if xs.length < 4000 then .ok (dedT xs) M1 else .stuck
  | none => .stuck
def lenZE (m : MT) : ME := fun sd M => (m sd M).bind fun xs M1 => .ok (.int (xs.length : Nat)) M1
def sortZE (m : MT) : ME := fun sd M => (m sd M).bind fun xs M1 => .ok (.lst ((sortT xs).map D.str)) M1
def sameZE (neg : Bool) (m m' : MT) : ME := fun sd M => (m sd M).bind fun xs M1 => (m' sd M1).bind fun ys M2 => .ok (.bl (sameT xs ys != neg)) M2
section
variable {X : Cx} {W : WX} {e e' : Expr} {ma : ME} {m m' : MT} {p p2 pos q : Pos}
theorem dz_set (calm : X.calm = true) (hg : Gl X "set") (hm : X.mg "set" = none) (he : DE X W e ma) (hs : starEach [e] X.env = (false, eval e X.env) :: starEach [] X.env := by rfl) : DZ X W (.Call (.Name "set" p) [e] [] pos) (setR ma) := by
  refine ⟨⟨fun pins s st H Q I z => (pe_callTy (cr_setT calm) hg hm boot_set (pa_cons he.pe pa_nil hs) (by decide) (by decide) hs (by rfl)).run pins s st H Q I ?_⟩⟩
  obtain ⟨ro, sd, M, R, S, P⟩ := z
  refine ⟨ro, sd, M, R, S, (Post.bind P).imp fun x H1 ⟨ro1, M1, d, R1, P1, r1, q1⟩ => ?_⟩
  split at q1
  · rename_i xs hx
    split at q1
    · rename_i hl
      obtain ⟨es, h1, h2⟩ := Option.bind_eq_some_iff.mp hx
      obtain ⟨a, vs, e1, hq, rs⟩ := lst1_at R1 (Reps.one r1) h1
      rw [stsOf_eq h2] at rs
      rw [Reps.strs rs] at hq
      obtain rfl : x = .ref a := by simpa using e1
      refine ⟨a, xs, rfl, hq, hl, fun p0 hp => ?_⟩
      obtain ⟨R2, P2⟩ := R1.alloc (o := SetSO X.prog X.w p0 (dedT xs)) hp
      exact q1 ro1 _ _ R2 P2 ⟨p0, rfl, upd_same, R1.fresh hp⟩
    · exact q1.elim
  · exact q1.elim
theorem de_lenZ (hg : Gl X "len") (hm : X.mg "len" = none) (he : DZ X W e m) (hs : starEach [e] X.env = (false, eval e X.env) :: starEach [] X.env := by rfl) : DE X W (.Call (.Name "len" p) [e] [] pos) (lenZE m) := by
  refine ⟨⟨fun pins s st H Q I z => (pe_callB cr_lenT hg hm boot_len (pa_cons he.pe pa_nil hs) (by decide) (by decide) hs (by rfl)).run pins s st H Q I ?_⟩⟩
  obtain ⟨ro, sd, M, R, S, P⟩ := z
  refine ⟨ro, sd, M, R, S, (Post.bind P).imp fun x H1 ⟨ro1, M1, xs, R1, P1, ⟨a, ea, ha, _⟩, q1⟩ => ?_⟩
  exact ⟨a, xs, by rw [ea], ha, q1 ro1 H1 _ R1 (Pres.refl _ _) rfl⟩
theorem de_sortZ (calm : X.calm = true) (hg : Gl X "sorted") (hm : X.mg "sorted" = none) (he : DZ X W e m) (hs : starEach [e] X.env = (false, eval e X.env) :: starEach [] X.env := by rfl) : DE X W (.Call (.Name "sorted" p) [e] [] pos) (sortZE m) := by
  refine ⟨⟨fun pins s st H Q I z => (pe_callB (cr_sortT calm) hg hm boot_sorted (pa_cons he.pe pa_nil hs) (by decide) (by decide) hs (by rfl)).run pins s st H Q I ?_⟩⟩
  obtain ⟨ro, sd, M, R, S, P⟩ := z
  refine ⟨ro, sd, M, R, S, (Post.bind P).imp fun x H1 ⟨ro1, M1, xs, R1, P1, ⟨a, ea, ha, _⟩, q1⟩ => ?_⟩
  refine ⟨a, xs, by rw [ea], ha, fun p0 hp => ?_⟩
  rw [List.map_map]
  exact PostD.newL R1 (map_reps (g := D.str) (v := V.str ∘ tx) (fun _ => rfl) _) q1 p0 hp
def sameZB (neg : Bool) (m m' : MT) : MB := fun sd M => (m sd M).bind fun xs M1 => (m' sd M1).bind fun ys M2 => .ok (sameT xs ys != neg) M2
end
section
variable {sd : SD} {M : MS} {ma : ME} {m m' : MT} {neg : Bool}
@[simp] theorem lenZE_ap : lenZE m sd M = (m sd M).bind fun xs M1 => .ok (.int (xs.length : Nat)) M1 := rfl
@[simp] theorem sortZE_ap : sortZE m sd M = (m sd M).bind fun xs M1 => .ok (.lst ((sortT xs).map D.str)) M1 := rfl
@[simp] theorem sameZE_ap : sameZE neg m m' sd M = (m sd M).bind fun xs M1 => (m' sd M1).bind fun ys M2 => .ok (.bl (sameT xs ys != neg)) M2 := rfl
@[simp] theorem sameZB_ap : sameZB neg m m' sd M = (m sd M).bind fun xs M1 => (m' sd M1).bind fun ys M2 => .ok (sameT xs ys != neg) M2 := rfl
theorem setR_ap : setR ma sd M = (ma sd M).bind fun d M1 => match (lst1 [d] M1).bind stsOf with
  | some xs => if xs.length < 4000 then .ok (dedT xs) M1 else .stuck
  | none => .stuck := rfl
theorem setR_run {xs : List (List Nat)} {d : D} {M1 : MS} (h : ma sd M = .ok d M1) (h1 : isTup d = false) (h2 : seqOf M1 d = some (xs.map D.str)) (h3 : xs.length < 4000) : setR ma sd M = .ok (dedT xs) M1 := by
  rw [setR_ap, h, Res.bind_ok]
  simp [lst1, h1, h2, h3]
theorem mem_insT {xs : List (List Nat)} {x y : List Nat} : y ∈ insT xs x ↔ y ∈ xs ∨ y = x := by
  unfold insT
  split
  · constructor
    · exact .inl
    · rintro (h | rfl)
      · exact h
      · assumption
  · simp
theorem mem_foldl_insT {y : List Nat} : ∀ {xs ys : List (List Nat)}, y ∈ xs.foldl insT ys ↔ y ∈ ys ∨ y ∈ xs
  | [], ys => by simp
  | x :: xs, ys => by
    rw [List.foldl_cons, mem_foldl_insT, mem_insT, List.mem_cons]
    constructor
    · rintro ((h | h) | h)
      · exact .inl h
      · exact .inr (.inl h)
      · exact .inr (.inr h)
    · rintro (h | h | h)
      · exact .inl (.inl h)
      · exact .inl (.inr h)
      · exact .inr h
@[simp] theorem mem_dedT {xs : List (List Nat)} {y : List Nat} : y ∈ dedT xs ↔ y ∈ xs := by unfold dedT; rw [mem_foldl_insT]; simp
theorem insT_nodup {xs : List (List Nat)} {x : List Nat} (h : xs.Nodup) : (insT xs x).Nodup := by
  unfold insT
  split
  · exact h
  · rename_i hm
    rw [List.nodup_append]
    refine ⟨h, by simp, fun y hy z hz => ?_⟩
    rw [List.mem_singleton.mp hz]
    exact fun e => hm (e ▸ hy)
theorem foldl_insT_nodup : ∀ {xs ys : List (List Nat)}, ys.Nodup → (xs.foldl insT ys).Nodup
  | [], ys, h => h
  | x :: xs, ys, h => foldl_insT_nodup (xs := xs) (insT_nodup h)
theorem dedT_nodup (xs : List (List Nat)) : (dedT xs).Nodup := foldl_insT_nodup List.nodup_nil
/-- sets are the same: they have the same members -/
theorem sameT_iff {xs ys : List (List Nat)} (hx : xs.Nodup) (hy : ys.Nodup) : sameT xs ys = true ↔ ∀ x, x ∈ xs ↔ x ∈ ys := by
  unfold sameT
  rw [Bool.and_eq_true, decide_eq_true_eq, List.all_eq_true]
  constructor
  · rintro ⟨hl, h⟩
    have sub : ∀ x, x ∈ xs → x ∈ ys := fun x hx' => by simpa using h x hx'
    refine fun x => ⟨sub x, fun hx' => Classical.byContradiction fun hn => ?_⟩
    have := List.Nodup.length_le_of_subset (l₁ := x :: xs) (l₂ := ys) (List.nodup_cons.mpr ⟨hn, hx⟩) (fun y hy' => (List.mem_cons.mp hy').elim (fun e => e ▸ hx') (sub y))
    simp at this
    omega
  · intro h
    have p : xs.Perm ys := (List.perm_ext_iff_of_nodup hx hy).mpr h
    exact ⟨p.length_eq, fun x hx' => by simpa using (h x).mp hx'⟩
theorem sameT_ded {xs ys : List (List Nat)} : sameT (dedT xs) (dedT ys) = true ↔ ∀ x, x ∈ xs ↔ x ∈ ys := by
  rw [sameT_iff (dedT_nodup _) (dedT_nodup _)]
  simp
end
end DL
namespace DL
open PySem PySem.Spec L2
open PyProof.Rows hiding St
/-- {} -/
def dicE : ME := fun _ M => .ok (.cell M.length) (M ++ [.dic [] []])
def isKey (k : Key) (d : D) : Bool := decide (keyD d = some k)
/-- the keys and values behind d[i] = v -/
def dputD (ks ds : List D) (i v : D) : Option (List D × List D) := match keyD i with
  | some k => if ks.length < 1000000 then (if ks.any (isKey k) = true then some (ks, List.zipWith (fun d x => if isKey k d = true then v else x) ks ds) else some (ks ++ [i], ds ++ [v])) else none
  | none => none
def dputM (M : MS) (o i v : D) : Option MS := match o with
  | .cell n => match M[n]? with
    | some (.dic ks ds) => (dputD ks ds i v).map fun p => M.set n (.dic p.1 p.2)
    | _ => none
  | _ => none
def dputS (mo mi m : ME) : MST := fun sd M => SRes.ofE (m sd M) sd fun v M1 => SRes.ofE (mo sd M1) sd fun o M2 => SRes.ofE (mi sd M2) sd fun i M3 => match dputM M3 o i v with
  | some M4 => .nx sd M4
  | none => .stuck
/-- len of lists, tuples, texts, dicts -/
def lenX : List D → MS → Res D := fun ds M => match ds with
  | [.cell n] => match M[n]? with
    | some (.dic ks _) => .ok (.int ks.length) M
    | _ => lenF ds M
  | _ => lenF ds M
section
variable {K : PySem.W.Frag} {mg : Str → Option Value} {ro : Pl} {H : Hp} {M : MS}
theorem rep_key {i : D} {x : V} {k : Key} (r : Rep K mg ro H i x) (e : keyD i = some k) : x = kV k := by
  cases i with
  | int j => cases e; exact r
  | str y => cases e; exact r
  | _ => cases e
theorem keysD_cons {d : D} {ks : List D} {kl : List Key} (h : keysD (d :: ks) = some kl) : ∃ k l, keyD d = some k ∧ keysD ks = some l ∧ kl = k :: l := by
  unfold keysD at h
  split at h
  · rename_i k l h1 h2
    cases h
    exact ⟨k, l, h1, h2, rfl⟩
  · cases h
theorem keysD_len : ∀ {ks : List D} {kl : List Key}, keysD ks = some kl → kl.length = ks.length
  | [], kl, h => by cases h; rfl
  | d :: ks, kl, h => by
    obtain ⟨k, l, _, h2, rfl⟩ := keysD_cons h
    simp [keysD_len h2]
theorem keysD_any {k : Key} : ∀ {ks : List D} {kl : List Key}, keysD ks = some kl → ks.any (isKey k) = kl.any fun k' => decide (k' = k)
  | [], kl, h => by cases h; rfl
  | d :: ks, kl, h => by
    obtain ⟨k', l, h1, h2, rfl⟩ := keysD_cons h
    rw [List.any_cons, List.any_cons, keysD_any h2]
    unfold isKey
    rw [h1]
    simp
theorem keysD_snoc {i : D} {k : Key} : ∀ {ks : List D} {kl : List Key}, keysD ks = some kl → keyD i = some k → keysD (ks ++ [i]) = some (kl ++ [k])
  | [], kl, h, e => by cases h; simp [keysD, e]
  | d :: ks, kl, h, e => by
    obtain ⟨k', l, h1, h2, rfl⟩ := keysD_cons h
    rw [List.cons_append]
    unfold keysD
    rw [h1, keysD_snoc h2 e]
    rfl
theorem zip_map_key {k : Key} {v : V} : ∀ (kl : List Key) (vs : List V), kl.length = vs.length → (kl.zip vs).map (fun kv => if kv.1 = k then (kv.1, v) else kv) = kl.zip (List.zipWith (fun k' x => if k' = k then v else x) kl vs)
  | [], vs, _ => by simp
  | k' :: kl, [], h => by cases h
  | k' :: kl, x :: vs, h => by
    simp only [List.zip_cons_cons, List.map_cons, List.zipWith_cons_cons]
    rw [zip_map_key kl vs (by simpa using h)]
    congr 1
    split <;> rfl
theorem zip_any {k : Key} : ∀ (kl : List Key) (vs : List V), kl.length = vs.length → ((kl.zip vs).any fun kv => decide (kv.1 = k)) = kl.any fun k' => decide (k' = k)
  | [], vs, _ => by simp
  | k' :: kl, [], h => by cases h
  | k' :: kl, x :: vs, h => by
    simp only [List.zip_cons_cons, List.any_cons]
    rw [zip_any kl vs (by simpa using h)]
theorem zip_snoc {k : Key} {v : V} : ∀ (kl : List Key) (vs : List V), kl.length = vs.length → (kl ++ [k]).zip (vs ++ [v]) = kl.zip vs ++ [(k, v)]
  | [], [], _ => rfl
  | [], x :: vs, h => by cases h
  | k' :: kl, [], h => by cases h
  | k' :: kl, x :: vs, h => by simp [zip_snoc kl vs (by simpa using h)]
theorem Reps.zipPut {k : Key} {v : D} {y : V} (r : Rep K mg ro H v y) : ∀ {ks : List D} {kl : List Key} {ds : List D} {vs : List V}, keysD ks = some kl → Reps K mg ro H ds vs → Reps K mg ro H (List.zipWith (fun d x => if isKey k d = true then v else x) ks ds) (List.zipWith (fun k' x => if k' = k then y else x) kl vs)
  | [], kl, ds, vs, h, q => by cases h; simp [Reps]
  | d :: ks, kl, [], vs, h, q => by
    cases (show vs = [] from q)
    simp [Reps]
  | d :: ks, kl, x :: ds, vs, h, ⟨z, t, e, q1, q2⟩ => by
    obtain ⟨k', l, h1, h2, rfl⟩ := keysD_cons h
    subst e
    simp only [List.zipWith_cons_cons]
    refine ⟨_, _, rfl, ?_, Reps.zipPut r h2 q2⟩
    unfold isKey
    rw [h1]
    by_cases hk : k' = k
    · rw [if_pos (by simp [hk]), if_pos hk]; exact r
    · rw [if_neg (by simp [hk]), if_neg hk]; exact q1
/-- the new pairs stand for the new data -/
theorem dput_at {ks ds ks' ds' : List D} {i v : D} {kl : List Key} {vs : List V} {x y : V} (e : dputD ks ds i v = some (ks', ds')) (hk : keysD ks = some kl) (hl : kl.length = vs.length) (hd : Reps K mg ro H ds vs) (ri : Rep K mg ro H i x) (rv : Rep K mg ro H v y) :
    ∃ k, x = kV k ∧ (kl.zip vs).length < sizeLine ∧ ∃ kl' vs', putK (kl.zip vs) k y = kl'.zip vs' ∧ keysD ks' = some kl' ∧ kl'.length = vs'.length ∧ Reps K mg ro H ds' vs' := by
  unfold dputD at e
  cases hi : keyD i with
  | none => rw [hi] at e; cases e
  | some k =>
    rw [hi] at e
    dsimp only at e
    have lk := keysD_len hk
    split at e
    · rename_i hlen
      refine ⟨k, rep_key ri hi, ?_, ?_⟩
      · rw [List.length_zip, ← hl, Nat.min_self, lk]
        exact line_lt hlen
      · unfold putK
        rw [zip_any kl vs hl, ← keysD_any hk]
        split at e
        · rename_i ha
          cases e
          rw [if_pos ha]
          exact ⟨kl, _, zip_map_key kl vs hl, hk, by simp [hl], Reps.zipPut rv hk hd⟩
        · rename_i ha
          cases e
          rw [if_neg ha]
          exact ⟨kl ++ [k], vs ++ [y], (zip_snoc kl vs hl).symm, keysD_snoc hk hi, by simp [hl], hd.append (Reps.one rv)⟩
    · cases e
end
section
variable {X : Cx} {W : WX} {o i e : Expr} {mo mi m : ME} {pos tp p : Pos}
theorem de_dic : DE X W (.Dict [] [] pos) dicE := by
  refine ⟨⟨fun pins s st H Q I z => pe_dnewK.run pins s st H Q I ?_⟩⟩
  obtain ⟨ro, sd, M, R, S, P⟩ := z
  intro a ha
  obtain ⟨R1, P1⟩ := R.allocM (o := .dK []) (mo := .dic [] []) ha ⟨[], [], rfl, rfl, rfl, rfl⟩
  exact P _ _ _ R1 P1 ⟨a, rfl, by rw [← R.len]; simp⟩
theorem ds_dput (hu : X.A.units + 1 < cLine) (ho : DE X W o mo) (hi : DE X W i mi) (he : DE X W e m) (hs : swapsWith e (some (.Subscript o i tp)) pos.line X.env = pure false := by rfl) : DS X W (.Assign [.Subscript o i tp] e pos) (dputS mo mi m) := by
  refine ⟨⟨fun pins s st H D0 I z => (ps_dput hu ho.pe hi.pe he.pe hs).run pins s st H D0 I ?_⟩⟩
  obtain ⟨ro, sd, M, R, S, P⟩ := z
  refine ⟨ro, sd, M, R, S, (PostS.ofE P S).imp fun v H1 ⟨ro1, M1, dv, R1, P1, r1, q1⟩ => ?_⟩
  refine ⟨ro1, sd, M1, R1, S.mono P1, (PostS.ofE q1 (S.mono P1)).imp fun x H2 ⟨ro2, M2, dx, R2, P2, r2, q2⟩ => ?_⟩
  refine ⟨ro2, sd, M2, R2, (S.mono P1).mono P2, (PostS.ofE q2 ((S.mono P1).mono P2)).imp fun y H3 ⟨ro3, M3, di, R3, P3, r3, q3⟩ => ?_⟩
  have r1' := Rep.mono P3 _ _ (Rep.mono P2 _ _ r1)
  have r2' := Rep.mono P3 _ _ r2
  cases hM : dputM M3 dx di dv with
  | none => rw [hM] at q3; exact q3.elim
  | some M4 =>
    rw [hM] at q3
    cases dx with
    | cell n =>
      have hM : (match M3[n]? with | some (.dic ks ds) => (dputD ks ds di dv).map fun p => M3.set n (.dic p.1 p.2) | _ => none) = some M4 := hM
      split at hM
      · rename_i ks ds hn
        obtain ⟨⟨ks', ds'⟩, hp, rfl⟩ := Option.map_eq_some_iff.mp hM
        obtain ⟨a, ho, rfl, g, h, kl, vs, rfl, hk, hl, hd⟩ := R3.cellAt r2' hn
        obtain ⟨k, rfl, h1, kl', vs', e1, e2, e3, e4⟩ := dput_at hp hk hl hd r3 r1'
        obtain ⟨R4, P4⟩ := R3.change (o := .dK (putK (kl.zip vs) k v)) (mo := .dic ks' ds') g ⟨kl', vs', by rw [e1], e2, e3, e4⟩
        exact ⟨a, _, rfl, DPut.k h h1, q3 ro3 _ _ R4 P4 ((((S.mono P1).mono P2).mono P3).mono P4)⟩
      · cases hM
    | _ => cases hM
theorem callS_lenX : CallS X (.builtin "len") lenX := by
  obtain ⟨r, h1, h2⟩ := callS_len (X := X)
  refine ⟨fun vs H Q => r vs H Q ∨ ∃ a kvs, vs = [.ref a] ∧ H a = some (.dK kvs) ∧ Q (.int (kvs.length : Nat)) H, ?_, fun ro H M ds xs E Q R rs P => ?_⟩
  · intro pins s σ H vs us Q I rr q
    rcases q with q | ⟨a, kvs, rfl, ha, q⟩
    · exact h1 pins s σ H vs us Q I rr q
    · rw [Vals.ref1 rr]
      exact d_len I (.inl ha) fun t s' I' => ⟨.int (kvs.length : Nat), H, I', ⟨_, rfl⟩, q⟩
  · unfold lenX at P
    split at P
    · rename_i n
      split at P
      · rename_i ks ds hn
        obtain ⟨v, rfl, q⟩ := reps1 rs
        obtain ⟨a, ho, rfl, g, h, kl, vs, rfl, hk, hl, hd⟩ := R.cellAt q hn
        refine .inr ⟨a, _, rfl, h, ?_⟩
        rw [List.length_zip, ← hl, Nat.min_self, keysD_len hk]
        exact PostD.pure (d := .int ks.length) R rfl P
      · exact .inl (h2 ro H M _ xs E Q R rs P)
    · exact .inl (h2 ro H M _ xs E Q R rs P)
end
def revN (n : Nat) : List Int := (List.range n).map fun (k : Nat) => (0 + (n : Int) - 1) + k * (-1)
theorem revN_eq (n : Nat) : revN n = (List.range n).reverse.map fun (k : Nat) => (k : Int) := by
  unfold revN
  apply List.ext_getElem
  · simp
  · intro i h1 h2
    simp at h1 h2
    simp
    omega
def rev1I (m : ME) : MI := fun sd M => (m sd M).bind fun d M1 => match d with
  | .int j => if -1000000000 ≤ j ∧ j ≤ 1000000000 then .ok (intsI (revN j.toNat)) M1 else .stuck
  | _ => .stuck
section
variable {X : Cx} {W : WX} {tg a : Expr} {m : ME} {p p2 pos q : Pos}
theorem di_rev1 (hg : Gl X "reversed") (hm : X.mg "reversed" = none) (hg2 : Gl X "range") (hm2 : X.mg "range" = none) (he : DE X W a m) (na : starEach [a] X.env = (false, eval a X.env) :: starEach [] X.env := by rfl)
    (hs : starEach [.Call (.Name "range" p2) [a] [] q] X.env = (false, eval (.Call (.Name "range" p2) [a] [] q) X.env) :: starEach [] X.env := by rfl) :
    DI X W tg (.Call (.Name "reversed" p) [.Call (.Name "range" p2) [a] [] q] [] pos) (rev1I m) := by
  refine ⟨⟨fun pins s st H Q I z => (pi_revR hg hm (prg_1 hg2 hm2 he.pe na) hs).run pins s st H Q I ?_⟩⟩
  obtain ⟨ro, sd, M, R, S, P⟩ := z
  refine ⟨ro, sd, M, R, S, (Post.bind P).imp fun x H1 ⟨ro1, M1, d, R1, P1, r1, q1⟩ => ?_⟩
  split at q1
  · rename_i j
    cases (show x = V.int j from r1)
    split at q1
    · rename_i hj
      refine ⟨j, rfl, by omega, by omega, by omega, by omega, ?_⟩
      rw [Int.sub_zero]
      exact q1 ro1 H1 _ R1 (Pres.refl _ _) (iterOk_ints (0 + (j.toNat : Int) - 1) (-1) j.toNat)
    · exact q1.elim
  · exact q1.elim
end
end DL
namespace DL
abbrev Lr := List Nat
abbrev Wd := List (List Nat)
def SameC (u v : Wd) : Prop := ∀ x, x ∈ u ↔ x ∈ v
theorem SameC.refl (u : Wd) : SameC u u := fun _ => Iff.rfl
theorem SameC.symm {u v : Wd} (h : SameC u v) : SameC v u := fun x => (h x).symm
theorem SameC.trans {u v w : Wd} (h : SameC u v) (k : SameC v w) : SameC u w := fun x => (h x).trans (k x)
theorem SameC.nil {u v : Wd} (h : SameC u v) (e : u = []) : v = [] := by
  subst e
  cases v with
  | nil => rfl
  | cons x v => exact absurd ((h x).mpr List.mem_cons_self) (by simp)
/-- p is the longest beginning of w that lacks a letter, a the letter behind it -/
def Beg (w p : Wd) (a : Lr) : Prop := (∃ r, w = p ++ a :: r) ∧ a ∉ p ∧ ∀ x, x ∈ w → x ∈ p ∨ x = a
theorem Beg.uniq {w p p' : Wd} {a a' : Lr} (h : Beg w p a) (h' : Beg w p' a') : p = p' ∧ a = a' := by
  obtain ⟨⟨r, e⟩, n, c⟩ := h
  obtain ⟨⟨r', e'⟩, n', c'⟩ := h'
  have key : ∀ {p p' : Wd} {a a' : Lr} {r r' : Wd}, w = p ++ a :: r → w = p' ++ a' :: r' → a' ∉ p' → (∀ x, x ∈ w → x ∈ p ∨ x = a) → ¬ p.length < p'.length := fun {p p' a a' r r'} e e' n' c hl => by
    have hp : ∀ x, x ∈ p ∨ x = a → x ∈ p' := fun x hx => by
      have e2 : (p ++ [a]) = p'.take (p.length + 1) := by
        have h1 : w.take (p.length + 1) = p ++ [a] := by
          rw [e, show p ++ a :: r = (p ++ [a]) ++ r by simp]
          exact List.take_left' (by simp)
        have h2 : w.take (p.length + 1) = p'.take (p.length + 1) := by rw [e', List.take_append_of_le_length hl]
        rw [← h1, h2]
      have : x ∈ p ++ [a] := by simpa using hx
      rw [e2] at this
      exact List.mem_of_mem_take this
    exact n' (hp a' (c a' (by rw [e']; simp)))
  have l1 := key e e' n' c
  have l2 := key e' e n c'
  have hl : p.length = p'.length := by omega
  have := List.append_inj (e.symm.trans e') hl
  exact ⟨this.1, by have := this.2; injection this⟩
/-- the beginning, found letter by letter -/
def stepB (s : Wd × Wd × Lr) (x : Lr) : Wd × Wd × Lr := (s.1 ++ [x], if x ∈ s.1 then s.2 else (s.1, x))
def begF (w : Wd) : Wd × Lr := (w.foldl stepB ([], [], [])).2
theorem foldB_fst (w : Wd) : ∀ s, (w.foldl stepB s).1 = s.1 ++ w := by
  induction w with
  | nil => intro s; simp
  | cons x w ih => intro s; rw [List.foldl_cons, ih]; simp [stepB]
theorem begF_snoc (w : Wd) (x : Lr) : begF (w ++ [x]) = if x ∈ w then begF w else (w, x) := by
  unfold begF
  rw [List.foldl_append]
  simp only [List.foldl_cons, List.foldl_nil, stepB]
  rw [foldB_fst]
  simp
theorem beg_ex : ∀ {w : Wd}, w ≠ [] → Beg w (begF w).1 (begF w).2 := by
  have key : ∀ (n : Nat) (w : Wd), w.length = n → w ≠ [] → Beg w (begF w).1 (begF w).2 := by
    intro n
    induction n with
    | zero => intro w h1 h2; exact absurd (List.length_eq_zero_iff.mp h1) h2
    | succ n ih =>
      intro w h1 h2
      obtain ⟨u, x, rfl⟩ : ∃ u x, w = u ++ [x] := ⟨_, _, (List.dropLast_concat_getLast h2).symm⟩
      rw [begF_snoc]
      by_cases hx : x ∈ u
      · rw [if_pos hx]
        have hu : u ≠ [] := fun e => by rw [e] at hx; cases hx
        obtain ⟨⟨r, e⟩, n', c⟩ := ih u (by simpa using h1) hu
        have e3 : u ++ [x] = (begF u).1 ++ (begF u).2 :: (r ++ [x]) := (congrArg (· ++ [x]) e).trans (by simp)
        refine ⟨⟨r ++ [x], e3⟩, n', fun y hy => ?_⟩
        rcases List.mem_append.mp hy with hy | hy
        · exact c y hy
        · rw [List.mem_singleton.mp hy]; exact c x hx
      · rw [if_neg hx]
        refine ⟨⟨[], by simp⟩, hx, fun y hy => ?_⟩
        simpa using hy
  intro w h
  exact key _ w rfl h
theorem begF_eq {w p : Wd} {a : Lr} (h : Beg w p a) : begF w = (p, a) := by
  have hw : w ≠ [] := fun e => by obtain ⟨⟨r, e'⟩, _⟩ := h; rw [e] at e'; cases p <;> cases e'
  obtain ⟨h1, h2⟩ := (beg_ex hw).uniq h
  exact Prod.ext h1 h2
def endF (w : Wd) : Lr × Wd := ((begF w.reverse).2, (begF w.reverse).1.reverse)
abbrev bP (w : Wd) : Wd := (begF w).1
abbrev eS (w : Wd) : Wd := (endF w).2
/-- b, and the longest end that lacks it -/
def End (w : Wd) (b : Lr) (s : Wd) : Prop := (∃ r, w = r ++ b :: s) ∧ b ∉ s ∧ ∀ x, x ∈ w → x ∈ s ∨ x = b
theorem End.rev {w s : Wd} {b : Lr} (h : End w b s) : Beg w.reverse s.reverse b := by
  obtain ⟨⟨r, rfl⟩, n, c⟩ := h
  exact ⟨⟨r.reverse, by simp⟩, by simpa using n, fun x hx => by rw [List.mem_reverse] at hx ⊢; exact c x hx⟩
theorem endF_eq {w s : Wd} {b : Lr} (h : End w b s) : endF w = (b, s) := by
  unfold endF
  rw [begF_eq h.rev, List.reverse_reverse]
theorem end_ex {w : Wd} (h : w ≠ []) : End w (endF w).1 (endF w).2 := by
  obtain ⟨⟨r, e⟩, n, c⟩ := beg_ex (w := w.reverse) (by simpa using h)
  refine ⟨⟨r.reverse, ?_⟩, ?_, fun x hx => ?_⟩
  · have := congrArg List.reverse e
    rw [List.reverse_reverse] at this
    refine this.trans ?_
    simp [endF]
  · simpa [endF] using n
  · simpa [endF] using c x (by simpa using hx)
theorem bP_rev (w : Wd) : bP w.reverse = (eS w).reverse := by
  show (begF w.reverse).1 = (begF w.reverse).1.reverse.reverse
  rw [List.reverse_reverse]
theorem eS_rev (w : Wd) : eS w.reverse = (bP w).reverse := by
  show (begF w.reverse.reverse).1.reverse = (begF w).1.reverse
  rw [List.reverse_reverse]
def mv1 (p : Bool) (w : Wd) : Wd := if p = true then bP w else eS w
def mv : List Bool → Wd → Wd
  | [], w => w
  | p :: m, w => mv m (mv1 p w)
/-- band-alike -/
def Al (u v : Wd) : Prop := ∀ m, SameC (mv m u) (mv m v)
theorem Al.refl (u : Wd) : Al u u := fun _ => SameC.refl _
theorem Al.symm {u v : Wd} (h : Al u v) : Al v u := fun m => (h m).symm
theorem Al.trans {u v w : Wd} (h : Al u v) (k : Al v w) : Al u w := fun m => (h m).trans (k m)
theorem Al.c {u v : Wd} (h : Al u v) : SameC u v := h []
theorem Al.mv {u v : Wd} (h : Al u v) (p : Bool) : Al (mv1 p u) (mv1 p v) := fun m => h (p :: m)
theorem Al.of {u v : Wd} (h : SameC u v) (h1 : ∀ p, Al (mv1 p u) (mv1 p v)) : Al u v := fun m => match m with
  | [] => h
  | p :: m => h1 p m
theorem mv_rev (w : Wd) : ∀ m, mv m w.reverse = (mv (m.map not) w).reverse := by
  intro m
  induction m generalizing w with
  | nil => rfl
  | cons p m ih =>
    show mv m (mv1 p w.reverse) = (mv (m.map not) (mv1 (!p) w)).reverse
    rw [← ih]
    congr 1
    cases p
    · exact eS_rev w
    · exact bP_rev w
theorem Al.rev {u v : Wd} (h : Al u v) : Al u.reverse v.reverse := fun m x => by
  rw [mv_rev, mv_rev, List.mem_reverse, List.mem_reverse]
  exact h _ x
theorem Beg.more {w p y : Wd} {a : Lr} (h : Beg w p a) (hy : ∀ x, x ∈ y → x ∈ w) : Beg (w ++ y) p a := by
  obtain ⟨⟨r, e⟩, n, c⟩ := h
  refine ⟨⟨r ++ y, by rw [e]; simp⟩, n, fun x hx => ?_⟩
  rcases List.mem_append.mp hx with hx | hx
  · exact c x hx
  · exact c x (hy x hx)
theorem End.more {w s y : Wd} {b : Lr} (h : End w b s) (hy : ∀ x, x ∈ y → x ∈ w) : End (y ++ w) b s := by
  obtain ⟨⟨r, e⟩, n, c⟩ := h
  refine ⟨⟨y ++ r, by rw [e]; simp⟩, n, fun x hx => ?_⟩
  rcases List.mem_append.mp hx with hx | hx
  · exact c x (hy x hx)
  · exact c x hx
theorem bP_more {w y : Wd} (hw : w ≠ []) (hy : ∀ x, x ∈ y → x ∈ w) : begF (w ++ y) = begF w := begF_eq ((beg_ex hw).more hy)
theorem eS_more {w y : Wd} (hw : w ≠ []) (hy : ∀ x, x ∈ y → x ∈ w) : endF (y ++ w) = endF w := endF_eq ((end_ex hw).more hy)
/-- where the second word brings letters, the beginning ends in it -/
theorem bP_new : ∀ (y u : Wd), (∃ x, x ∈ y ∧ x ∉ u) → ∃ y1, ∀ v, SameC u v → bP (v ++ y) = v ++ y1 := by
  intro y
  have key : ∀ (n : Nat) (y u : Wd), y.length = n → (∃ x, x ∈ y ∧ x ∉ u) → ∃ y1, ∀ v, SameC u v → bP (v ++ y) = v ++ y1 := by
    intro n
    induction n with
    | zero =>
      intro y u h ⟨x, hx, _⟩
      rw [List.length_eq_zero_iff.mp h] at hx; cases hx
    | succ n ih =>
      intro y u h ⟨x, hx, hn⟩
      have hy : y ≠ [] := fun e => by rw [e] at hx; cases hx
      obtain ⟨z, c, rfl⟩ : ∃ z c, y = z ++ [c] := ⟨_, _, (List.dropLast_concat_getLast hy).symm⟩
      by_cases hc : c ∈ u ∨ c ∈ z
      · obtain ⟨y1, h1⟩ := ih z u (by simpa using h) (by
          rcases List.mem_append.mp hx with hx | hx
          · exact ⟨x, hx, hn⟩
          · rcases hc with hc | hc
            · rw [List.mem_singleton.mp hx] at hn; exact absurd hc hn
            · exact ⟨c, hc, by rw [List.mem_singleton.mp hx] at hn; exact hn⟩)
        refine ⟨y1, fun v hv => ?_⟩
        rw [← h1 v hv, ← List.append_assoc]
        show (begF (v ++ z ++ [c])).1 = _
        rw [begF_snoc, if_pos (by rw [List.mem_append]; exact hc.imp (hv c).mp id)]
      · refine ⟨z, fun v hv => ?_⟩
        rw [← List.append_assoc]
        show (begF (v ++ z ++ [c])).1 = _
        rw [begF_snoc, if_neg (by rw [List.mem_append]; exact fun k => hc (k.imp (hv c).mpr id))]
  exact fun u h => key _ y u rfl h
/-- what the first word leaves in the end of both -/
theorem cnt_lt {s w : Wd} {b : Lr} (hb : b ∉ s) (hw : b ∈ w) (h : ∀ x, x ∈ s → x ∈ w) : (dedT s).length < (dedT w).length := by
  have := List.Nodup.length_le_of_subset (l₁ := b :: dedT s) (l₂ := dedT w) (List.nodup_cons.mpr ⟨by simpa using hb, dedT_nodup s⟩) (fun x hx => by
    rcases List.mem_cons.mp hx with rfl | hx
    · simpa using hw
    · simpa using h x (by simpa using hx))
  simp at this
  omega
theorem End.mem {w s : Wd} {b : Lr} (h : End w b s) : b ∈ w ∧ ∀ x, x ∈ s → x ∈ w := by
  obtain ⟨⟨r, e⟩, _, _⟩ := h
  rw [e]
  exact ⟨by simp, fun x hx => by simp [hx]⟩
theorem Beg.mem {w p : Wd} {a : Lr} (h : Beg w p a) : a ∈ w ∧ ∀ x, x ∈ p → x ∈ w := by
  obtain ⟨⟨r, e⟩, _, _⟩ := h
  rw [e]
  exact ⟨by simp, fun x hx => by simp [hx]⟩
/-- alike words lose the same letter -/
theorem Al.lost {u v : Wd} (h : Al u v) (hu : u ≠ []) : (begF u).2 = (begF v).2 ∧ (endF u).1 = (endF v).1 := by
  have hv : v ≠ [] := fun e => hu (h.c.symm.nil e)
  constructor
  · have b1 := beg_ex hu
    have b2 := beg_ex hv
    have h1 : (begF u).2 ∈ v := (h.c _).mp b1.mem.1
    rcases b2.2.2 _ h1 with k | k
    · exact absurd (((h.mv true).c _).mpr k) b1.2.1
    · exact k
  · have b1 := end_ex hu
    have b2 := end_ex hv
    have h1 : (endF u).1 ∈ v := (h.c _).mp b1.mem.1
    rcases b2.2.2 _ h1 with k | k
    · exact absurd (((h.mv false).c _).mpr k) b1.2.1
    · exact k
theorem eS_new (y : Wd) : ∀ (n : Nat) (u : Wd), (dedT u).length = n → (∃ x, x ∈ u ∧ x ∉ y) → ∀ v, Al u v → ∃ u' v', eS (u ++ y) = u' ++ y ∧ eS (v ++ y) = v' ++ y ∧ Al u' v' := by
  intro n
  induction n using Nat.strongRecOn with
  | ind n ih =>
    intro u hn ⟨x, hx, hxy⟩ v hv
    have hu : u ≠ [] := fun e => by rw [e] at hx; cases hx
    have hv0 : v ≠ [] := fun e => hu (hv.c.symm.nil e)
    have e1 := end_ex hu
    have e2 := end_ex hv0
    have el := (hv.lost hu).2
    have as := hv.mv false
    rw [← el] at e2
    generalize (endF u).1 = b at e1 e2
    have as : Al (endF u).2 (endF v).2 := as
    generalize (endF u).2 = s at e1 as
    generalize (endF v).2 = t at e2 as
    by_cases hb : b ∈ y
    · have cover : ∀ {w s : Wd}, End w b s → (∃ r, w ++ y = r ++ (s ++ y) ∧ ∀ z, z ∈ r → z ∈ s ++ y) := fun {w s} e => by
        obtain ⟨⟨r, rfl⟩, n', c⟩ := e
        refine ⟨r ++ [b], by simp, fun z hz => ?_⟩
        rcases List.mem_append.mp hz with hz | hz
        · rcases c z (by simp [hz]) with k | k
          · simp [k]
          · simp [k, hb]
        · rw [List.mem_singleton.mp hz]; simp [hb]
      obtain ⟨r1, q1, k1⟩ := cover e1
      obtain ⟨r2, q2, k2⟩ := cover e2
      have hs : ∃ x, x ∈ s ∧ x ∉ y := by
        rcases e1.2.2 x hx with k | k
        · exact ⟨x, k, hxy⟩
        · rw [k] at hxy; exact absurd hb hxy
      obtain ⟨u', v', z1, z2, z3⟩ := ih _ (by rw [← hn]; exact cnt_lt e1.2.1 e1.mem.1 e1.mem.2) s rfl hs t as
      have ns : s ++ y ≠ [] := fun e => by rw [List.append_eq_nil_iff] at e; rw [e.2] at hb; cases hb
      have nt : t ++ y ≠ [] := fun e => by rw [List.append_eq_nil_iff] at e; rw [e.2] at hb; cases hb
      refine ⟨u', v', ?_, ?_, z3⟩
      · rw [q1]
        show (endF _).2 = _
        rw [eS_more ns k1]
        exact z1
      · rw [q2]
        show (endF _).2 = _
        rw [eS_more nt k2]
        exact z2
    · have fin : ∀ {w s : Wd}, End w b s → eS (w ++ y) = s ++ y := fun {w s} e => by
        obtain ⟨⟨r, rfl⟩, n', c⟩ := e
        show (endF _).2 = _
        rw [endF_eq (b := b) (s := s ++ y) ⟨⟨r, by simp⟩, by simp [n', hb], fun z hz => by
          rcases List.mem_append.mp hz with hz | hz
          · rcases c z hz with k | k
            · exact .inl (by simp [k])
            · exact .inr k
          · exact .inl (by simp [hz])⟩]
      exact ⟨s, t, fin e1, fin e2, as⟩
/-- alike words stay alike with the same word behind, ahead -/
theorem Al.behind_ : ∀ (m : List Bool) (u v y : Wd), Al u v → SameC (DL.mv m (u ++ y)) (DL.mv m (v ++ y)) := by
  intro m
  induction m with
  | nil =>
    intro u v y h x
    show x ∈ u ++ y ↔ x ∈ v ++ y
    rw [List.mem_append, List.mem_append, h.c x]
  | cons p m ih =>
    intro u v y h
    by_cases hu : u = []
    · subst hu
      rw [h.c.nil rfl]
      exact SameC.refl _
    have hv : v ≠ [] := fun e => hu (h.c.symm.nil e)
    cases p with
    | true =>
      show SameC (DL.mv m (bP (u ++ y))) (DL.mv m (bP (v ++ y)))
      by_cases hy : ∃ x, x ∈ y ∧ x ∉ u
      · obtain ⟨y1, h1⟩ := bP_new y u hy
        rw [h1 u (SameC.refl u), h1 v h.c]
        exact ih u v y1 h
      · have hy : ∀ x, x ∈ y → x ∈ u := fun x hx => Classical.byContradiction fun k => hy ⟨x, hx, k⟩
        unfold bP
        rw [bP_more hu hy, bP_more hv fun x hx => (h.c x).mp (hy x hx)]
        exact h (true :: m)
    | false =>
      show SameC (DL.mv m (eS (u ++ y))) (DL.mv m (eS (v ++ y)))
      by_cases hy : ∃ x, x ∈ u ∧ x ∉ y
      · obtain ⟨u', v', z1, z2, z3⟩ := eS_new y _ u rfl hy v h
        rw [z1, z2]
        exact ih u' v' y z3
      · have hy : ∀ x, x ∈ u → x ∈ y := fun x hx => Classical.byContradiction fun k => hy ⟨x, hx, k⟩
        have ny : y ≠ [] := fun e => by
          cases u with
          | nil => exact hu rfl
          | cons x u => have := hy x List.mem_cons_self; rw [e] at this; cases this
        unfold eS
        rw [eS_more ny hy, eS_more ny fun x hx => hy x ((h.c x).mpr hx)]
        exact SameC.refl _
theorem Al.behind {u v : Wd} (h : Al u v) (y : Wd) : Al (u ++ y) (v ++ y) := fun m => Al.behind_ m u v y h
theorem Al.ahead {u v : Wd} (h : Al u v) (x : Wd) : Al (x ++ u) (x ++ v) := by
  have := (h.rev.behind x.reverse).rev
  simpa using this
theorem Al.twice (u : Wd) : Al (u ++ u) u := by
  by_cases hu : u = []
  · subst hu; exact Al.refl _
  refine Al.of (fun x => by simp) fun p => ?_
  cases p with
  | true =>
    show Al (begF (u ++ u)).1 (begF u).1
    rw [bP_more hu fun x hx => hx]
    exact Al.refl _
  | false =>
    show Al (endF (u ++ u)).2 (endF u).2
    rw [eS_more hu fun x hx => hx]
    exact Al.refl _
theorem Al.between {x y z : Wd} (h : SameC x z) (hy : ∀ l, l ∈ y → l ∈ x) : Al (x ++ z) (x ++ y ++ z) := by
  by_cases hx : x = []
  · subst hx
    have : y = [] := by
      cases y with
      | nil => rfl
      | cons l y => exact absurd (hy l List.mem_cons_self) (by simp)
    subst this
    exact Al.refl _
  have hz : z ≠ [] := fun e => hx (h.symm.nil e)
  refine Al.of (fun l => ?_) fun p => ?_
  · simp only [List.mem_append]
    exact ⟨fun k => k.imp .inl id, fun k => k.elim (fun k => k.elim .inl fun k => .inl (hy l k)) .inr⟩
  cases p with
  | true =>
    show Al (begF (x ++ z)).1 (begF (x ++ y ++ z)).1
    rw [bP_more hx fun l hl => (h l).mpr hl, List.append_assoc, bP_more hx fun l hl => (List.mem_append.mp hl).elim (hy l) (h l).mpr]
    exact Al.refl _
  | false =>
    show Al (endF (x ++ z)).2 (endF (x ++ y ++ z)).2
    rw [eS_more hz fun l hl => (h l).mp hl, eS_more hz fun l hl => (List.mem_append.mp hl).elim (h l).mp fun k => (h l).mp (hy l k)]
    exact Al.refl _
def mrgK (l r : Wd) : Nat → Wd
  | 0 => l ++ r
  | k + 1 => if l.drop (l.length - (k + 1)) = r.take (k + 1) then l ++ r.drop (k + 1) else mrgK l r k
def mergeW (l r : Wd) : Wd := mrgK l r (min l.length r.length)
theorem mrgK_ex (l r : Wd) : ∀ n, ∃ k, k ≤ n ∧ l.drop (l.length - k) = r.take k ∧ mrgK l r n = l ++ r.drop k
  | 0 => ⟨0, Nat.le_refl _, by simp, by simp [mrgK]⟩
  | n + 1 => by
    by_cases h : l.drop (l.length - (n + 1)) = r.take (n + 1)
    · exact ⟨n + 1, Nat.le_refl _, h, by simp [mrgK, h]⟩
    · obtain ⟨k, h1, h2, h3⟩ := mrgK_ex l r n
      exact ⟨k, by omega, h2, by simp [mrgK, h, h3]⟩
theorem mergeW_ex (l r : Wd) : ∃ q x, mergeW l r = l ++ x ∧ mergeW l r = q ++ r ∧ (∀ z, z ∈ x → z ∈ r) ∧ ∀ z, z ∈ q → z ∈ l := by
  obtain ⟨k, h1, h2, h3⟩ := mrgK_ex l r (min l.length r.length)
  refine ⟨l.take (l.length - k), r.drop k, h3, ?_, fun z hz => List.mem_of_mem_drop hz, fun z hz => List.mem_of_mem_take hz⟩
  unfold mergeW
  rw [h3]
  conv => lhs; rw [← List.take_append_drop (l.length - k) l, h2, List.append_assoc, List.take_append_drop]
theorem mergeW_mem {l r : Wd} {x : Lr} : x ∈ mergeW l r ↔ x ∈ l ∨ x ∈ r := by
  obtain ⟨q, z, e1, e2, h1, h2⟩ := mergeW_ex l r
  constructor
  · intro h
    rw [e1, List.mem_append] at h
    exact h.imp id (h1 x)
  · rintro (h | h)
    · rw [e1]; simp [h]
    · rw [e2]; simp [h]
def bandN : Nat → Wd → Wd
  | 0, w => []
  | n + 1, w => if (dedT w).length = 1 then [w.headD []] else mergeW (bandN n (begF w).1 ++ [(begF w).2]) ((endF w).1 :: bandN n (endF w).2)
theorem cnt_same {u v : Wd} (h : SameC u v) : (dedT u).length = (dedT v).length :=
  ((List.perm_ext_iff_of_nodup (dedT_nodup u) (dedT_nodup v)).mpr fun x => by simp [h x]).length_eq
theorem one_letter {w : Wd} (h : (dedT w).length = 1) : w ≠ [] ∧ ∀ x, x ∈ w → x = w.headD [] := by
  have hw : w ≠ [] := fun e => by rw [e] at h; cases h
  refine ⟨hw, fun x hx => ?_⟩
  obtain ⟨z, hz⟩ := List.length_eq_one_iff.mp h
  have m : ∀ y, y ∈ w → y = z := fun y hy => by
    have : y ∈ dedT w := by simpa using hy
    rw [hz] at this
    simpa using this
  rw [m x hx]
  cases w with
  | nil => exact absurd rfl hw
  | cons y w => exact (m y List.mem_cons_self).symm
theorem cnt_pos {w : Wd} (h : w ≠ []) : 0 < (dedT w).length := by
  cases w with
  | nil => exact absurd rfl h
  | cons x w =>
    have : x ∈ dedT (x :: w) := by simp
    exact List.length_pos_of_mem this
theorem parts {w : Wd} (hw : w ≠ []) (h1 : (dedT w).length ≠ 1) : bP w ≠ [] ∧ eS w ≠ [] ∧ (dedT (bP w)).length < (dedT w).length ∧ (dedT (eS w)).length < (dedT w).length := by
  have b := beg_ex hw
  have e := end_ex hw
  refine ⟨fun z => ?_, fun z => ?_, cnt_lt b.2.1 b.mem.1 b.mem.2, cnt_lt e.2.1 e.mem.1 e.mem.2⟩
  · rw [show (begF w).1 = [] from z] at b
    apply h1
    have s : SameC w [(begF w).2] := fun x => ⟨fun hx => by simpa using b.2.2 x hx, fun hx => by rw [List.mem_singleton.mp hx]; exact b.mem.1⟩
    rw [cnt_same s]; rfl
  · rw [show (endF w).2 = [] from z] at e
    apply h1
    have s : SameC w [(endF w).1] := fun x => ⟨fun hx => by simpa using e.2.2 x hx, fun hx => by rw [List.mem_singleton.mp hx]; exact e.mem.1⟩
    rw [cnt_same s]; rfl
/-- a word is alike to its band form -/
theorem al_bandN : ∀ (n : Nat) {w : Wd}, w ≠ [] → (dedT w).length ≤ n → Al w (bandN n w)
  | 0, w, hw, h => absurd (cnt_pos hw) (by omega)
  | n + 1, w, hw, h => by
    unfold bandN
    split
    · rename_i h1
      have o := one_letter h1
      have s : SameC w [w.headD []] := fun x => ⟨fun hx => by simpa using o.2 x hx, fun hx => by
        rw [List.mem_singleton.mp hx]
        cases w with
        | nil => exact absurd rfl hw
        | cons x w => exact List.mem_cons_self⟩
      have bn : ∀ {v : Wd}, v ≠ [] → (dedT v).length = 1 → ∀ p, mv1 p v = [] := fun {v} hv hc p => by
        have small : ∀ {x : Wd}, (dedT x).length < (dedT v).length → x = [] := fun {x} hx => by
          cases x with
          | nil => rfl
          | cons a x => have := cnt_pos (w := a :: x) (by simp); omega
        cases p
        · exact small (cnt_lt (end_ex hv).2.1 (end_ex hv).mem.1 (end_ex hv).mem.2)
        · exact small (cnt_lt (beg_ex hv).2.1 (beg_ex hv).mem.1 (beg_ex hv).mem.2)
      refine Al.of s fun p => ?_
      rw [bn hw h1 p, bn (v := [w.headD []]) (by simp) rfl p]
      exact Al.refl _
    · rename_i h1
      obtain ⟨np, ns, lp, ls⟩ := parts hw h1
      have ap := al_bandN n np (by omega)
      have as := al_bandN n ns (by omega)
      have b := beg_ex hw
      have e := end_ex hw
      obtain ⟨q, x, e1, e2, k1, k2⟩ := mergeW_ex (bandN n (begF w).1 ++ [(begF w).2]) ((endF w).1 :: bandN n (endF w).2)
      have cl : ∀ z, z ∈ bandN n (begF w).1 ++ [(begF w).2] ↔ z ∈ w := fun z => by
        rw [List.mem_append, List.mem_singleton, ← ap.c z]
        exact ⟨fun k => k.elim (b.mem.2 z) fun k => k ▸ b.mem.1, b.2.2 z⟩
      have cr : ∀ z, z ∈ (endF w).1 :: bandN n (endF w).2 ↔ z ∈ w := fun z => by
        rw [List.mem_cons, ← as.c z]
        exact ⟨fun k => k.elim (fun k => k ▸ e.mem.1) (e.mem.2 z), fun k => (e.2.2 z k).symm⟩
      have B : Beg (mergeW (bandN n (begF w).1 ++ [(begF w).2]) ((endF w).1 :: bandN n (endF w).2)) (bandN n (begF w).1) (begF w).2 := by
        refine ⟨⟨x, by rw [e1]; simp⟩, fun k => b.2.1 ((ap.c _).mpr k), fun z hz => ?_⟩
        rw [mergeW_mem] at hz
        have hz : z ∈ w := hz.elim (cl z).mp (cr z).mp
        have := (cl z).mpr hz
        simpa using this
      have E : End (mergeW (bandN n (begF w).1 ++ [(begF w).2]) ((endF w).1 :: bandN n (endF w).2)) (endF w).1 (bandN n (endF w).2) := by
        refine ⟨⟨q, e2⟩, fun k => e.2.1 ((as.c _).mpr k), fun z hz => ?_⟩
        rw [mergeW_mem] at hz
        have hz : z ∈ w := hz.elim (cl z).mp (cr z).mp
        exact (List.mem_cons.mp ((cr z).mpr hz)).symm
      refine Al.of (fun z => ?_) fun p => ?_
      · rw [mergeW_mem, cl, cr]; simp
      · cases p
        · show Al (endF w).2 (endF _).2
          rw [endF_eq E]
          exact as
        · show Al (begF w).1 (begF _).1
          rw [begF_eq B]
          exact ap
theorem mrgK_len (l r : Wd) : ∀ n, (mrgK l r n).length ≤ l.length + r.length
  | 0 => by simp [mrgK]
  | n + 1 => by
    unfold mrgK
    split
    · rw [List.length_append, List.length_drop]; omega
    · exact mrgK_len l r n
theorem bandN_len : ∀ (n : Nat) (w : Wd), (bandN n w).length + 2 ≤ 2 ^ (n + 1)
  | 0, w => by simp [bandN]
  | n + 1, w => by
    have h1 := bandN_len n (begF w).1
    have h2 := bandN_len n (endF w).2
    have h3 : 2 ^ (n + 1 + 1) = 2 * 2 ^ (n + 1) := by rw [Nat.pow_succ]; omega
    unfold bandN
    split
    · have h4 : 2 ^ (n + 1) = 2 * 2 ^ n := by rw [Nat.pow_succ]; omega
      have h5 : 0 < 2 ^ n := Nat.two_pow_pos n
      rw [List.length_singleton]
      omega
    · have h4 := mrgK_len (bandN n (begF w).1 ++ [(begF w).2]) ((endF w).1 :: bandN n (endF w).2) (min (bandN n (begF w).1 ++ [(begF w).2]).length ((endF w).1 :: bandN n (endF w).2).length)
      unfold mergeW
      simp only [List.length_append, List.length_cons, List.length_nil] at h4
      simp only [List.length_append, List.length_cons, List.length_nil] at *
      omega
/-- the band form -/
def bandW (w : Wd) : Wd := bandN (dedT w).length w
theorem al_band {w : Wd} (hw : w ≠ []) : Al w (bandW w) := al_bandN _ hw (Nat.le_refl _)
end DL
namespace DL
open PySem PySem.Spec L2
open PyProof.Rows hiding St
section
variable {sd : SD} {M M1 : MS} {d e v : D} {ds es : List D} {m mo mi : ME} {neg : Bool}
def dputK1 (mo mi : ME) (sd : SD) : D → MS → SRes := fun v M1 => SRes.ofE (mo sd M1) sd fun o M2 => SRes.ofE (mi sd M2) sd fun i M3 => match dputM M3 o i v with
  | some M4 => .nx sd M4
  | none => .stuck
def dputK2 (mi : ME) (sd : SD) (v : D) : D → MS → SRes := fun o M2 => SRes.ofE (mi sd M2) sd fun i M3 => match dputM M3 o i v with
  | some M4 => .nx sd M4
  | none => .stuck
def dputK3 (sd : SD) (v o : D) : D → MS → SRes := fun i M3 => match dputM M3 o i v with
  | some M4 => .nx sd M4
  | none => .stuck
@[simp] theorem dputS_ap : dputS mo mi m sd M = SRes.ofE (m sd M) sd (dputK1 mo mi sd) := rfl
@[simp] theorem dputK1_ap : dputK1 mo mi sd v M = SRes.ofE (mo sd M) sd (dputK2 mi sd v) := rfl
@[simp] theorem dputK2_ap : dputK2 mi sd v d M = SRes.ofE (mi sd M) sd (dputK3 sd v d) := rfl
theorem dputK3_cell {n : Nat} {ks ks' ds' : List D} (hm : M[n]? = some (.dic ks ds)) (h : dputD ks ds e v = some (ks', ds')) : dputK3 sd v (.cell n) e M = .nx sd (M.set n (.dic ks' ds')) := by
  unfold dputK3 dputM
  simp [hm, h]
@[simp] theorem dicE_ap : dicE sd M = .ok (.cell M.length) (M ++ [.dic [] []]) := rfl
theorem lenX_dic {n : Nat} {ks : List D} (hm : M[n]? = some (.dic ks ds)) : lenX [.cell n] M = .ok (.int ks.length) M := by
  unfold lenX
  simp [hm]
/-- d[x] = v for a text x, where all keys are texts -/
theorem dputD_str {xs : List (List Nat)} {x : List Nat} {k : Nat} (hk : k = xs.length) (hl : xs.length < 1000000) : dputD (xs.map D.str) (List.replicate k (.bl true)) (.str x) (.bl true) = some ((insT xs x).map D.str, List.replicate (insT xs x).length (.bl true)) := by
  subst hk
  have any : (xs.map D.str).any (isKey (.inr (tx x))) = decide (x ∈ xs) := by
    rw [List.any_map, Bool.eq_iff_iff, List.any_eq_true, decide_eq_true_eq]
    constructor
    · rintro ⟨y, hy, h⟩
      have h : (some (Sum.inr (tx y) : Key)) = some (.inr (tx x)) := of_decide_eq_true h
      injection h with h
      injection h with h
      rw [← tx_inj.mp h]
      exact hy
    · intro h
      exact ⟨x, h, decide_eq_true rfl⟩
  have zw : ∀ ys : List (List Nat), List.zipWith (fun d v => if isKey (.inr (tx x)) d = true then D.bl true else v) (ys.map D.str) (List.replicate ys.length (.bl true)) = List.replicate ys.length (.bl true) := by
    intro ys
    induction ys with
    | nil => rfl
    | cons y ys ih =>
      rw [List.map_cons, List.length_cons, List.replicate_succ, List.zipWith_cons_cons, ih]
      simp
  unfold dputD
  show (if (xs.map D.str).length < 1000000 then _ else none) = _
  rw [if_pos (by simpa using hl), any]
  unfold insT
  by_cases h : x ∈ xs
  · rw [if_pos (by simpa using h), if_pos h, zw]
  · rw [if_neg (by simpa using h), if_neg h]
    simp [List.replicate_succ']
def rv1K : D → MS → Res ItD := fun d M1 => match d with
  | .int j => if -1000000000 ≤ j ∧ j ≤ 1000000000 then .ok (intsI (revN j.toNat)) M1 else .stuck
  | _ => .stuck
@[simp] theorem rev1I_ap : rev1I m sd M = (m sd M).bind rv1K := rfl
theorem rv1K_ap {j : Nat} (h : j ≤ 1000000000) : rv1K (.int (j : Int)) M = .ok (intsI ((List.range j).reverse.map fun (k : Nat) => (k : Int))) M := by
  rw [← revN_eq]
  unfold rv1K
  dsimp only
  rw [if_pos (by omega)]
  simp
def enK : D → MS → Res ItD := fun d M1 => match seqOf M1 d with
  | some ds => .ok ⟨enumD 0 ds, lchk M1 d⟩ M1
  | none => .stuck
@[simp] theorem enumX_ap : enumX m sd M = (m sd M).bind enK := rfl
theorem enK_lst : enK (.lst ds) M = .ok ⟨enumD 0 ds, lchk M (.lst ds)⟩ M := rfl
def unpK (g : MG) (sd : SD) : D → MS → SRes := fun d M1 => match g d sd with
  | some sd1 => .nx sd1 M1
  | none => .stuck
@[simp] theorem unpS_ap {g : MG} : unpS g m sd M = SRes.ofE (m sd M) sd (unpK g sd) := rfl
theorem unpK_ap {g : MG} {sd1 : SD} (h : g d sd = some sd1) : unpK g sd d M = .nx sd1 M := by
  unfold unpK
  rw [h]
@[simp] theorem listF_lst : listF [.lst ds] M = .ok (.lst ds) M := rfl
@[simp] theorem listF_tup : listF [.tup ds] M = .ok (.lst ds) M := rfl
abbrev wD (w : Wd) : D := .lst (w.map D.str)
theorem sts_wD {w : Wd} : (lst1 [wD w] M).bind stsOf = some w := by simp [lst1, isTup]
theorem setR_w {w : Wd} (h : m sd M = .ok (wD w) M1) (hl : w.length < 4000) : setR m sd M = .ok (dedT w) M1 := setR_run h rfl rfl hl
abbrev okW (w : Wd) : Prop := ∀ x, x ∈ w → okC x
theorem eqvDs_strs : ∀ {xs ys : Wd}, eqvDs (xs.map D.str) (ys.map D.str) = decide (xs = ys)
  | [], [] => by simp [eqvDs_nil]
  | [], y :: ys => by simp [eqvDs_nc]
  | x :: xs, [] => by simp [eqvDs_cn]
  | x :: xs, y :: ys => by
    rw [List.map_cons, List.map_cons, eqvDs_cons, eqvDs_strs, eqvD_str, Bool.eq_iff_iff]
    simp
theorem plW {w : Wd} {n : Nat} (h : okW w) : plN (n + 1) (wD w) := by
  rw [plN_lst]
  exact plNs_map fun x hx => by rw [plN_str]; exact h x hx
theorem eqD_w {u w : Wd} (hu : okW u) (hw : okW w) : eqD neg (wD u) (wD w) M = .ok (.bl (decide (u = w) != neg)) M := by
  rw [eqD_pl (plW hu) (plW hw), eqvD_lst, eqvDs_strs]
theorem addD_w {u w : Wd} (h : u.length + w.length ≤ 1000000) : addD (wD u) (wD w) M = .ok (wD (u ++ w)) M := by
  rw [addD_lst (by simpa using h), ← List.map_append]
theorem sl_to {w : Wd} {k : Nat} : sliceD (wD w) none (some (k : Int)) M = .ok (wD (w.take k)) M := by
  rw [sliceD_lst, cutL_to, ← List.map_take]
theorem sl_from {w : Wd} {k : Nat} : sliceD (wD w) (some (k : Int)) none M = .ok (wD (w.drop k)) M := by
  rw [sliceD_lst, cutL_from, ← List.map_drop]
theorem rev_w {w : Wd} {sd : SD} {M1 : MS} (h : m sd M = .ok (wD w) M1) : revAE m sd M = .ok (wD w.reverse) M1 := by
  rw [revE_ap, h, Res.bind_ok]
  simp [isTup]
/-- a def whose new places are not in what it gives -/
theorem clF_ok {F : FM} {t : MS} (h : F ds M = .ok d (M ++ t)) (hd : clo M.length (M ++ t) d = some e) : clF F ds M = .ok e M := by
  unfold clF
  rw [h]
  unfold closeR
  dsimp only
  rw [if_pos (.inl (by simp)), hd]
  simp
theorem clos_strs {n : Nat} : ∀ (xs : Wd), clos n M (xs.map D.str) = some (xs.map D.str)
  | [] => rfl
  | x :: xs => by
    rw [List.map_cons]
    unfold clos
    rw [clos_strs xs]
    rfl
theorem clo_w {n : Nat} {w : Wd} : clo n M (wD w) = some (wD w) := by
  show (clos n M (w.map D.str)).map D.lst = _
  rw [clos_strs]
  rfl
theorem ded_le {u w : Wd} (h : ∀ x, x ∈ u → x ∈ w) : (dedT u).length ≤ (dedT w).length :=
  List.Nodup.length_le_of_subset (dedT_nodup u) fun x hx => by simpa using h x (by simpa using hx)
/-- what the loop over the word finds first -/
theorem beg_at {w : Wd} {i : Nat} (hi : i < w.length) (h1 : (dedT (w.take i)).length < (dedT w).length) (h2 : (dedT (w.take (i + 1))).length = (dedT w).length) : begF w = (w.take i, w[i]) := by
  have e : w = w.take i ++ w[i] :: w.drop (i + 1) := by rw [← List.drop_eq_getElem_cons hi, List.take_append_drop]
  have e1 : w.take (i + 1) = w.take i ++ [w[i]] := (List.take_append_getElem hi).symm
  refine begF_eq ⟨⟨_, e⟩, fun hm => ?_, fun x hx => ?_⟩
  · have : SameC (w.take (i + 1)) (w.take i) := fun x => by
      rw [e1, List.mem_append, List.mem_singleton]
      exact ⟨fun k => k.elim id fun k => k ▸ hm, .inl⟩
    rw [cnt_same this] at h2
    omega
  · have hs : sameT (dedT (w.take (i + 1))) (dedT w) = true := by
      unfold sameT
      rw [decide_eq_true h2, Bool.true_and, List.all_eq_true]
      intro y hy
      simp only [mem_dedT] at hy
      simpa using List.mem_of_mem_take hy
    have := (sameT_ded.mp hs x).mpr hx
    rw [e1, List.mem_append, List.mem_singleton] at this
    exact this
end
end DL
namespace DL
open PySem PySem.Spec L2
open PyProof.Rows hiding St
open Classical in
noncomputable def lc2Go (chk : MS → Prop) (g : MG) (tt : MB) (mi1 : MI) (g1 : MG) (tt1 : MB) (te : ME) (vs1 : List Nat) (w : SD) : List D → List D → MS → Res (List D)
  | [], acc, M => if chk M then .ok acc M else .stuck
  | d :: r, acc, M => if chk M then (match g d w with
    | none => .stuck
    | some sd1 => (tt sd1 M).ne.bind fun b M1 => if b = true then (mi1 sd1 M1).ne.bind fun it1 M2 => (lcGo it1.chk g1 tt1 te (wipeD sd1 vs1) it1.ds acc M2).ne.bind fun acc' M3 => lc2Go chk g tt mi1 g1 tt1 te vs1 w r acc' M3 else lc2Go chk g tt mi1 g1 tt1 te vs1 w r acc M1) else .stuck
noncomputable def lc2E (mi : MI) (g : MG) (tt : MB) (mi1 : MI) (g1 : MG) (tt1 : MB) (te : ME) (vs vs1 : List Nat) : ME := fun sd M => (mi sd M).bind fun it M1 => (lc2Go it.chk g tt mi1 g1 tt1 te vs1 (wipeD sd vs) it.ds [] M1).ne.bind fun ds M2 => .ok (.lst ds) M2
theorem PresW.trans {r0 r1 r2 : Pl} {H0 H1 H2 : Hp} (p : PresW r0 H0 r1 H1) (q : PresW r1 H1 r2 H2) : PresW r0 H0 r2 H2 := by
  refine ⟨?_, fun a o h hn => ?_, fun a h => ?_⟩
  · obtain ⟨t, e⟩ := p.pre
    obtain ⟨u, e'⟩ := q.pre
    exact ⟨t ++ u, by rw [e', e, List.append_assoc]⟩
  · have h1 := p.keep a o h hn
    exact q.keep a o h1 (p.out hn (by rw [h]; simp))
  · rcases q.new a h with z | z
    · exact p.new a z
    · by_cases hm : a ∈ r0.all
      · exact .inl hm
      · refine .inr ?_
        cases e : H0 a with
        | none => rfl
        | some o => rw [p.keep a o e hm] at z; cases z
theorem PresW.refl (ro : Pl) (H : Hp) : PresW ro H ro H := ⟨⟨[], by simp⟩, fun _ _ h _ => h, fun _ h => .inl h⟩
theorem PresW.put {ro : Pl} {H : Hp} {p : Addr} {o : HO} (h : p ∈ ro.hid) : PresW ro H ro (upd H p o) := ⟨⟨[], by simp⟩, fun a u e n => by
  rw [upd_ne (fun z : a = p => n (List.mem_append_right _ (by rw [z]; exact h)))]; exact e, fun _ h => .inl h⟩
section
variable {sd : SD} {M : MS} {mi mi1 : MI} {g g1 : MG} {tt tt1 : MB} {te : ME} {vs vs1 : List Nat}
noncomputable def lc2K (g : MG) (tt : MB) (mi1 : MI) (g1 : MG) (tt1 : MB) (te : ME) (vs vs1 : List Nat) (sd : SD) : ItD → MS → Res D := fun it M1 => (lc2Go it.chk g tt mi1 g1 tt1 te vs1 (wipeD sd vs) it.ds [] M1).ne.bind lstK'
@[simp] theorem lc2E_ap : lc2E mi g tt mi1 g1 tt1 te vs vs1 sd M = (mi sd M).bind (lc2K g tt mi1 g1 tt1 te vs vs1 sd) := rfl
end
end DL
namespace DL
open PySem PySem.Spec L2
open PyProof.Rows hiding St
section
variable {X : Cx} {W : WX}
/-- downward by ones -/
def downN (i j : Int) : List Int := (List.range (i - j).toNat).map fun (k : Nat) => i + k * (-1)
def range3N (a : MA) : MI := fun sd M => (a sd M).bind fun ds M1 => match ds with
  | [.int i, .int j, .int c] => if -1000000000 ≤ i ∧ i ≤ 1000000000 ∧ -1000000000 ≤ j ∧ j ≤ 1000000000 ∧ c = -1 then .ok (intsI (downN i j)) M1 else .stuck
  | _ => .stuck
end
section
variable {sd : SD} {M : MS} {ms : MA}
def r3N : List D → MS → Res ItD := fun ds M1 => match ds with
  | [.int i, .int j, .int c] => if -1000000000 ≤ i ∧ i ≤ 1000000000 ∧ -1000000000 ≤ j ∧ j ≤ 1000000000 ∧ c = -1 then .ok (intsI (downN i j)) M1 else .stuck
  | _ => .stuck
@[simp] theorem range3N_ap : range3N ms sd M = (ms sd M).bind r3N := rfl
end
end DL
namespace DL
open PySem PySem.Spec L2
open PyProof.Rows hiding St
end DL
namespace DL
open PySem PySem.Spec L2
open PyProof.Rows hiding St
end DL
namespace DL
open PySem PySem.Spec L2
open PyProof.Rows hiding St
end DL
namespace DL
open PySem PySem.Spec L2
open PyProof.Rows hiding St
end DL
namespace DL
open PySem PySem.Spec L2
open PyProof.Rows hiding St
end DL
namespace DL
open PySem PySem.Spec L2
open PyProof.Rows hiding St
section
variable {P : Program} {w : World} {K : PySem.W.Frag} {mg : Str → Option Value} {base : Heap}
abbrev FG := List D → List D → MS → Res D
/-- what a call of the def at f with keywords ks comes to -/
def DOkG (P : Program) (w : World) (K : PySem.W.Frag) (mg : Str → Option Value) (base : Heap) (k : Nat) (f : Addr) (ks : List Str) (G : FG) : Prop :=
  ∀ (A : Around) (outer : List Env) (s : Shared) (H : Hp) (us ws : List Value) (vs zs : List V) (Q : VK) (E : XK) (ro : Pl) (ds es : List D) (M : MS), Room k A → Env0 P w K mg base A outer s H → Vals vs us → Vals zs ws →
    RelS K mg ro M H → Reps K mg ro H ds vs → Reps K mg ro H es zs → es.length = ks.length → PostD K mg E ro H Q (G ds es M) → codeAny (model P w) A (.call (.ref f) ⟨us, ks.zip ws⟩) (CR (L2.CX P w) outer P w H s Q E) s
theorem DOkG.mono {j k : Nat} {f : Addr} {ks : List Str} {G : FG} (h : DOkG P w K mg base j f ks G) (hjk : j ≤ k) : DOkG P w K mg base k f ks G :=
  fun A outer s H us ws vs zs Q E ro ds es M hr => h A outer s H us ws vs zs Q E ro ds es M (hr.mono hjk)
end
end DL
namespace DL
open PySem PySem.Spec L2
open PyProof.Rows hiding St
def isBF (neg : Bool) (d e : D) (M : MS) : Res D := match d, e with
  | .bl a, .bl b => .ok (.bl ((a == b) != neg)) M
  | _, _ => .stuck
@[simp] theorem isBF_ap {neg a b : Bool} {M : MS} : isBF neg (.bl a) (.bl b) M = .ok (.bl ((a == b) != neg)) M := rfl
end DL
namespace DL
open PySem PySem.Spec L2
open PyProof.Rows hiding St
end DL
namespace DL
open PySem PySem.Spec L2
open PyProof.Rows hiding St
def revAC (mo : ME) : ME := fun sd M => (mo sd M).bind fun d M1 => match d with
  | .str _ => .stuck
  | d => if isTup d = true then .stuck else match seqOf M1 d with
    | some ds => .ok (.cell M1.length) (M1 ++ [.lst ds.reverse])
    | none => .stuck
@[simp] theorem revC_ap {me : ME} {sd : SD} {M : MS} : revAC me sd M = (me sd M).bind fun d M1 => match d with
  | .str _ => .stuck
  | d => if isTup d = true then .stuck else match seqOf M1 d with
    | some ds => .ok (.cell M1.length) (M1 ++ [.lst ds.reverse])
    | none => .stuck := rfl
end DL
namespace DL
open PySem PySem.Spec L2
open PyProof.Rows hiding St
structure DET (X : Cx) (W : WX) (e : Expr) (m : ME) : Prop where
  pe : PET X e (liftE X.K X.mg W m)
structure DAT (X : Cx) (W : WX) (es : List Expr) (m : MA) : Prop where
  pa : PAT X es (liftA X.K X.mg W m)
structure DST (X : Cx) (W : WX) (s : Stmt) (m : MST) : Prop where
  ps : PST X s (liftS X.K X.mg W m)
structure DSsT (X : Cx) (W : WX) (s : List Stmt) (m : MST) : Prop where
  ps : PSsT X s (liftS X.K X.mg W m)
section
variable {X : Cx} {W : WX} {e o tg iter : Expr} {es : List Expr} {m mo ma : ME} {ms : MA} {mi : MI} {s : Stmt} {rest body : List Stmt} {sa sb : MST} {pos : Pos} {g : MG} {ix : List Nat}
theorem DSs.t (h : DSs X W rest sa) : DSsT X W rest sa := ⟨fun pins s σ H D _ I q => h.ps.run pins s σ H D I q⟩
theorem da_nilT : DAT X W [] nilA := ⟨fun pos pins s σ H Q _ I q => da_nil.pa.run pos pins s σ H Q I q⟩
theorem da_consT (ha : DET X W e ma) (hr : DAT X W es ms) (hs : starEach (e :: es) X.env = (false, eval e X.env) :: starEach es X.env := by rfl) : DAT X W (e :: es) (consA ma ms) := by
  refine ⟨fun pos pins s st H Q h0 I q => pat_cons ha.pe hr.pa hs pos pins s st H Q h0 I ?_⟩
  obtain ⟨ro, sd, M, R, S, P⟩ := q
  refine ⟨ro, sd, M, R, S, (Post.bind P).imp fun x H1 ⟨ro1, M1, d, R1, P1, r1, q1⟩ => ?_⟩
  refine ⟨ro1, sd, M1, R1, S.mono P1, (Post.bind q1).imp fun xs H2 ⟨ro2, M2, ds, R2, P2, r2, q2⟩ => ?_⟩
  exact q2 ro2 H2 _ R2 (Pres.refl _ _) ⟨x, xs, rfl, Rep.mono P2 d x r1, r2⟩
/-- o.replace(a, b) of two written texts -/
def repT (x : List Nat) (a b : String) : List Nat := (Txt.replace (tx x) (Str.ofString a) (Str.ofString b)).cps.toList
def repE (a b : String) (mo : ME) : ME := fun sd M => (mo sd M).bind fun d M1 => match d with
  | .str x => if x.length + (x.length + 1) * (Str.ofString b).length ≤ 16777216 then .ok (.str (repT x a b)) M1 else .stuck
  | _ => .stuck
theorem de_repT {a b : String} {j k : Nat} {c0 c1 apos : Pos} (ho : DE X W o mo) (hyz : (Str.ofString a == Str.ofString b) = false := by decide)
    (hst : starEach [.Constant (.str (Str.ofString a)) j c0, .Constant (.str (Str.ofString b)) k c1] X.env = [(false, eval (.Constant (.str (Str.ofString a)) j c0) X.env), (false, eval (.Constant (.str (Str.ofString b)) k c1) X.env)] := by rfl)
    (hbase : attributeBase o "replace" X.env (eval o X.env) = eval o X.env := by rfl) (hline : (apos.endLine == pos.line) = true := by rfl) :
    DET X W (.Call (.Attribute o "replace" apos) [.Constant (.str (Str.ofString a)) j c0, .Constant (.str (Str.ofString b)) k c1] [] pos) (repE a b mo) := by
  refine ⟨fun pins s st H Q h0 I q => CwR.pet_replC ho.pe hyz hst hbase hline pins s st H Q h0 I ?_⟩
  obtain ⟨ro, sd, M, R, S, P⟩ := q
  refine ⟨ro, sd, M, R, S, (Post.bind P).imp fun x H1 ⟨ro1, M1, d, R1, P1, r1, q1⟩ => ?_⟩
  cases d with
  | str z =>
    have q1 : PostD X.K X.mg (fun c d H' => W c d st H') ro1 H1 Q (if z.length + (z.length + 1) * (Str.ofString b).length ≤ 16777216 then .ok (.str (repT z a b)) M1 else .stuck) := q1
    cases (show x = V.str (tx z) from r1)
    split at q1
    · rename_i hz
      refine ⟨tx z, rfl, by simpa [Str.length] using hz, ?_⟩
      have e : V.str (Txt.replace (tx z) (Str.ofString a) (Str.ofString b)) = V.str (tx (repT z a b)) := by
        unfold repT
        simp [tx]
      rw [e]
      exact PostD.pure (d := .str (repT z a b)) R1 rfl q1
    · exact q1.elim
  | _ => exact q1.elim
theorem dss_consT (h : DST X W s sa) (hr : DSsT X W rest sb) : DSsT X W (s :: rest) (seqS sa sb) := by
  refine ⟨fun pins s st H D0 h0 I q => psst_cons h.ps hr.ps pins s st H D0 h0 I ?_⟩
  obtain ⟨ro, sd, M, R, S, P⟩ := q
  exact ⟨ro, sd, M, R, S, (PostS.seq P).imp (fun st' H' ⟨ro1, sd1, M1, R1, S1, P1, q1⟩ => ⟨ro1, sd1, M1, R1, S1, q1⟩) (fun _ _ h => h) (fun _ _ h => h) (fun _ _ h => h)⟩
end
theorem funT_ok {P : Program} {w : World} {K : PySem.W.Frag} {mg : Str → Option Value} {base : Heap} {x qual : Str} {st : Stmt} {dvs : List V} {kws : List (Str × V)} {f : Addr} {fd : FuncData} {N ps : List Str} {k : Nat} {body : MST} (Fn : FnP K x qual st dvs kws f fd) (S : FnScope N ps (defScope st)) (hnc : ∀ y ∈ (defScope st).names, y.2 ≠ .cell) (hps : 1 ≤ ps.length)
    (hbody : ∀ (cdv : Value) (A : Around) (outer : List Env) (s : Shared) (H : Hp) (E : XK), Room k (A.deeper (envOfC qual (defScope st) s.heap.objs.size f cdv)) →
      Ctx (cxOf (L2.CX P w) P w K mg base N qual (defScope st) f cdv A outer s H E) (fun cls d _ H' => E cls d H') →
      DSsT (cxOf (L2.CX P w) P w K mg base N qual (defScope st) f cdv A outer s H E) (fun cls d _ H' => E cls d H') (defBody st) body) : DOk P w K mg base (k + 1) f fd ps (runD N.length body) := by
  obtain ⟨⟨oc, od, dV, kV, doc, pm, an, cdv, ct, osl, rfl, lk, cd, _, _⟩, kp⟩ := Fn
  refine fn_ofT lk cd S hnc hps (fun vs H Q E h => h.1) fun A outer s H vs Q E hr h => ?_
  obtain ⟨hl, ro, ds, M, R, rs, Po⟩ := h
  have hc : Ctx (cxOf (L2.CX P w) P w K mg base N qual (defScope st) f cdv A outer s H E) (fun cls d _ H' => E cls d H') := ⟨takes_of rfl rfl rfl rfl, passes_of rfl, rfl⟩
  refine ⟨_, (hbody cdv A outer s H E hr hc).ps, ro, startD N.length ds, M, R, repSt_start rs, ?_⟩
  unfold runD at Po
  cases e : body (startD N.length ds) M with
  | nx sd M' => rw [e] at Po; exact fun ro' H' st rs q r => Po ro' H' .non rs q rfl
  | ret d M' => rw [e] at Po; exact Po
  | exc C ns ds' sd M' => rw [e] at Po; exact fun ro' H' st cls dd rs q _ r => Po ro' H' cls dd rs q r
  | brk sd M' => rw [e] at Po; exact Po.elim
  | ct sd M' => rw [e] at Po; exact Po.elim
  | stuck => rw [e] at Po; exact Po
end DL
namespace DL
open PySem PySem.Spec L2
open PyProof.Rows hiding St
end DL
namespace DL
open PySem PySem.Spec L2
open PyProof.Rows hiding St
end DL
namespace DL
open PySem PySem.Spec L2
open PyProof.Rows hiding St
end DL
namespace DL
open PySem PySem.Spec L2
open PyProof.Rows hiding St
end DL
namespace DL
open PySem PySem.Spec L2
open PyProof.Rows hiding St
end DL
namespace DL
open PySem PySem.Spec L2
open PyProof.Rows hiding St
end DL
namespace DL
open PySem PySem.Spec L2
open PyProof.Rows hiding St
end DL
namespace DL
open PySem PySem.Spec L2
open PyProof.Rows hiding St
end DL
namespace DL
open PySem PySem.Spec L2
open PyProof.Rows hiding St
end DL
namespace DL
open PySem PySem.Spec L2
open PyProof.Rows hiding St
end DL
namespace DL
open PySem PySem.Spec L2
open PyProof.Rows hiding St
end DL
namespace DL
open PySem PySem.Spec L2
open PyProof.Rows hiding St
end DL
namespace DL
open PySem PySem.Spec L2
open PyProof.Rows hiding St
end DL
namespace L2
open PySem PySem.Spec PyProof.Rows
end L2
namespace DL
open PySem PySem.Spec L2
open PyProof.Rows hiding St
end DL
namespace DL
open PySem PySem.Spec L2
open PyProof.Rows hiding St
end DL
namespace DL
open PySem PySem.Spec L2
open PyProof.Rows hiding St
end DL
namespace DL
open PySem PySem.Spec L2
open PyProof.Rows hiding St
/-- a landed exception before a frame's clauses -/
def Landed (X : Cx) (pins : List (Addr × Obj)) (st : St) (H : Hp) (a : Addr) (cls : Value) (d : Option Addr) (s : Shared) : Prop :=
  ∃ (B : Heap) (sI : Shared), Inv X pins st H sI ∧ (∀ b o, sI.heap.get? b = some o → b ∉ frs X.stack → B.get? b = some o) ∧ sI.heap.UpToSlots s.heap ∧
    HandSPX.FlyingZ B (X.env :: X.outer) a (Zc cls d) s.heap ∧ s.os = sI.os ∧ AllBare s.gens ∧ H a = none
section
variable {X : Cx} {pins : List (Addr × Obj)} {st : St} {H : Hp} {a : Addr} {cls : Value} {d : Option Addr} {s : Shared}
theorem Landed.flying (L : Landed X pins st H a cls d s) : ∃ oe vs, s.heap.get? a = some oe ∧ Zc cls d oe ∧ oe.data = .fields vs := by
  obtain ⟨B, sI, _, _, _, fl, _⟩ := L
  exact fl.there
theorem Landed.more {h' : Heap} (L : Landed X pins st H a cls d s) (k : ∀ b o, s.heap.get? b = some o → h'.get? b = some o) : Landed X pins st H a cls d { s with heap := h' } := by
  obtain ⟨B, sI, J, nb, up, ⟨f1, f2, f3, oe, vs, T, oT, ts, he, hz, hd, h1, hT0, hTa, hT, hdT, h3⟩, os, ag, na⟩ := L
  exact ⟨B, sI, J, nb, up.trans (Heap.UpToSlots.of_keeps k), ⟨fun b o q => k b o (f1 b o q), f2, f3.of_keeps fun b o q _ => ⟨o, k b o q, rfl⟩, oe, vs, T, oT, ts, k _ _ he, hz, hd, h1, hT0, hTa, k _ _ hT, hdT, h3⟩, os, ag, na⟩
end
section
variable {X : Cx}
theorem Landed.ty {pins : List (Addr × Obj)} {st : St} {H : Hp} {a : Addr} {cls : Value} {d : Option Addr} {s : Shared} (L : Landed X pins st H a cls d s) : PySem.W.Looks (model X.prog X.w) s.heap (typeOf (.ref a)) cls := by
  obtain ⟨oe, vs, he, hz, _⟩ := L.flying
  intro A Q E s' k q
  exact wpAny_typeOf_ref (k _ _ he) (by rw [hz.1]; exact q)
end
end DL
namespace DL
open PySem PySem.Spec L2
open PyProof.Rows hiding St
section
variable {X : Cx}
abbrev isubX : D → D → MS → Res D := subI
theorem iopS_subX : OpS X (inplaceOp .Sub) isubX := opS_int0 (k := fun i j => .int (i - j)) iop_sub (fun _ _ _ _ => rfl) fun d e M h => by
  cases d <;> cases e <;> first | exact absurd rfl h | exact ⟨_, _, rfl, rfl, rfl⟩
end
end DL
namespace DL
open PySem PySem.Spec L2
open PyProof.Rows hiding St
def revR (i j : Int) : List Int := (List.range (j - i).toNat).map fun (k : Nat) => (i + ((j - i).toNat : Int) - 1) + k * (-1)
def rev2I (ma mb : ME) : MI := fun sd M => (ma sd M).bind fun d M1 => (mb sd M1).bind fun e M2 => match d, e with
  | .int i, .int j => if -1000000000 ≤ i ∧ i ≤ 1000000000 ∧ -1000000000 ≤ j ∧ j ≤ 1000000000 then .ok (intsI (revR i j)) M2 else .stuck
  | _, _ => .stuck
@[simp] theorem rev2I_ap {m mb : ME} {sd : SD} {M : MS} : rev2I m mb sd M = (m sd M).bind fun d M1 => (mb sd M1).bind fun e M2 => match d, e with
  | .int i, .int j => if -1000000000 ≤ i ∧ i ≤ 1000000000 ∧ -1000000000 ≤ j ∧ j ≤ 1000000000 then .ok (intsI (revR i j)) M2 else .stuck
  | _, _ => .stuck := rfl
section
variable {X : Cx} {W : WX} {e o : Expr} {es : List Expr} {mo : ME} {ma : MA} {pos apos cpos : Pos} {T id : String} {name : Str} {f : D → List D → MS → Res D}
theorem de_repTT {a b : String} {j k : Nat} {c0 c1 apos : Pos} (ho : DET X W o mo) (hyz : (Str.ofString a == Str.ofString b) = false := by decide)
    (hst : starEach [.Constant (.str (Str.ofString a)) j c0, .Constant (.str (Str.ofString b)) k c1] X.env = [(false, eval (.Constant (.str (Str.ofString a)) j c0) X.env), (false, eval (.Constant (.str (Str.ofString b)) k c1) X.env)] := by rfl)
    (hbase : attributeBase o "replace" X.env (eval o X.env) = eval o X.env := by rfl) (hline : (apos.endLine == pos.line) = true := by rfl) :
    DET X W (.Call (.Attribute o "replace" apos) [.Constant (.str (Str.ofString a)) j c0, .Constant (.str (Str.ofString b)) k c1] [] pos) (repE a b mo) := by
  refine ⟨fun pins s st H Q h0 I q => CwR.pet_replT ho.pe hyz hst hbase hline pins s st H Q h0 I ?_⟩
  obtain ⟨ro, sd, M, R, S, P⟩ := q
  refine ⟨ro, sd, M, R, S, (Post.bind P).imp fun x H1 ⟨ro1, M1, d, R1, P1, r1, q1⟩ => ?_⟩
  cases d with
  | str z =>
    have q1 : PostD X.K X.mg (fun c d H' => W c d st H') ro1 H1 Q (if z.length + (z.length + 1) * (Str.ofString b).length ≤ 16777216 then .ok (.str (repT z a b)) M1 else .stuck) := q1
    cases (show x = V.str (tx z) from r1)
    split at q1
    · rename_i hz
      refine ⟨tx z, rfl, by simpa [Str.length] using hz, ?_⟩
      have e : V.str (Txt.replace (tx z) (Str.ofString a) (Str.ofString b)) = V.str (tx (repT z a b)) := by
        unfold repT
        simp [tx]
      rw [e]
      exact PostD.pure (d := .str (repT z a b)) R1 rfl q1
    · exact q1.elim
  | _ => exact q1.elim
theorem pet_bm {r : V → List V → Hp → VK → Prop} {to : TE} {t : TA} (pa : PlainAttrs T) (slot : Slot T name id) (hty : typeOf (.builtin id) = pure (.type "method_descriptor")) (hm : MtR X id r) (ho : PET X o to) (ha : PA X (e :: es) t)
    (hbase : attributeBase o name X.env (eval o X.env) = eval o X.env := by rfl)
    (hfew : ((backTo cpos (starEach (e :: es) X.env)).all (fun x => !x.1) && (backToKw cpos (keywordEach [] X.env)).all (fun x => x.1.isSome)
      && decide ((e :: es).length + ([] : List Keyword).length + (if ([] : List Keyword).isEmpty then 0 else 1) < 30)) = true := by rfl)
    (hline : (apos.endLine == cpos.line) = true := by rfl) (hs : starEach (e :: es) X.env = (false, eval e X.env) :: starEach es X.env := by rfl) (hplain : (backTo cpos (starEach es X.env)).any (·.1) = false := by rfl) :
    PET X (.Call (.Attribute o name apos) (e :: es) [] cpos) (tBM X.K T r to t) := by
  intro pins s σ H Q h0 I h
  refine wpAny_Call_method_late hbase hfew hline rfl (thn (ho pins s σ H _ h0 I h) fun v s1 ⟨x, H1, I1, r1, ty, q1⟩ => ?_)
  obtain ⟨h1, h2⟩ := tyV_is I1 r1 ty
  refine ⟨T, id, pa, slot, hty, h1, h2, ?_⟩
  have hA := ha.run cpos pins s1 σ H1 _ I1 q1
  rw [hs] at hA ⊢
  refine Calls.callWith_builtin (by show (false || (backTo cpos (starEach es X.env)).any (·.1)) = false; rw [hplain] <;> rfl) (Calls.evalArgs_plain ?_)
  exact thn hA fun us s2 ⟨vs, H2, I2, r2, q2⟩ => hm pins s2 σ H2 x vs v us Q I2 r1 r2 q2
theorem de_bmT (hf : MtS X T id f) (pa : PlainAttrs T) (slot : Slot T name id) (hty : typeOf (.builtin id) = pure (.type "method_descriptor")) (ho : DET X W o mo) (ha : DA X W (e :: es) ma)
    (hbase : attributeBase o name X.env (eval o X.env) = eval o X.env := by rfl)
    (hfew : ((backTo cpos (starEach (e :: es) X.env)).all (fun x => !x.1) && (backToKw cpos (keywordEach [] X.env)).all (fun x => x.1.isSome)
      && decide ((e :: es).length + ([] : List Keyword).length + (if ([] : List Keyword).isEmpty then 0 else 1) < 30)) = true := by rfl)
    (hline : (apos.endLine == cpos.line) = true := by rfl) (hs : starEach (e :: es) X.env = (false, eval e X.env) :: starEach es X.env := by rfl) (hplain : (backTo cpos (starEach es X.env)).any (·.1) = false := by rfl) :
    DET X W (.Call (.Attribute o name apos) (e :: es) [] cpos) (bmE T f mo ma) := by
  obtain ⟨r, h1, h2⟩ := hf
  refine ⟨fun pins s st H Q h0 I q => pet_bm pa slot hty h1 ho.pe ha.pa hbase hfew hline hs hplain pins s st H Q h0 I ?_⟩
  obtain ⟨ro, sd, M, R, S, P⟩ := q
  refine ⟨ro, sd, M, R, S, (Post.bind P).imp fun x H1 ⟨ro1, M1, d, R1, P1, r1, q1⟩ => ?_⟩
  split at q1
  · rename_i ht
    refine ⟨tyv_of R1 r1 ht, ro1, sd, M1, R1, S.mono P1, (Post.bind q1).imp fun xs H2 ⟨ro2, M2, ds, R2, P2, r2, q2⟩ => ?_⟩
    exact h2 ro2 H2 M2 d ds x xs _ Q R2 (Rep.mono P2 _ _ r1) r2 q2
  · exact q1.elim
end
end DL
namespace L2H
theorem RoomH.units {k : Nat} {A : PySem.Around} (r : RoomH k A) : A.units + 64 < PySem.cLine := by have := r.un; omega
end L2H
namespace DL
open PySem PySem.Spec L2
open PyProof.Rows hiding St
end DL
namespace DL
open PySem PySem.Spec L2
open PyProof.Rows hiding St
theorem replL_one (c : Nat) (z : List Nat) : ∀ l : List Nat, StrLaws.replL [c] z l = l.flatMap fun d => if d = c then z else [d]
  | [] => StrLaws.replL_nil
  | d :: r => by
    rw [List.flatMap_cons, ← replL_one c z r]
    by_cases h : d = c
    · subst h
      rw [if_pos rfl, StrLaws.replL_hit (by simp) (by simp)]
      simp
    · rw [if_neg h, StrLaws.replL_miss (by simpa using h)]
      rfl
theorem repT_one {x : List Nat} {a b : String} {c : Nat} (ha : sL a = [c]) : repT x a b = x.flatMap fun d => if d = c then sL b else [d] := by
  unfold repT
  have e1 : (Str.ofString a).cps.toList = [c] := by rw [← ha, ← tx_sL]
  have h1 : 1 ≤ (Str.ofString a).length := by
    have : (Str.ofString a).cps.toList.length = 1 := by rw [e1]; rfl
    unfold Str.length
    rw [← Array.length_toList, this]
    exact Nat.le_refl _
  rw [StrLaws.replace_list h1, e1, replL_one]
  have e2 : (tx x).cps.toList = x := by simp [tx]
  have e3 : (Str.ofString b).cps.toList = sL b := by rw [← tx_sL]
  rw [e2, e3]
end DL
namespace DL
open PySem PySem.Spec L2
open PyProof.Rows hiding St
section
variable {X : Cx} {W : WX} {e : Expr} {es : List Expr} {m : ME} {ms : MA} {pos p : Pos} {x : Str} {id : String} {f : List D → MS → Res D} {r : List V → Hp → VK → Prop} {t : TA}
theorem pet_callB (hc : CallR X (.builtin id) r) (hg : Gl X x) (hm : X.mg x = none) (hv : bootBuiltins x = some (.builtin id)) (ha : PAT X (e :: es) t) (hn : x ≠ "__name__" := by decide) (hdb : (x == ("__debug__" : Str)) = false := by decide)
    (he : starEach (e :: es) X.env = (false, eval e X.env) :: starEach es X.env := by rfl) (hpl : (backTo pos (starEach es X.env)).any (·.1) = false := by rfl) : PET X (.Call (.Name x p) (e :: es) [] pos) (tCB r t) := by
  intro pins s σ H Q h0 I h
  refine wpAny_Call_Name_kw (ld_blt I hg hm hv (PyProof.Rows.callWith_builtin1 (wpAny_mono (ha pos pins s σ H _ h0 I h) (fun us s1 q => ?_) fun _ _ z => z) he hpl) hn hdb)
  obtain ⟨vs, H1, I1, r1, q1⟩ := q
  exact hc pins s1 σ H1 vs us Q I1 r1 q1
theorem de_callBT (hc : CallS X (.builtin id) f) (hg : Gl X x) (hm : X.mg x = none) (hv : bootBuiltins x = some (.builtin id)) (ha : DAT X W (e :: es) ms) (hn : x ≠ "__name__" := by decide) (hdb : (x == ("__debug__" : Str)) = false := by decide)
    (he : starEach (e :: es) X.env = (false, eval e X.env) :: starEach es X.env := by rfl) (hpl : (backTo pos (starEach es X.env)).any (·.1) = false := by rfl) : DET X W (.Call (.Name x p) (e :: es) [] pos) (appE f ms) := by
  obtain ⟨r, h1, h2⟩ := hc
  refine ⟨fun pins s st H Q h0 I q => pet_callB h1 hg hm hv ha.pa hn hdb he hpl pins s st H Q h0 I ?_⟩
  obtain ⟨ro, sd, M, R, S, P⟩ := q
  exact ⟨ro, sd, M, R, S, (Post.bind P).imp fun xs H1 ⟨ro1, M1, ds, R1, P1, r1, q1⟩ => h2 ro1 H1 M1 ds xs _ Q R1 r1 q1⟩
theorem ds_retT (he : DET X W e m) : DST X W (.Return (some e) pos) (retS m) := by
  refine ⟨fun pins s st H D0 h0 I q => CwR.pst_ret he.pe pins s st H D0 h0 I ?_⟩
  obtain ⟨ro, sd, M, R, S, P⟩ := q
  refine ⟨ro, sd, M, R, S, (PostS.ofE P S).imp fun x H1 ⟨ro1, M1, d, R1, P1, r1, q1⟩ => ?_⟩
  exact q1 ro1 H1 _ R1 (Pres.refl _ _) r1
end
end DL
namespace Lk91
open PySem PySem.Spec L2 DL
open PyProof.Rows hiding St
def top (i : Nat) : Stmt := PySem.Challenge.pw_neededlaws_k91_forms_counted.main.body.getD i (.Pass ⟨0, 0, 0, 0⟩)
abbrev s_l_pool : Stmt := top 31
abbrev s_l_take : Stmt := top 32
abbrev s_l_letters : Stmt := top 34
abbrev s_BadRuleD_initD : Stmt := inClass (top 4) 0
abbrev s_RulesD_initD : Stmt := inClass (top 22) 0
abbrev s_l_texts : Stmt := top 35
abbrev s_RulesD_containsD : Stmt := inClass (top 22) 5
abbrev s_choices : Stmt := top 6
abbrev s_rows_of_letters : Stmt := top 7
abbrev s_pairs_of_parts : Stmt := top 8
abbrev s_form_count : Stmt := top 9
abbrev s_l_cell : Stmt := top 33
abbrev s_l_choices : Stmt := top 37
abbrev s_l_due : Stmt := top 38
abbrev s_l_refused : Stmt := top 39
abbrev s_tree_form : Stmt := top 17
abbrev s_different : Stmt := top 11
abbrev s_beginning : Stmt := top 12
abbrev s_ending : Stmt := top 13
abbrev s_merged : Stmt := top 14
abbrev s_band_form : Stmt := top 15
abbrev s_word_form : Stmt := top 18
abbrev s_plain : Stmt := top 19
abbrev s_NoWayD_initD : Stmt := inClass (top 3) 0
abbrev s_expected : Stmt := top 27
abbrev s_end_of : Stmt := top 28
abbrev s_WayD_initD : Stmt := inClass (top 29) 0
abbrev s_l_size : Stmt := top 36
abbrev s_law : Stmt := top 40
abbrev exm_BadRule : String → Option Bool := exmL [("BadRule", true)]
noncomputable def m_l_pool : MST :=
  (retS (celE (consA (nameE 0) (consA (constE (.int 0)) (consA (binE geD (nameE 0) (binE powI (constE (.int 10)) (constE (.int 18)))) nilA)))))
noncomputable def F_l_pool : FM := runD 1 m_l_pool
noncomputable def m_l_take : MST :=
  (seqS (putS (nameE 0) (constE (.int 1)) (binE addD (binE ixD (nameE 0) (constE (.int 1))) (constE (.int 1))))
  (seqS (ifS (truB (binE ixD (nameE 0) (constE (.int 2)))) (seqS (setS 2 (binE modI (appE intF (consA (binE ixD (nameE 0) (constE (.int 0))) nilA)) (nameE 1)))
  (seqS (putS (nameE 0) (constE (.int 0)) (binE fdivW (appE intF (consA (binE ixD (nameE 0) (constE (.int 0))) nilA)) (nameE 1)))
  (retS (nameE 2)))) passS)
  (seqS (setS 3 (binE modI (appE intF (consA (binE addD (binE addD (binE mulD (binE ixD (nameE 0) (constE (.int 0))) (constE (.int 7919))) (binE mulD (binE ixD (nameE 0) (constE (.int 1))) (constE (.int 104729)))) (constE (.int 13))) nilA)) (constE (.int 2147483647))))
  (retS (binE modI (binE fdivW (appE intF (consA (binE modI (binE powI (nameE 3) (constE (.int 5))) (constE (.int 2147483647))) nilA)) (constE (.int 17))) (nameE 1))))))
noncomputable def F_l_take : FM := runD 4 m_l_take
noncomputable def t_l_letters_1 : MB :=
  (valB (binE (eqD false) (binE modI (binE fdivI (nameE 1) (binE ixD (lstE (consA (constE (.int 1)) (consA (constE (.int 2)) (consA (constE (.int 4)) (consA (constE (.int 8)) (consA (constE (.int 16)) nilA)))))) (nameE 2))) (constE (.int 2))) (constE (.int 1))))
noncomputable def e_l_letters_1 : ME :=
  (binE ixD (constE (.str (sL "ACIUZ"))) (nameE 2))
noncomputable def m_l_letters : MST :=
  (seqS (setS 1 (callE 2 F_l_take (· ++ []) (consA (nameE 0) (consA (constE (.int 32)) nilA))))
  (retS (bmE "str" joinF (constE (.str (sL ""))) (consA (lcE (range1I (consA (constE (.int 5)) nilA)) (nameG 2) t_l_letters_1 e_l_letters_1 [2]) nilA))))
noncomputable def F_l_letters : FM := runD 3 m_l_letters
noncomputable def b_RulesD_initD_1 : MST :=
  (ifS (valB (binE (inD true) (nameE 2) (constE (.str (sL "ACIUZ"))))) stuckS passS)
noncomputable def t_RulesD_initD_1 : MB :=
  (valB (binE (inD false) (nameE 2) (nameE 1)))
noncomputable def m_RulesD_initD : MST :=
  (seqS (forS (anyI (nameE 1)) (nameG 2) b_RulesD_initD_1)
  (setFldS ["Rules"] "letters" (nameE 0) (bmE "str" joinF (constE (.str (sL ""))) (consA (lcE (anyI (constE (.str (sL "ACIUZ")))) (nameG 2) t_RulesD_initD_1 (nameE 2) [2]) nilA))))
noncomputable def F_RulesD_initD : FM := runD 3 m_RulesD_initD
noncomputable def e_l_texts_1 (G : FM) : ME :=
  (binE addD (binE addD (binE addD (binE addD (constE (.str (sL "("))) (nameE 4)) (constE (.str (sL " ")))) (nameE 5)) (constE (.str (sL ")"))))
noncomputable def b_l_texts_1 (G : FM) : MST :=
  (setS 2 (binE addD (nameE 2) (lcE (anyI (callE 2 G (· ++ []) (consA (binE subI (nameE 0) (nameE 3)) (consA (nameE 1) nilA)))) (nameG 5) yesB (e_l_texts_1 G) [5])))
noncomputable def b_l_texts_2 (G : FM) : MST :=
  (forS (anyI (callE 2 G (· ++ []) (consA (nameE 3) (consA (nameE 1) nilA)))) (nameG 4) (b_l_texts_1 G))
noncomputable def m_l_texts (G : FM) : MST :=
  (seqS (ifS (valB (binE (eqD false) (nameE 0) (constE (.int 1)))) (retS (appE listF (consA (nameE 1) nilA))) passS)
  (seqS (setS 2 (lstE nilA))
  (seqS (forS (range2I (consA (constE (.int 1)) (consA (nameE 0) nilA))) (nameG 3) (b_l_texts_2 G))
  (retS (nameE 2)))))
noncomputable def R_l_texts : Nat → FM
  | 0 => fun _ _ => .stuck
  | d + 1 => runD 6 (m_l_texts (R_l_texts d))
noncomputable def F_l_texts : FM := R_l_texts 30
noncomputable def m_RulesD_containsD : MST :=
  (retS (andE (binE (eqD false) (appE lenF (consA (nameE 1) nilA)) (constE (.int 1))) (binE (inD false) (nameE 1) (unE (fldD ["Rules"] "letters") (nameE 0)))))
noncomputable def F_RulesD_containsD : FM := runD 2 m_RulesD_containsD
noncomputable def b_choices_1 : MST :=
  (setS 2 (binE fdivI (binE mulW (nameE 2) (binE subI (nameE 0) (nameE 3))) (binE addD (nameE 3) (constE (.int 1)))))
noncomputable def m_choices : MST :=
  (seqS (setS 2 (constE (.int 1)))
  (seqS (forS (range1I (consA (nameE 1) nilA)) (nameG 3) b_choices_1)
  (retS (nameE 2))))
noncomputable def F_choices : FM := runD 4 m_choices
noncomputable def b_rows_of_letters_1 : MST :=
  (setS 3 (binE mulW (nameE 3) (nameE 1)))
noncomputable def m_rows_of_letters : MST :=
  (seqS (ifS (valB (binE (inO "Rules" F_RulesD_containsD true) (constE (.str (sL "C"))) (nameE 2))) (seqS (setS 3 (constE (.int 1)))
  (seqS (forS (range1I (consA (nameE 0) nilA)) (nameG 4) b_rows_of_letters_1)
  (retS (nameE 3)))) passS)
  (seqS (ifS (valB (binE (inO "Rules" F_RulesD_containsD false) (constE (.str (sL "I"))) (nameE 2))) (seqS (ifS (valB (binE gtD (nameE 0) (nameE 1))) (retS (constE (.int 0))) passS)
  (retS (callE 2 F_choices (· ++ []) (consA (nameE 1) (consA (nameE 0) nilA))))) passS)
  (retS (callE 2 F_choices (· ++ []) (consA (binE subI (binE addD (nameE 1) (nameE 0)) (constE (.int 1))) (consA (nameE 0) nilA))))))
noncomputable def F_rows_of_letters : FM := runD 5 m_rows_of_letters
noncomputable def b_pairs_of_parts_1 : MST :=
  (ifS (orB (valB (binE (inO "Rules" F_RulesD_containsD true) (constE (.str (sL "C"))) (nameE 2))) (valB (binE ltD (binE mulW (constE (.int 2)) (nameE 4)) (nameE 1)))) (augS 3 iaddX (binE mulW (binE ixD (nameE 0) (nameE 4)) (binE ixD (nameE 0) (binE subI (nameE 1) (nameE 4))))) passS)
noncomputable def m_pairs_of_parts : MST :=
  (seqS (setS 3 (constE (.int 0)))
  (seqS (forS (range2I (consA (constE (.int 1)) (consA (nameE 1) nilA))) (nameG 4) b_pairs_of_parts_1)
  (seqS (ifS (valB (binE (eqD false) (binE modI (nameE 1) (constE (.int 2))) (constE (.int 0)))) (seqS (setS 5 (binE ixD (nameE 0) (binE fdivI (nameE 1) (constE (.int 2)))))
  (ifS (andB (valB (binE (inO "Rules" F_RulesD_containsD false) (constE (.str (sL "C"))) (nameE 2))) (valB (binE (inO "Rules" F_RulesD_containsD false) (constE (.str (sL "I"))) (nameE 2)))) (augS 3 iaddX (binE fdivI (binE mulW (nameE 5) (binE subI (nameE 5) (constE (.int 1)))) (constE (.int 2)))) (ifS (valB (binE (inO "Rules" F_RulesD_containsD false) (constE (.str (sL "C"))) (nameE 2))) (augS 3 iaddX (binE fdivI (binE mulW (nameE 5) (binE addD (nameE 5) (constE (.int 1)))) (constE (.int 2)))) (ifS (valB (binE (inO "Rules" F_RulesD_containsD false) (constE (.str (sL "I"))) (nameE 2))) (augS 3 isubX (nameE 5)) passS)))) passS)
  (retS (nameE 3)))))
noncomputable def F_pairs_of_parts : FM := runD 6 m_pairs_of_parts
noncomputable def b_form_count_1 : MST :=
  (exprS (bmE "list" appendF (nameE 4) (consA (callE 3 F_pairs_of_parts (· ++ []) (consA (nameE 4) (consA (nameE 5) (consA (nameE 2) nilA)))) nilA)))
noncomputable def m_form_count : MST :=
  (seqS (ifS (andB (valB (binE (inO "Rules" F_RulesD_containsD false) (constE (.str (sL "A"))) (nameE 2))) (andB (valB (binE (inO "Rules" F_RulesD_containsD false) (constE (.str (sL "I"))) (nameE 2))) (valB (binE (inO "Rules" F_RulesD_containsD true) (constE (.str (sL "C"))) (nameE 2))))) (excS "BadRule" ["letter"] (consA (constE (.str (sL "I"))) nilA)) passS)
  (seqS (ifS (valB (binE (eqD false) (nameE 0) (constE (.int 1)))) (retS (binE addD (nameE 1) (constE (.int 2)))) passS)
  (seqS (setS 3 (binE addD (binE addD (nameE 1) (appE intF (consA (binE (inO "Rules" F_RulesD_containsD true) (constE (.str (sL "U"))) (nameE 2)) nilA))) (appE intF (consA (binE (inO "Rules" F_RulesD_containsD true) (constE (.str (sL "Z"))) (nameE 2)) nilA))))
  (seqS (ifS (valB (binE (inO "Rules" F_RulesD_containsD false) (constE (.str (sL "A"))) (nameE 2))) (retS (callE 3 F_rows_of_letters (· ++ []) (consA (nameE 0) (consA (nameE 3) (consA (nameE 2) nilA))))) passS)
  (seqS (setS 4 (celE (consA (constE (.int 0)) (consA (nameE 3) nilA))))
  (seqS (forS (range2I (consA (constE (.int 2)) (consA (binE addD (nameE 0) (constE (.int 1))) nilA))) (nameG 5) b_form_count_1)
  (retS (binE ixD (nameE 4) (nameE 0)))))))))
noncomputable def F_form_count : FM := runD 6 m_form_count
noncomputable def m_l_cell : MST :=
  (seqS (ifS (valB (binE ltD (nameE 1) (appE lenF (consA (nameE 0) nilA)))) (retS (binE ixD (nameE 0) (nameE 1))) passS)
  (retS (constE (.int 0))))
noncomputable def F_l_cell : FM := runD 2 m_l_cell
noncomputable def b_l_choices_1 : MST :=
  (seqS (setS 2 (binE mulW (nameE 2) (binE subI (nameE 0) (nameE 4))))
  (setS 3 (binE mulW (nameE 3) (binE addD (nameE 4) (constE (.int 1))))))
noncomputable def m_l_choices : MST :=
  (seqS (setS 2 (constE (.int 1)))
  (seqS (setS 3 (constE (.int 1)))
  (seqS (forS (range1I (consA (nameE 1) nilA)) (nameG 4) b_l_choices_1)
  (retS (binE fdivW (nameE 2) (nameE 3))))))
noncomputable def F_l_choices : FM := runD 5 m_l_choices
noncomputable def e_l_due_1 : ME :=
  (binE mulW (binE ixD (nameE 4) (nameE 8)) (binE ixD (nameE 4) (binE subI (nameE 5) (nameE 8))))
noncomputable def b_l_due_1 : MST :=
  (seqS (setS 6 (appE sumF (consA (lcE (range2I (consA (constE (.int 1)) (consA (nameE 5) nilA))) (nameG 8) yesB e_l_due_1 [8]) nilA)))
  (seqS (setS 7 (constE (.int 0)))
  (seqS (ifS (valB (binE (eqD false) (binE modI (nameE 5) (constE (.int 2))) (constE (.int 0)))) (setS 7 (binE ixD (nameE 4) (binE fdivI (nameE 5) (constE (.int 2))))) passS)
  (seqS (ifS (valB (binE (inD false) (constE (.str (sL "A"))) (nameE 2))) (setS 6 (binE mulW (nameE 3) (binE ixD (nameE 4) (binE subI (nameE 5) (constE (.int 1)))))) (ifS (valB (binE (inD false) (constE (.str (sL "C"))) (nameE 2))) (setS 6 (binE subI (binE fdivI (binE addD (nameE 6) (nameE 7)) (constE (.int 2))) (binE mulW (nameE 7) (appE intF (consA (binE (inD false) (constE (.str (sL "I"))) (nameE 2)) nilA))))) (ifS (valB (binE (inD false) (constE (.str (sL "I"))) (nameE 2))) (setS 6 (binE subI (nameE 6) (nameE 7))) passS)))
  (exprS (bmE "list" appendF (nameE 4) (consA (nameE 6) nilA)))))))
noncomputable def m_l_due : MST :=
  (seqS (ifS (valB (binE (eqD false) (nameE 0) (constE (.int 1)))) (retS (binE addD (nameE 1) (constE (.int 2)))) passS)
  (seqS (setS 3 (binE subI (binE subI (binE addD (nameE 1) (constE (.int 2))) (appE intF (consA (binE (inD false) (constE (.str (sL "U"))) (nameE 2)) nilA))) (appE intF (consA (binE (inD false) (constE (.str (sL "Z"))) (nameE 2)) nilA))))
  (seqS (ifS (andB (valB (binE (inD false) (constE (.str (sL "A"))) (nameE 2))) (andB (valB (binE (inD false) (constE (.str (sL "C"))) (nameE 2))) (valB (binE (inD false) (constE (.str (sL "I"))) (nameE 2))))) (retS (binE mulW (callE 2 F_l_choices (· ++ []) (consA (nameE 3) (consA (nameE 0) nilA))) (appE intF (consA (binE geD (nameE 3) (nameE 0)) nilA)))) passS)
  (seqS (ifS (andB (valB (binE (inD false) (constE (.str (sL "A"))) (nameE 2))) (valB (binE (inD false) (constE (.str (sL "C"))) (nameE 2)))) (retS (callE 2 F_l_choices (· ++ []) (consA (binE subI (binE addD (nameE 3) (nameE 0)) (constE (.int 1))) (consA (nameE 0) nilA)))) passS)
  (seqS (setS 4 (celE (consA (constE (.int 0)) (consA (nameE 3) nilA))))
  (seqS (forS (range2I (consA (constE (.int 2)) (consA (binE addD (nameE 0) (constE (.int 1))) nilA))) (nameG 5) b_l_due_1)
  (retS (binE ixD (nameE 4) (nameE 0)))))))))
noncomputable def F_l_due : FM := runD 9 m_l_due
noncomputable def s_l_refused_1 : Addr → Option Addr → MST :=
  fun a d => (retS (binE (eqD false) (xfE a d "letter" (nameE 3)) (constE (.str (sL "I")))))
noncomputable def m_l_refused : MST :=
  (seqS (tryS exm_BadRule 3 (exprS (callKE 3 2 1 F_form_count (· ++ ·) (consA (nameE 0) (consA (nameE 1) nilA)) (consA (nameE 2) nilA))) s_l_refused_1)
  (retS (constE (.bl false))))
noncomputable def F_l_refused : FM := runD 4 m_l_refused
noncomputable def m_tree_form (G : FM) : MST :=
  (seqS (ifS (valB (binE isNF (unE (fldD ["Way"] "left") (nameE 0)) (constE .non))) (retS (unE (fldD ["Way"] "name") (nameE 0))) passS)
  (seqS (setS 2 (callE 2 G (· ++ []) (consA (unE (fldD ["Way"] "left") (nameE 0)) (consA (nameE 1) nilA))))
  (seqS (setS 3 (callE 2 G (· ++ []) (consA (unE (fldD ["Way"] "right") (nameE 0)) (consA (nameE 1) nilA))))
  (seqS (ifS (andB (valB (binE (inO "Rules" F_RulesD_containsD false) (constE (.str (sL "Z"))) (nameE 1))) (orB (valB (binE (eqD false) (nameE 2) (constE (.str (sL "z"))))) (valB (binE (eqD false) (nameE 3) (constE (.str (sL "z"))))))) (retS (constE (.str (sL "z")))) passS)
  (seqS (ifS (andB (valB (binE (inO "Rules" F_RulesD_containsD false) (constE (.str (sL "U"))) (nameE 1))) (valB (binE (eqD false) (nameE 2) (constE (.str (sL "e")))))) (retS (nameE 3)) passS)
  (seqS (ifS (andB (valB (binE (inO "Rules" F_RulesD_containsD false) (constE (.str (sL "U"))) (nameE 1))) (valB (binE (eqD false) (nameE 3) (constE (.str (sL "e")))))) (retS (nameE 2)) passS)
  (seqS (ifS (andB (valB (binE (inO "Rules" F_RulesD_containsD false) (constE (.str (sL "I"))) (nameE 1))) (valB (binE (eqD false) (nameE 2) (nameE 3)))) (retS (nameE 2)) passS)
  (seqS (ifS (andB (valB (binE (inO "Rules" F_RulesD_containsD false) (constE (.str (sL "C"))) (nameE 1))) (valB (binE ltD (nameE 3) (nameE 2)))) (retS (fstrE [(constE (.str (sL "("))), (fmtE (nameE 3)), (constE (.str (sL " "))), (fmtE (nameE 2)), (constE (.str (sL ")")))])) passS)
  (retS (fstrE [(constE (.str (sL "("))), (fmtE (nameE 2)), (constE (.str (sL " "))), (fmtE (nameE 3)), (constE (.str (sL ")")))]))))))))))
noncomputable def R_tree_form : Nat → FM
  | 0 => fun _ _ => .stuck
  | d + 1 => runD 4 (m_tree_form (R_tree_form d))
noncomputable def F_tree_form : FM := R_tree_form 30
noncomputable def m_different : MST :=
  (retS (lenZE (setR (nameE 0))))
noncomputable def F_different : FM := runD 1 m_different
noncomputable def b_beginning_1 : MST :=
  (seqS (dputS (nameE 2) (nameE 4) (constE (.bl true)))
  (ifS (valB (binE (eqD false) (appE lenX (consA (nameE 2) nilA)) (nameE 1))) (retS (tupE (consA (appE listF (consA (slE (nameE 0) noO (soO (nameE 3))) nilA)) (consA (nameE 4) nilA)))) passS))
noncomputable def m_beginning : MST :=
  (seqS (setS 1 (callE 1 F_different (· ++ []) (consA (nameE 0) nilA)))
  (seqS (setS 2 dicE)
  (seqS (forS (enumX (nameE 0)) (tupG [3, 4]) b_beginning_1)
  (retS (tupE (consA (lstE nilA) (consA (constE (.str (sL ""))) nilA)))))))
noncomputable def F_beginning : FM := clF (runD 5 m_beginning)
noncomputable def m_ending : MST :=
  (seqS (unpS (tupG [1, 2]) (callE 1 F_beginning (· ++ []) (consA (revAE (nameE 0)) nilA)))
  (retS (tupE (consA (nameE 2) (consA (revAE (nameE 1)) nilA)))))
noncomputable def F_ending : FM := runD 3 m_ending
noncomputable def b_merged_1 : MST :=
  (ifS (valB (binE (eqD false) (slE (nameE 0) (soO (binE subI (appE lenF (consA (nameE 0) nilA)) (nameE 2))) noO) (slE (nameE 1) noO (soO (nameE 2))))) (retS (binE addD (nameE 0) (slE (nameE 1) (soO (nameE 2)) noO))) passS)
noncomputable def m_merged : MST :=
  (seqS (forS (rev1I (binE addD (appE min2F (consA (appE lenF (consA (nameE 0) nilA)) (consA (appE lenF (consA (nameE 1) nilA)) nilA))) (constE (.int 1)))) (nameG 2) b_merged_1)
  (retS (binE addD (nameE 0) (nameE 1))))
noncomputable def F_merged : FM := runD 3 m_merged
noncomputable def m_band_form (G : FM) : MST :=
  (seqS (ifS (valB (binE (eqD false) (callE 1 F_different (· ++ []) (consA (nameE 0) nilA)) (constE (.int 1)))) (retS (lstE (consA (binE ixD (nameE 0) (constE (.int 0))) nilA))) passS)
  (seqS (unpS (tupG [1, 2]) (callE 1 F_beginning (· ++ []) (consA (nameE 0) nilA)))
  (seqS (unpS (tupG [3, 4]) (callE 1 F_ending (· ++ []) (consA (nameE 0) nilA)))
  (retS (callE 2 F_merged (· ++ []) (consA (binE addD (callE 1 G (· ++ []) (consA (nameE 1) nilA)) (lstE (consA (nameE 2) nilA))) (consA (binE addD (lstE (consA (nameE 3) nilA)) (callE 1 G (· ++ []) (consA (nameE 4) nilA))) nilA)))))))
noncomputable def R_band_form : Nat → FM
  | 0 => fun _ _ => .stuck
  | d + 1 => runD 5 (m_band_form (R_band_form d))
noncomputable def F_band_form : FM := R_band_form 30
noncomputable def t_word_form_1 : MB :=
  (valB (binE (eqD true) (nameE 2) (constE (.str (sL "e")))))
noncomputable def m_word_form : MST :=
  (seqS (ifS (andB (valB (binE (inO "Rules" F_RulesD_containsD false) (constE (.str (sL "Z"))) (nameE 1))) (valB (binE (inD false) (constE (.str (sL "z"))) (nameE 0)))) (retS (lstE (consA (constE (.str (sL "z"))) nilA))) passS)
  (seqS (ifS (valB (binE (inO "Rules" F_RulesD_containsD false) (constE (.str (sL "U"))) (nameE 1))) (seqS (setS 0 (lcE (anyI (nameE 0)) (nameG 2) t_word_form_1 (nameE 2) [2]))
  (ifS (valB (binE (eqD false) (nameE 0) (lstE nilA))) (retS (lstE (consA (constE (.str (sL "e"))) nilA))) passS)) passS)
  (seqS (ifS (andB (valB (binE (inO "Rules" F_RulesD_containsD false) (constE (.str (sL "C"))) (nameE 1))) (valB (binE (inO "Rules" F_RulesD_containsD false) (constE (.str (sL "I"))) (nameE 1)))) (retS (sortZE (setR (nameE 0)))) passS)
  (seqS (ifS (valB (binE (inO "Rules" F_RulesD_containsD false) (constE (.str (sL "C"))) (nameE 1))) (retS (appE sortedSF (consA (nameE 0) nilA))) passS)
  (seqS (ifS (valB (binE (inO "Rules" F_RulesD_containsD false) (constE (.str (sL "I"))) (nameE 1))) (retS (callE 1 F_band_form (· ++ []) (consA (nameE 0) nilA))) passS)
  (retS (nameE 0)))))))
noncomputable def F_word_form : FM := runD 3 m_word_form
noncomputable def m_plain : MST :=
  (seqS (ifS (valB (binE (inO "Rules" F_RulesD_containsD false) (constE (.str (sL "A"))) (nameE 1))) (retS (bmE "str" joinF (constE (.str (sL " "))) (consA (callE 2 F_word_form (· ++ []) (consA (appE listF (consA (unE (fldD ["Way"] "leaves") (nameE 0)) nilA)) (consA (nameE 1) nilA))) nilA))) passS)
  (retS (callE 2 F_tree_form (· ++ []) (consA (nameE 0) (consA (nameE 1) nilA)))))
noncomputable def F_plain : FM := runD 2 m_plain
noncomputable def m_expected : MST :=
  (ifS (orB (valB (binE (eqD false) (nameE 1) (appE lenF (consA (nameE 0) nilA)))) (valB (binE (eqD true) (binE ixD (nameE 0) (nameE 1)) (nameE 2)))) stuckS passS)
noncomputable def F_expected : FM := runD 3 m_expected
noncomputable def t_end_of_1 (G : FM) : MB :=
  (andB (valB (binE ltD (binE addD (nameE 1) (nameE 4)) (appE lenF (consA (nameE 0) nilA)))) (andB (valB (binE (inD false) (binE ixD (nameE 0) (binE addD (nameE 1) (nameE 4))) (constE (.str (sL "abcdefghijklmnopqrstuvwxyz"))))) (valB (binE ltD (nameE 4) (constE (.int 6))))))
noncomputable def b_end_of_1 (G : FM) : MST :=
  (augS 4 iaddX (constE (.int 1)))
noncomputable def m_end_of (G : FM) : MST :=
  (seqS (ifS (valB (binE (eqD false) (nameE 1) (appE lenF (consA (nameE 0) nilA)))) stuckS passS)
  (seqS (ifS (valB (binE (eqD false) (binE ixD (nameE 0) (nameE 1)) (constE (.str (sL "("))))) (seqS (setS 2 (callE 2 G (· ++ []) (consA (nameE 0) (consA (binE addD (nameE 1) (constE (.int 1))) nilA))))
  (seqS (exprS (callE 3 F_expected (· ++ []) (consA (nameE 0) (consA (nameE 2) (consA (constE (.str (sL " "))) nilA)))))
  (seqS (setS 3 (callE 2 G (· ++ []) (consA (nameE 0) (consA (binE addD (nameE 2) (constE (.int 1))) nilA))))
  (seqS (exprS (callE 3 F_expected (· ++ []) (consA (nameE 0) (consA (nameE 3) (consA (constE (.str (sL ")"))) nilA)))))
  (retS (binE addD (nameE 3) (constE (.int 1)))))))) passS)
  (seqS (setS 4 (constE (.int 0)))
  (seqS (whileS 1000 (t_end_of_1 G) (b_end_of_1 G))
  (seqS (ifS (valB (binE (eqD false) (nameE 4) (constE (.int 0)))) stuckS passS)
  (retS (binE addD (nameE 1) (nameE 4))))))))
noncomputable def R_end_of : Nat → FM
  | 0 => fun _ _ => .stuck
  | d + 1 => runD 5 (m_end_of (R_end_of d))
noncomputable def F_end_of : FM := R_end_of 30
noncomputable def m_WayD_initD (G : FM) : MST :=
  (seqS (setS 2 (callE 2 F_end_of (· ++ []) (consA (nameE 1) (consA (constE (.int 0)) nilA))))
  (seqS (ifS (valB (binE ltD (nameE 2) (appE lenF (consA (nameE 1) nilA)))) stuckS passS)
  (seqS (setFldS ["Way"] "text" (nameE 0) (nameE 1))
  (seqS (setFldS ["Way"] "name" (nameE 0) (constE (.str (sL ""))))
  (seqS (setFldS ["Way"] "left" (nameE 0) (constE .non))
  (seqS (setFldS ["Way"] "right" (nameE 0) (constE .non))
  (ifS (valB (binE (eqD false) (binE ixD (nameE 1) (constE (.int 0))) (constE (.str (sL "("))))) (seqS (setS 3 (callE 2 F_end_of (· ++ []) (consA (nameE 1) (consA (constE (.int 1)) nilA))))
  (seqS (setFldS ["Way"] "left" (nameE 0) (callE 1 (mkT "Way" G) (· ++ []) (consA (slE (nameE 1) (soO (constE (.int 1))) (soO (nameE 3))) nilA)))
  (seqS (setFldS ["Way"] "right" (nameE 0) (callE 1 (mkT "Way" G) (· ++ []) (consA (slE (nameE 1) (soO (binE addD (nameE 3) (constE (.int 1)))) (soO (unE negI (constE (.int 1))))) nilA)))
  (setFldS ["Way"] "leaves" (nameE 0) (binE addD (unE (fldD ["Way"] "leaves") (unE (fldD ["Way"] "left") (nameE 0))) (unE (fldD ["Way"] "leaves") (unE (fldD ["Way"] "right") (nameE 0)))))))) (seqS (setFldS ["Way"] "name" (nameE 0) (nameE 1))
  (setFldS ["Way"] "leaves" (nameE 0) (tupE (consA (nameE 1) nilA)))))))))))
noncomputable def R_WayD_initD : Nat → FM
  | 0 => fun _ _ => .stuck
  | d + 1 => runD 4 (m_WayD_initD (R_WayD_initD d))
noncomputable def F_WayD_initD : FM := R_WayD_initD 30
noncomputable def m_l_size : MST :=
  (seqS (retS (appE lenF (consA (bmE "str" splF (repE ")" "" (repE "(" "" (nameE 0))) (consA (constE (.str (sL " "))) nilA)) nilA)))
  passS)
noncomputable def F_l_size : FM := runD 1 m_l_size
noncomputable def e_law_1 : ME :=
  (callKE 2 1 1 F_plain (· ++ ·) (consA (callE 1 (mkT "Way" F_WayD_initD) (· ++ []) (consA (nameE 12) nilA)) nilA) (consA (nameE 3) nilA))
noncomputable def t_law_1 : MB :=
  (valB (binE (eqD false) (callE 1 F_l_size (· ++ []) (consA (nameE 12) nilA)) (nameE 4)))
noncomputable def m_law : MST :=
  (seqS (setS 1 (callE 1 F_l_pool (· ++ []) (consA (callE 2 F_l_cell (· ++ []) (consA (nameE 0) (consA (constE (.int 0)) nilA))) nilA)))
  (seqS (setS 2 (callE 1 F_l_letters (· ++ []) (consA (nameE 1) nilA)))
  (seqS (setS 3 (callE 1 (mkT "Rules" F_RulesD_initD) (· ++ []) (consA (nameE 2) nilA)))
  (seqS (setS 4 (binE addD (constE (.int 1)) (callE 2 F_l_take (· ++ []) (consA (nameE 1) (consA (constE (.int 3)) nilA)))))
  (seqS (setS 5 (callE 2 F_l_take (· ++ []) (consA (nameE 1) (consA (constE (.int 3)) nilA))))
  (seqS (ifS (valB (binE (eqD false) (callE 2 F_l_take (· ++ []) (consA (nameE 1) (consA (constE (.int 8)) nilA))) (constE (.int 1)))) (seqS (setS 4 (constE (.int 4)))
  (setS 5 (appE min2F (consA (nameE 5) (consA (constE (.int 1)) nilA))))) passS)
  (seqS (setS 6 (lstE (consA (binE addD (constE (.int 1)) (callE 2 F_l_take (· ++ []) (consA (nameE 1) (consA (constE (.int 100)) nilA)))) (consA (callE 2 F_l_take (· ++ []) (consA (nameE 1) (consA (binE powI (constE (.int 10)) (constE (.int 20))) nilA))) nilA))))
  (seqS (ifS (andB (valB (binE (inD false) (constE (.str (sL "A"))) (nameE 2))) (andB (valB (binE (inD false) (constE (.str (sL "I"))) (nameE 2))) (valB (binE (inD true) (constE (.str (sL "C"))) (nameE 2))))) (retS (andE (callE 3 F_l_refused (· ++ []) (consA (nameE 4) (consA (nameE 5) (consA (nameE 3) nilA)))) (callE 3 F_l_refused (· ++ []) (consA (binE ixD (nameE 6) (constE (.int 0))) (consA (binE ixD (nameE 6) (constE (.int 1))) (consA (nameE 3) nilA)))))) passS)
  (seqS (setS 7 (callE 2 F_l_texts (· ++ []) (consA (nameE 4) (consA (binE addD (slE (lstE (consA (constE (.str (sL "a"))) (consA (constE (.str (sL "b"))) nilA))) noO (soO (nameE 5))) (lstE (consA (constE (.str (sL "e"))) (consA (constE (.str (sL "z"))) nilA)))) nilA))))
  (seqS (setS 8 (sortZE (setR (lcE (anyI (nameE 7)) (nameG 12) yesB e_law_1 [12]))))
  (seqS (setS 9 (appE lenF (consA (lcE (anyI (nameE 8)) (nameG 12) t_law_1 (nameE 12) [12]) nilA)))
  (seqS (setS 10 (callKE 3 2 1 F_form_count (· ++ ·) (consA (nameE 4) (consA (nameE 5) nilA)) (consA (nameE 3) nilA)))
  (seqS (ifS (orB (valB (binE (eqD true) (nameE 10) (nameE 9))) (orB (truB (appE (isiF [] tblB) (consA (nameE 10) (consA (constE (.ty "bool")) nilA)))) (valB (binE (eqD true) (nameE 10) (callE 3 F_l_due (· ++ []) (consA (nameE 4) (consA (nameE 5) (consA (nameE 2) nilA)))))))) (retS (constE (.bl false))) passS)
  (seqS (setS 11 (binE addD (constE (.int 1)) (callE 2 F_l_take (· ++ []) (consA (nameE 1) (consA (constE (.int 20)) nilA)))))
  (seqS (ifS (valB (binE (eqD true) (callKE 3 2 1 F_form_count (· ++ ·) (consA (nameE 11) (consA (nameE 5) nilA)) (consA (nameE 3) nilA)) (callE 3 F_l_due (· ++ []) (consA (nameE 11) (consA (nameE 5) (consA (nameE 2) nilA)))))) (retS (constE (.bl false))) passS)
  (retS (binE (eqD false) (callKE 3 2 1 F_form_count (· ++ ·) (consA (binE ixD (nameE 6) (constE (.int 0))) (consA (binE ixD (nameE 6) (constE (.int 1))) nilA)) (consA (nameE 3) nilA)) (callE 3 F_l_due (· ++ []) (consA (binE ixD (nameE 6) (constE (.int 0))) (consA (binE ixD (nameE 6) (constE (.int 1))) (consA (nameE 2) nilA)))))))))))))))))))))
noncomputable def F_law : FM := runD 13 m_law
theorem s_l_refused_1_eq (a : Addr) (d : Option Addr) (C : String) (ns : List String) (ds : List D) (sd : SD) (M : MS) (h : d = none → ns = []) : finS 3 (s_l_refused_1 a d (sd.set 3 (exSlot C ns ds a (d.getD 0))) M) = finS 3 (s_l_refused_1 0 (some 0) (sd.set 3 (exSlot C ns ds 0 0)) M) := by
  unfold s_l_refused_1
  exact (eqS_ret (eqE_bin (fun M => xf_set (i := 3) (f := "letter") (a := a) (C := C) (ds := ds) (sd := sd) (M := M) h) eqE_const))
structure Ad where
  f_l_pool : Addr
  d_l_pool : FuncData
  f_l_take : Addr
  d_l_take : FuncData
  f_l_letters : Addr
  d_l_letters : FuncData
  f_BadRuleD_initD : Addr
  d_BadRuleD_initD : FuncData
  f_RulesD_initD : Addr
  d_RulesD_initD : FuncData
  f_l_texts : Addr
  d_l_texts : FuncData
  f_RulesD_containsD : Addr
  d_RulesD_containsD : FuncData
  f_choices : Addr
  d_choices : FuncData
  f_rows_of_letters : Addr
  d_rows_of_letters : FuncData
  f_pairs_of_parts : Addr
  d_pairs_of_parts : FuncData
  f_form_count : Addr
  d_form_count : FuncData
  f_l_cell : Addr
  d_l_cell : FuncData
  f_l_choices : Addr
  d_l_choices : FuncData
  f_l_due : Addr
  d_l_due : FuncData
  f_l_refused : Addr
  d_l_refused : FuncData
  f_tree_form : Addr
  d_tree_form : FuncData
  f_different : Addr
  d_different : FuncData
  f_beginning : Addr
  d_beginning : FuncData
  f_ending : Addr
  d_ending : FuncData
  f_merged : Addr
  d_merged : FuncData
  f_band_form : Addr
  d_band_form : FuncData
  f_word_form : Addr
  d_word_form : FuncData
  f_plain : Addr
  d_plain : FuncData
  f_NoWayD_initD : Addr
  d_NoWayD_initD : FuncData
  f_expected : Addr
  d_expected : FuncData
  f_end_of : Addr
  d_end_of : FuncData
  f_WayD_initD : Addr
  d_WayD_initD : FuncData
  f_l_size : Addr
  d_l_size : FuncData
  f_law : Addr
  d_law : FuncData
  c_BadRule : Addr
  c_NoWay : Addr
  c_Rules : Addr
  c_Way : Addr
  c_WayError : Addr
structure Fx (K : PySem.W.Frag) (mg : Str → Option Value) (A : Ad) : Prop where
  n_bool : mg "bool" = none
  n_enumerate : mg "enumerate" = none
  n_int : mg "int" = none
  n_isinstance : mg "isinstance" = none
  n_len : mg "len" = none
  n_list : mg "list" = none
  n_min : mg "min" = none
  n_range : mg "range" = none
  n_reversed : mg "reversed" = none
  n_set : mg "set" = none
  n_sorted : mg "sorted" = none
  n_sum : mg "sum" = none
  s_LETTERS_rules : ∃ t, mg "LETTERS_rules" = some (.str (Str.ofString "ACIUZ") t)
  s_LETTERS_ways : ∃ t, mg "LETTERS_ways" = some (.str (Str.ofString "abcdefghijklmnopqrstuvwxyz") t)
  s_LONGEST_NAME : ∃ t, mg "LONGEST_NAME" = some (.int 6 t)
  F_l_pool : FnP K "_law_pool" "_law_pool" s_l_pool [] [] A.f_l_pool A.d_l_pool
  g_l_pool : mg "_law_pool" = some (.ref A.f_l_pool)
  F_l_take : FnP K "_law_take" "_law_take" s_l_take [] [] A.f_l_take A.d_l_take
  g_l_take : mg "_law_take" = some (.ref A.f_l_take)
  F_l_letters : FnP K "_law_letters" "_law_letters" s_l_letters [] [] A.f_l_letters A.d_l_letters
  g_l_letters : mg "_law_letters" = some (.ref A.f_l_letters)
  F_BadRuleD_initD : FnP K "__init__" "BadRule.__init__" s_BadRuleD_initD [] [] A.f_BadRuleD_initD A.d_BadRuleD_initD
  F_RulesD_initD : FnP K "__init__" "Rules.__init__" s_RulesD_initD [(.str (Str.ofString ""))] [] A.f_RulesD_initD A.d_RulesD_initD
  F_l_texts : FnP K "_law_texts" "_law_texts" s_l_texts [] [] A.f_l_texts A.d_l_texts
  g_l_texts : mg "_law_texts" = some (.ref A.f_l_texts)
  F_RulesD_containsD : FnP K "__contains__" "Rules.__contains__" s_RulesD_containsD [] [] A.f_RulesD_containsD A.d_RulesD_containsD
  F_choices : FnP K "choices" "choices" s_choices [] [] A.f_choices A.d_choices
  g_choices : mg "choices" = some (.ref A.f_choices)
  F_rows_of_letters : FnP K "rows_of_letters" "rows_of_letters" s_rows_of_letters [] [] A.f_rows_of_letters A.d_rows_of_letters
  g_rows_of_letters : mg "rows_of_letters" = some (.ref A.f_rows_of_letters)
  F_pairs_of_parts : FnP K "pairs_of_parts" "pairs_of_parts" s_pairs_of_parts [] [] A.f_pairs_of_parts A.d_pairs_of_parts
  g_pairs_of_parts : mg "pairs_of_parts" = some (.ref A.f_pairs_of_parts)
  F_form_count : FnP K "form_count" "form_count" s_form_count [] [] A.f_form_count A.d_form_count
  g_form_count : mg "form_count" = some (.ref A.f_form_count)
  F_l_cell : FnP K "_law_cell" "_law_cell" s_l_cell [] [] A.f_l_cell A.d_l_cell
  g_l_cell : mg "_law_cell" = some (.ref A.f_l_cell)
  F_l_choices : FnP K "_law_choices" "_law_choices" s_l_choices [] [] A.f_l_choices A.d_l_choices
  g_l_choices : mg "_law_choices" = some (.ref A.f_l_choices)
  F_l_due : FnP K "_law_due" "_law_due" s_l_due [] [] A.f_l_due A.d_l_due
  g_l_due : mg "_law_due" = some (.ref A.f_l_due)
  F_l_refused : FnP K "_law_refused" "_law_refused" s_l_refused [] [] A.f_l_refused A.d_l_refused
  g_l_refused : mg "_law_refused" = some (.ref A.f_l_refused)
  F_tree_form : FnP K "tree_form" "tree_form" s_tree_form [] [] A.f_tree_form A.d_tree_form
  g_tree_form : mg "tree_form" = some (.ref A.f_tree_form)
  F_different : FnP K "different" "different" s_different [] [] A.f_different A.d_different
  g_different : mg "different" = some (.ref A.f_different)
  F_beginning : FnP K "beginning" "beginning" s_beginning [] [] A.f_beginning A.d_beginning
  g_beginning : mg "beginning" = some (.ref A.f_beginning)
  F_ending : FnP K "ending" "ending" s_ending [] [] A.f_ending A.d_ending
  g_ending : mg "ending" = some (.ref A.f_ending)
  F_merged : FnP K "merged" "merged" s_merged [] [] A.f_merged A.d_merged
  g_merged : mg "merged" = some (.ref A.f_merged)
  F_band_form : FnP K "band_form" "band_form" s_band_form [] [] A.f_band_form A.d_band_form
  g_band_form : mg "band_form" = some (.ref A.f_band_form)
  F_word_form : FnP K "word_form" "word_form" s_word_form [] [] A.f_word_form A.d_word_form
  g_word_form : mg "word_form" = some (.ref A.f_word_form)
  F_plain : FnP K "plain" "plain" s_plain [] [] A.f_plain A.d_plain
  g_plain : mg "plain" = some (.ref A.f_plain)
  F_NoWayD_initD : FnP K "__init__" "NoWay.__init__" s_NoWayD_initD [] [] A.f_NoWayD_initD A.d_NoWayD_initD
  F_expected : FnP K "expected" "expected" s_expected [] [] A.f_expected A.d_expected
  g_expected : mg "expected" = some (.ref A.f_expected)
  F_end_of : FnP K "end_of" "end_of" s_end_of [] [] A.f_end_of A.d_end_of
  g_end_of : mg "end_of" = some (.ref A.f_end_of)
  F_WayD_initD : FnP K "__init__" "Way.__init__" s_WayD_initD [] [] A.f_WayD_initD A.d_WayD_initD
  F_l_size : FnP K "_law_size" "_law_size" s_l_size [] [] A.f_l_size A.d_l_size
  g_l_size : mg "_law_size" = some (.ref A.f_l_size)
  F_law : FnP K "law" "law" s_law [] [] A.f_law A.d_law
  g_law : mg "law" = some (.ref A.f_law)
  b_RulesD_initD_2 : DflK K mg A.d_RulesD_initD ["self", "letters"] []
  b_WayD_initD_2 : DflK K mg A.d_WayD_initD ["self", "text"] []
  b_l_cell_2 : DflK K mg A.d_l_cell ["_law_script", "_law_k"] []
  b_l_choices_2 : DflK K mg A.d_l_choices ["_law_things", "_law_many"] []
  b_l_due_3 : DflK K mg A.d_l_due ["_law_leaves", "_law_names", "_law_letters_here"] []
  b_l_letters_1 : DflK K mg A.d_l_letters ["_law_pool_here"] []
  b_l_pool_1 : DflK K mg A.d_l_pool ["_law_cell_here"] []
  b_l_refused_3 : DflK K mg A.d_l_refused ["_law_leaves", "_law_names", "_law_chosen"] []
  b_l_size_1 : DflK K mg A.d_l_size ["_law_text"] []
  b_l_take_2 : DflK K mg A.d_l_take ["_law_pool_here", "_law_limit"] []
  b_l_texts_2 : DflK K mg A.d_l_texts ["_law_leaves", "_law_letters_here"] []
  b_band_form_1 : DflK K mg A.d_band_form ["word"] []
  b_beginning_1 : DflK K mg A.d_beginning ["word"] []
  b_choices_2 : DflK K mg A.d_choices ["things", "many"] []
  b_different_1 : DflK K mg A.d_different ["word"] []
  b_end_of_2 : DflK K mg A.d_end_of ["text", "at"] []
  b_ending_1 : DflK K mg A.d_ending ["word"] []
  b_expected_3 : DflK K mg A.d_expected ["text", "at", "sign"] []
  b_merged_2 : DflK K mg A.d_merged ["left", "right"] []
  b_pairs_of_parts_3 : DflK K mg A.d_pairs_of_parts ["counts", "leaves", "rules"] []
  b_rows_of_letters_3 : DflK K mg A.d_rows_of_letters ["leaves", "letters", "rules"] []
  b_tree_form_2 : DflK K mg A.d_tree_form ["way", "rules"] []
  b_word_form_2 : DflK K mg A.d_word_form ["word", "rules"] []
  k_form_count_2_rules : KwBK K mg A.d_form_count ["leaves", "names", "rules"] 2 ["rules"] (· ++ ·)
  k_plain_1_rules : KwBK K mg A.d_plain ["way", "rules"] 1 ["rules"] (· ++ ·)
  bd_BadRuleD_initD : Binds K A.d_BadRuleD_initD ["self", "letter"] []
  bd_NoWayD_initD : Binds K A.d_NoWayD_initD ["self", "at"] []
  bd_RulesD_containsD : Binds K A.d_RulesD_containsD ["self", "letter"] []
  g_BadRule : mg "BadRule" = some (.ref A.c_BadRule)
  g_NoWay : mg "NoWay" = some (.ref A.c_NoWay)
  g_Rules : mg "Rules" = some (.ref A.c_Rules)
  g_Way : mg "Way" = some (.ref A.c_Way)
  g_WayError : mg "WayError" = some (.ref A.c_WayError)
  ci_Rules : CInfo K mg "Rules" A.c_Rules ["letters"]
  ci_Way : CInfo K mg "Way" A.c_Way ["leaves", "left", "name", "right", "text"]
  mk_Rules : Mk K A.c_Rules A.f_RulesD_initD
  mk_Way : Mk K A.c_Way A.f_WayD_initD
  m_RulesD_containsD : Meth K A.c_Rules "__contains__" A.f_RulesD_containsD
  fs_Rules__letters : ∀ C, C ∈ ["Rules"] → ∃ c fs, CInfo K mg C c fs ∧ "letters" ∈ fs
  fs_Way__leaves : ∀ C, C ∈ ["Way"] → ∃ c fs, CInfo K mg C c fs ∧ "leaves" ∈ fs
  fs_Way__left : ∀ C, C ∈ ["Way"] → ∃ c fs, CInfo K mg C c fs ∧ "left" ∈ fs
  fs_Way__name : ∀ C, C ∈ ["Way"] → ∃ c fs, CInfo K mg C c fs ∧ "name" ∈ fs
  fs_Way__right : ∀ C, C ∈ ["Way"] → ∃ c fs, CInfo K mg C c fs ∧ "right" ∈ fs
  fs_Way__text : ∀ C, C ∈ ["Way"] → ∃ c fs, CInfo K mg C c fs ∧ "text" ∈ fs
  bx_WayError : BaseX K A.c_WayError
  ex_BadRule : ExC K mg "BadRule" A.c_BadRule A.f_BadRuleD_initD ["letter"]
  ex_NoWay : ExC K mg "NoWay" A.c_NoWay A.f_NoWayD_initD ["at"]
  xm_BadRule : ExM K mg (.ref A.c_BadRule) exm_BadRule
  xf_BadRule_letter : XfT K mg exm_BadRule "letter"
section
variable {P : Program} {w : World} {K : PySem.W.Frag} {mg : Str → Option Value} {base : Heap} {A : Ad}
theorem sc_l_pool : FnScope ["_law_cell_here"] ["_law_cell_here"] (defScope s_l_pool) := ⟨rfl, rfl, rfl, by decide +kernel, rfl, by decide +kernel, by decide +kernel⟩
theorem ok_l_pool (T : Fx K mg A) : DOk P w K mg base 1 A.f_l_pool A.d_l_pool ["_law_cell_here"] F_l_pool := by
  have S := sc_l_pool
  refine funD_ok (st := s_l_pool) (N := ["_law_cell_here"]) (ps := ["_law_cell_here"]) (k := 0) (body := m_l_pool) T.F_l_pool S ?_
  intro cdv B outer s H E hr cx
  exact (dss_one (ds_ret (de_cel (da_cons (de_name 0) (da_cons de_int (da_cons (de_cmp opS_ge (de_name 0) (de_op opS_pow de_int de_int)) da_nil))))))
theorem sc_l_take : FnScope ["_law_pool_here", "_law_limit", "_law_drawn", "_law_mixed"] ["_law_pool_here", "_law_limit"] (defScope s_l_take) := ⟨rfl, rfl, rfl, by decide +kernel, rfl, by decide +kernel, by decide +kernel⟩
theorem ok_l_take (T : Fx K mg A) : DOk P w K mg base 1 A.f_l_take A.d_l_take ["_law_pool_here", "_law_limit"] F_l_take := by
  have S := sc_l_take
  refine funD_ok (st := s_l_take) (N := ["_law_pool_here", "_law_limit", "_law_drawn", "_law_mixed"]) (ps := ["_law_pool_here", "_law_limit"]) (k := 0) (body := m_l_take) T.F_l_take S ?_
  intro cdv B outer s H E hr cx
  exact (dss_cons (ds_put (de_name 0) de_int (de_op opS_add (de_ix ixS_any (de_name 0) de_int) de_int))
    (dss_cons (ds_if (dt_tru (de_ix ixS_any (de_name 0) de_int)) (dss_cons (ds_set (i := 2) (de_op opS_mod (de_callTy callS_int rfl T.n_int boot_int (da_cons (de_ix ixS_any (de_name 0) de_int) da_nil)) (de_name 1)) S.nd)
    (dss_cons (ds_put (de_name 0) de_int (de_op opS_fdivW (de_callTy callS_int rfl T.n_int boot_int (da_cons (de_ix ixS_any (de_name 0) de_int) da_nil)) (de_name 1)))
    (dss_one (ds_ret (de_name 2))))) dss_nil)
    (dss_cons (ds_set (i := 3) (de_op opS_mod (de_callTy callS_int rfl T.n_int boot_int (da_cons (de_op opS_add (de_op opS_add (de_op opS_mul (de_ix ixS_any (de_name 0) de_int) de_int) (de_op opS_mul (de_ix ixS_any (de_name 0) de_int) de_int)) de_int) da_nil)) de_int) S.nd)
    (dss_one (ds_ret (de_op opS_mod (de_op opS_fdivW (de_callTy callS_int rfl T.n_int boot_int (da_cons (de_op opS_mod (de_op opS_pow (de_name 3) de_int) de_int) da_nil)) de_int) (de_name 1)))))))
theorem sc_l_letters : FnScope ["_law_pool_here", "_law_mask", "_law_k"] ["_law_pool_here"] (defScope s_l_letters) := ⟨rfl, rfl, rfl, by decide +kernel, rfl, by decide +kernel, by decide +kernel⟩
theorem ok_l_letters (T : Fx K mg A) : DOk P w K mg base 2 A.f_l_letters A.d_l_letters ["_law_pool_here"] F_l_letters := by
  have S := sc_l_letters
  refine funD_ok (st := s_l_letters) (N := ["_law_pool_here", "_law_mask", "_law_k"]) (ps := ["_law_pool_here"]) (k := 1) (body := m_l_letters) T.F_l_letters S ?_
  intro cdv B outer s H E hr cx
  exact (dss_cons (ds_set (i := 1) (de_call (x := "_law_take") (ps := ["_law_pool_here", "_law_limit"]) (ok_l_take T) (hr.mono (by omega)) cx.tk rfl T.g_l_take T.F_l_take.kp ⟨T.b_l_take_2⟩ (da_cons (de_name 0) (da_cons de_int da_nil))) S.nd)
    (dss_one (ds_ret (de_bm mtS_join F.plainAttrs_str F.slot_str_join F.type_str_join (de_str (s := "")) (da_cons (de_lc (own := [("_law_k", 2)]) cx.calm S.nd (by exact (di_range1 rfl T.n_range (da_cons de_int da_nil))) (blkOk_by (by first | kernel_rfl | decide +kernel)) (by decide) (fun _ _ _ _ _ => (dg_name S.nd)) (fun _ _ _ _ _ => by exact (dts_one (dt_cmp (opS_eq hr.units) (de_op opS_mod (de_op opS_fdiv (de_name 1) (de_ix ixS_any (de_lst (da_cons de_int (da_cons de_int (da_cons de_int (da_cons de_int (da_cons de_int da_nil)))))) (de_name 2))) de_int) de_int))) (fun _ _ _ _ _ => by exact (de_ix ixS_any (de_str (s := "ACIUZ")) (de_name 2)))) da_nil)))))
theorem sc_BadRuleD_initD : FnScope ["self", "letter"] ["self", "letter"] (defScope s_BadRuleD_initD) := ⟨rfl, rfl, rfl, by decide +kernel, rfl, by decide +kernel, by decide +kernel⟩
theorem ok_BadRuleD_initD (T : Fx K mg A) : FnOk P w K mg base (L2.CX P w) 1 A.f_BadRuleD_initD A.d_BadRuleD_initD ["self", "letter"] (spI1 K A.c_BadRule (Str.ofString "letter")) := init1_ok T.F_BadRuleD_initD sc_BadRuleD_initD T.g_WayError T.bx_WayError
theorem sc_RulesD_initD : FnScope ["self", "letters", "letter"] ["self", "letters"] (defScope s_RulesD_initD) := ⟨rfl, rfl, rfl, by decide +kernel, rfl, by decide +kernel, by decide +kernel⟩
theorem ok_RulesD_initD (T : Fx K mg A) : DOk P w K mg base 1 A.f_RulesD_initD A.d_RulesD_initD ["self", "letters"] F_RulesD_initD := by
  have S := sc_RulesD_initD
  refine funD_ok (st := s_RulesD_initD) (N := ["self", "letters", "letter"]) (ps := ["self", "letters"]) (k := 0) (body := m_RulesD_initD) T.F_RulesD_initD S ?_
  intro cdv B outer s H E hr cx
  exact (dss_cons (ds_for cx (di_any (de_name 1)) (dg_name S.nd) (dss_one (ds_if (dt_cmp (opS_notIn (room65 hr)) (de_name 2) (de_gstr' T.s_LETTERS_rules rfl)) (dss_one ds_never) dss_nil)))
    (dss_one (ds_fld (cs := ["Rules"]) (f := "letters") T.fs_Rules__letters (de_name 0) (de_bm mtS_join F.plainAttrs_str F.slot_str_join F.type_str_join (de_str (s := "")) (da_cons (de_lc (own := [("letter", 2)]) cx.calm S.nd (di_any (de_gstr' T.s_LETTERS_rules rfl)) (blkOk_by (by first | kernel_rfl | decide +kernel)) (by decide) (fun _ _ _ _ _ => (dg_name S.nd)) (fun _ _ _ _ _ => by exact (dts_one (dt_cmp (opS_in (room65 hr)) (de_name 2) (de_name 1)))) (fun _ _ _ _ _ => by exact (de_name 2))) da_nil)) rfl)))
theorem sc_l_texts : FnScope ["_law_leaves", "_law_letters_here", "_law_rows", "_law_first", "_law_left", "_law_right"] ["_law_leaves", "_law_letters_here"] (defScope s_l_texts) := ⟨rfl, rfl, rfl, by decide +kernel, rfl, by decide +kernel, by decide +kernel⟩
theorem ok_l_texts_r (T : Fx K mg A) : ∀ d : Nat, DOk P w K mg base (0 + 1 * d) A.f_l_texts A.d_l_texts ["_law_leaves", "_law_letters_here"] (R_l_texts d)
  | 0 => dok_stuck
  | d + 1 => by
    have ih : DOk P w K mg base (0 + 1 * d) A.f_l_texts A.d_l_texts ["_law_leaves", "_law_letters_here"] (R_l_texts d) := ok_l_texts_r T d
    have S := sc_l_texts
    refine FnOk.mono (j := 0 + 1 * d + 0 + 1) (funD_ok (st := s_l_texts) (N := ["_law_leaves", "_law_letters_here", "_law_rows", "_law_first", "_law_left", "_law_right"]) (ps := ["_law_leaves", "_law_letters_here"]) (k := 0 + 1 * d + 0) (body := m_l_texts (R_l_texts d)) T.F_l_texts S ?_) (by omega)
    intro cdv B outer s H E hr cx
    exact (dss_cons (ds_if (dt_cmp (opS_eq hr.units) (de_name 0) de_int) (dss_one (ds_ret (de_callTy callS_list rfl T.n_list boot_list (da_cons (de_name 1) da_nil)))) dss_nil)
      (dss_cons (ds_set (i := 2) (de_lst da_nil) S.nd)
      (dss_cons (ds_for cx (di_range2 rfl T.n_range (da_cons de_int (da_cons (de_name 0) da_nil))) (dg_name S.nd) (dss_one (ds_for cx (di_any (de_call (x := "_law_texts") (ps := ["_law_leaves", "_law_letters_here"]) (ih) (hr.mono (by omega)) cx.tk rfl T.g_l_texts T.F_l_texts.kp ⟨T.b_l_texts_2⟩ (da_cons (de_name 3) (da_cons (de_name 1) da_nil)))) (dg_name S.nd) (dss_one (ds_set (i := 2) (de_op opS_add (de_name 2) (de_lc (own := [("_law_right", 5)]) cx.calm S.nd (di_any (de_call (x := "_law_texts") (ps := ["_law_leaves", "_law_letters_here"]) (ih) (hr.mono (by omega)) cx.tk rfl T.g_l_texts T.F_l_texts.kp ⟨T.b_l_texts_2⟩ (da_cons (de_op opS_sub (de_name 0) (de_name 3)) (da_cons (de_name 1) da_nil)))) (blkOk_by (by first | kernel_rfl | decide +kernel)) (by decide) (fun _ _ _ _ _ => (dg_name S.nd)) (fun _ _ _ _ _ => by exact dts_nil) (fun _ _ _ _ _ => by exact (de_op opS_add (de_op opS_add (de_op opS_add (de_op opS_add (de_str (s := "(")) (de_name 4)) (de_str (s := " "))) (de_name 5)) (de_str (s := ")")))))) S.nd)))))
      (dss_one (ds_ret (de_name 2))))))
theorem ok_l_texts (T : Fx K mg A) : DOk P w K mg base 30 A.f_l_texts A.d_l_texts ["_law_leaves", "_law_letters_here"] F_l_texts := ok_l_texts_r T 30
theorem sc_RulesD_containsD : FnScope ["self", "letter"] ["self", "letter"] (defScope s_RulesD_containsD) := ⟨rfl, rfl, rfl, by decide +kernel, rfl, by decide +kernel, by decide +kernel⟩
theorem ok_RulesD_containsD (T : Fx K mg A) : DOk P w K mg base 1 A.f_RulesD_containsD A.d_RulesD_containsD ["self", "letter"] F_RulesD_containsD := by
  have S := sc_RulesD_containsD
  refine funD_ok (st := s_RulesD_containsD) (N := ["self", "letter"]) (ps := ["self", "letter"]) (k := 0) (body := m_RulesD_containsD) T.F_RulesD_containsD S ?_
  intro cdv B outer s H E hr cx
  exact (dss_one (ds_ret (de_and (de_cmp (opS_eq hr.units) (de_callB callS_len rfl T.n_len boot_len (da_cons (de_name 1) da_nil)) de_int) (de_one (de_cmp (opS_in (room65 hr)) (de_name 1) (de_fld (cs := ["Rules"]) (f := "letters") (T.fs_Rules__letters) (de_name 0)))))))
theorem sc_choices : FnScope ["things", "many", "result", "k"] ["things", "many"] (defScope s_choices) := ⟨rfl, rfl, rfl, by decide +kernel, rfl, by decide +kernel, by decide +kernel⟩
theorem ok_choices (T : Fx K mg A) : DOk P w K mg base 1 A.f_choices A.d_choices ["things", "many"] F_choices := by
  have S := sc_choices
  refine funD_ok (st := s_choices) (N := ["things", "many", "result", "k"]) (ps := ["things", "many"]) (k := 0) (body := m_choices) T.F_choices S ?_
  intro cdv B outer s H E hr cx
  exact (dss_cons (ds_set (i := 2) de_int S.nd)
    (dss_cons (ds_for cx (di_range1 rfl T.n_range (da_cons (de_name 1) da_nil)) (dg_name S.nd) (dss_one (ds_set (i := 2) (de_op opS_fdiv (de_op opS_mulW (de_name 2) (de_op opS_sub (de_name 0) (de_name 3))) (de_op opS_add (de_name 3) de_int)) S.nd)))
    (dss_one (ds_ret (de_name 2)))))
theorem sc_rows_of_letters : FnScope ["leaves", "letters", "rules", "result", "count"] ["leaves", "letters", "rules"] (defScope s_rows_of_letters) := ⟨rfl, rfl, rfl, by decide +kernel, rfl, by decide +kernel, by decide +kernel⟩
theorem ok_rows_of_letters (T : Fx K mg A) : DOk P w K mg base 2 A.f_rows_of_letters A.d_rows_of_letters ["leaves", "letters", "rules"] F_rows_of_letters := by
  have S := sc_rows_of_letters
  refine funD_ok (st := s_rows_of_letters) (N := ["leaves", "letters", "rules", "result", "count"]) (ps := ["leaves", "letters", "rules"]) (k := 1) (body := m_rows_of_letters) T.F_rows_of_letters S ?_
  intro cdv B outer s H E hr cx
  exact (dss_cons (ds_if (dt_cmp (opS_inO (C := "Rules") true T.g_Rules T.m_RulesD_containsD.at_ T.m_RulesD_containsD.fn T.bd_RulesD_containsD (ok_RulesD_containsD T) (hr.mono (by omega))) (de_str (s := "C")) (de_name 2)) (dss_cons (ds_set (i := 3) de_int S.nd)
    (dss_cons (ds_for cx (di_range1 rfl T.n_range (da_cons (de_name 0) da_nil)) (dg_name S.nd) (dss_one (ds_set (i := 3) (de_op opS_mulW (de_name 3) (de_name 1)) S.nd)))
    (dss_one (ds_ret (de_name 3))))) dss_nil)
    (dss_cons (ds_if (dt_cmp (opS_inO (C := "Rules") false T.g_Rules T.m_RulesD_containsD.at_ T.m_RulesD_containsD.fn T.bd_RulesD_containsD (ok_RulesD_containsD T) (hr.mono (by omega))) (de_str (s := "I")) (de_name 2)) (dss_cons (ds_if (dt_cmp opS_gt (de_name 0) (de_name 1)) (dss_one (ds_ret de_int)) dss_nil)
    (dss_one (ds_ret (de_call (x := "choices") (ps := ["things", "many"]) (ok_choices T) (hr.mono (by omega)) cx.tk rfl T.g_choices T.F_choices.kp ⟨T.b_choices_2⟩ (da_cons (de_name 1) (da_cons (de_name 0) da_nil)))))) dss_nil)
    (dss_one (ds_ret (de_call (x := "choices") (ps := ["things", "many"]) (ok_choices T) (hr.mono (by omega)) cx.tk rfl T.g_choices T.F_choices.kp ⟨T.b_choices_2⟩ (da_cons (de_op opS_sub (de_op opS_add (de_name 1) (de_name 0)) de_int) (da_cons (de_name 0) da_nil)))))))
theorem sc_pairs_of_parts : FnScope ["counts", "leaves", "rules", "total", "i", "middle"] ["counts", "leaves", "rules"] (defScope s_pairs_of_parts) := ⟨rfl, rfl, rfl, by decide +kernel, rfl, by decide +kernel, by decide +kernel⟩
theorem ok_pairs_of_parts (T : Fx K mg A) : DOk P w K mg base 2 A.f_pairs_of_parts A.d_pairs_of_parts ["counts", "leaves", "rules"] F_pairs_of_parts := by
  have S := sc_pairs_of_parts
  refine funD_ok (st := s_pairs_of_parts) (N := ["counts", "leaves", "rules", "total", "i", "middle"]) (ps := ["counts", "leaves", "rules"]) (k := 1) (body := m_pairs_of_parts) T.F_pairs_of_parts S ?_
  intro cdv B outer s H E hr cx
  exact (dss_cons (ds_set (i := 3) de_int S.nd)
    (dss_cons (ds_for cx (di_range2 rfl T.n_range (da_cons de_int (da_cons (de_name 1) da_nil))) (dg_name S.nd) (dss_one (ds_if (DW.dt (dw_or (dt_cmp (opS_inO (C := "Rules") true T.g_Rules T.m_RulesD_containsD.at_ T.m_RulesD_containsD.fn T.bd_RulesD_containsD (ok_RulesD_containsD T) (hr.mono (by omega))) (de_str (s := "C")) (de_name 2)) (dw_or1 (dt_cmp opS_lt (de_op opS_mulW de_int (de_name 4)) (de_name 1))))) (dss_one (ds_aug (i := 3) iopS_addX (de_op opS_mulW (de_ix ixS_any (de_name 0) (de_name 4)) (de_ix ixS_any (de_name 0) (de_op opS_sub (de_name 1) (de_name 4)))) S.nd)) dss_nil)))
    (dss_cons (ds_if (dt_cmp (opS_eq hr.units) (de_op opS_mod (de_name 1) de_int) de_int) (dss_cons (ds_set (i := 5) (de_ix ixS_any (de_name 0) (de_op opS_fdiv (de_name 1) de_int)) S.nd)
    (dss_one (ds_if (DW.dt (dw_and (dt_cmp (opS_inO (C := "Rules") false T.g_Rules T.m_RulesD_containsD.at_ T.m_RulesD_containsD.fn T.bd_RulesD_containsD (ok_RulesD_containsD T) (hr.mono (by omega))) (de_str (s := "C")) (de_name 2)) (dw_and1 (dt_cmp (opS_inO (C := "Rules") false T.g_Rules T.m_RulesD_containsD.at_ T.m_RulesD_containsD.fn T.bd_RulesD_containsD (ok_RulesD_containsD T) (hr.mono (by omega))) (de_str (s := "I")) (de_name 2))))) (dss_one (ds_aug (i := 3) iopS_addX (de_op opS_fdiv (de_op opS_mulW (de_name 5) (de_op opS_sub (de_name 5) de_int)) de_int) S.nd)) (dss_one (ds_if (dt_cmp (opS_inO (C := "Rules") false T.g_Rules T.m_RulesD_containsD.at_ T.m_RulesD_containsD.fn T.bd_RulesD_containsD (ok_RulesD_containsD T) (hr.mono (by omega))) (de_str (s := "C")) (de_name 2)) (dss_one (ds_aug (i := 3) iopS_addX (de_op opS_fdiv (de_op opS_mulW (de_name 5) (de_op opS_add (de_name 5) de_int)) de_int) S.nd)) (dss_one (ds_if (dt_cmp (opS_inO (C := "Rules") false T.g_Rules T.m_RulesD_containsD.at_ T.m_RulesD_containsD.fn T.bd_RulesD_containsD (ok_RulesD_containsD T) (hr.mono (by omega))) (de_str (s := "I")) (de_name 2)) (dss_one (ds_aug (i := 3) iopS_subX (de_name 5) S.nd)) dss_nil))))))) dss_nil)
    (dss_one (ds_ret (de_name 3))))))
theorem sc_form_count : FnScope ["leaves", "names", "rules", "letters", "counts", "size"] ["leaves", "names", "rules"] (defScope s_form_count) := ⟨rfl, rfl, rfl, by decide +kernel, rfl, by decide +kernel, by decide +kernel⟩
theorem ok_form_count (T : Fx K mg A) : DOk P w K mg base 3 A.f_form_count A.d_form_count ["leaves", "names", "rules"] F_form_count := by
  have S := sc_form_count
  refine funD_ok (st := s_form_count) (N := ["leaves", "names", "rules", "letters", "counts", "size"]) (ps := ["leaves", "names", "rules"]) (k := 2) (body := m_form_count) T.F_form_count S ?_
  intro cdv B outer s H E hr cx
  exact (dss_cons (ds_if (DW.dt (dw_and (dt_cmp (opS_inO (C := "Rules") false T.g_Rules T.m_RulesD_containsD.at_ T.m_RulesD_containsD.fn T.bd_RulesD_containsD (ok_RulesD_containsD T) (hr.mono (by omega))) (de_str (s := "A")) (de_name 2)) (dw_and (dt_cmp (opS_inO (C := "Rules") false T.g_Rules T.m_RulesD_containsD.at_ T.m_RulesD_containsD.fn T.bd_RulesD_containsD (ok_RulesD_containsD T) (hr.mono (by omega))) (de_str (s := "I")) (de_name 2)) (dw_and1 (dt_cmp (opS_inO (C := "Rules") true T.g_Rules T.m_RulesD_containsD.at_ T.m_RulesD_containsD.fn T.bd_RulesD_containsD (ok_RulesD_containsD T) (hr.mono (by omega))) (de_str (s := "C")) (de_name 2)))))) (dss_one (ds_raise1 cx T.ex_BadRule (ok_BadRuleD_initD T) (hr.mono (by omega)) T.bd_BadRuleD_initD rfl (da_cons (de_str (s := "I")) da_nil))) dss_nil)
    (dss_cons (ds_if (dt_cmp (opS_eq hr.units) (de_name 0) de_int) (dss_one (ds_ret (de_op opS_add (de_name 1) de_int))) dss_nil)
    (dss_cons (ds_set (i := 3) (de_op opS_add (de_op opS_add (de_name 1) (de_callTy callS_int rfl T.n_int boot_int (da_cons (de_cmp (opS_inO (C := "Rules") true T.g_Rules T.m_RulesD_containsD.at_ T.m_RulesD_containsD.fn T.bd_RulesD_containsD (ok_RulesD_containsD T) (hr.mono (by omega))) (de_str (s := "U")) (de_name 2)) da_nil))) (de_callTy callS_int rfl T.n_int boot_int (da_cons (de_cmp (opS_inO (C := "Rules") true T.g_Rules T.m_RulesD_containsD.at_ T.m_RulesD_containsD.fn T.bd_RulesD_containsD (ok_RulesD_containsD T) (hr.mono (by omega))) (de_str (s := "Z")) (de_name 2)) da_nil))) S.nd)
    (dss_cons (ds_if (dt_cmp (opS_inO (C := "Rules") false T.g_Rules T.m_RulesD_containsD.at_ T.m_RulesD_containsD.fn T.bd_RulesD_containsD (ok_RulesD_containsD T) (hr.mono (by omega))) (de_str (s := "A")) (de_name 2)) (dss_one (ds_ret (de_call (x := "rows_of_letters") (ps := ["leaves", "letters", "rules"]) (ok_rows_of_letters T) (hr.mono (by omega)) cx.tk rfl T.g_rows_of_letters T.F_rows_of_letters.kp ⟨T.b_rows_of_letters_3⟩ (da_cons (de_name 0) (da_cons (de_name 3) (da_cons (de_name 2) da_nil)))))) dss_nil)
    (dss_cons (ds_set (i := 4) (de_cel (da_cons de_int (da_cons (de_name 3) da_nil))) S.nd)
    (dss_cons (ds_for cx (di_range2 rfl T.n_range (da_cons de_int (da_cons (de_op opS_add (de_name 0) de_int) da_nil))) (dg_name S.nd) (dss_one (ds_expr (de_bm mtS_append F.plainAttrs_list F.slot_list_append F.type_list_append (de_name 4) (da_cons (de_call (x := "pairs_of_parts") (ps := ["counts", "leaves", "rules"]) (ok_pairs_of_parts T) (hr.mono (by omega)) cx.tk rfl T.g_pairs_of_parts T.F_pairs_of_parts.kp ⟨T.b_pairs_of_parts_3⟩ (da_cons (de_name 4) (da_cons (de_name 5) (da_cons (de_name 2) da_nil)))) da_nil)))))
    (dss_one (ds_ret (de_ix ixS_any (de_name 4) (de_name 0))))))))))
theorem sc_l_cell : FnScope ["_law_script", "_law_k"] ["_law_script", "_law_k"] (defScope s_l_cell) := ⟨rfl, rfl, rfl, by decide +kernel, rfl, by decide +kernel, by decide +kernel⟩
theorem ok_l_cell (T : Fx K mg A) : DOk P w K mg base 1 A.f_l_cell A.d_l_cell ["_law_script", "_law_k"] F_l_cell := by
  have S := sc_l_cell
  refine funD_ok (st := s_l_cell) (N := ["_law_script", "_law_k"]) (ps := ["_law_script", "_law_k"]) (k := 0) (body := m_l_cell) T.F_l_cell S ?_
  intro cdv B outer s H E hr cx
  exact (dss_cons (ds_if (dt_cmp opS_lt (de_name 1) (de_callB callS_len rfl T.n_len boot_len (da_cons (de_name 0) da_nil))) (dss_one (ds_ret (de_ix ixS_any (de_name 0) (de_name 1)))) dss_nil)
    (dss_one (ds_ret de_int)))
theorem sc_l_choices : FnScope ["_law_things", "_law_many", "_law_top", "_law_below", "_law_k"] ["_law_things", "_law_many"] (defScope s_l_choices) := ⟨rfl, rfl, rfl, by decide +kernel, rfl, by decide +kernel, by decide +kernel⟩
theorem ok_l_choices (T : Fx K mg A) : DOk P w K mg base 1 A.f_l_choices A.d_l_choices ["_law_things", "_law_many"] F_l_choices := by
  have S := sc_l_choices
  refine funD_ok (st := s_l_choices) (N := ["_law_things", "_law_many", "_law_top", "_law_below", "_law_k"]) (ps := ["_law_things", "_law_many"]) (k := 0) (body := m_l_choices) T.F_l_choices S ?_
  intro cdv B outer s H E hr cx
  exact (dss_cons (ds_set (i := 2) de_int S.nd)
    (dss_cons (ds_set (i := 3) de_int S.nd)
    (dss_cons (ds_for cx (di_range1 rfl T.n_range (da_cons (de_name 1) da_nil)) (dg_name S.nd) (dss_cons (ds_set (i := 2) (de_op opS_mulW (de_name 2) (de_op opS_sub (de_name 0) (de_name 4))) S.nd)
    (dss_one (ds_set (i := 3) (de_op opS_mulW (de_name 3) (de_op opS_add (de_name 4) de_int)) S.nd))))
    (dss_one (ds_ret (de_op opS_fdivW (de_name 2) (de_name 3)))))))
theorem sc_l_due : FnScope ["_law_leaves", "_law_names", "_law_letters_here", "_law_parts", "_law_counts", "_law_size_here", "_law_pairs", "_law_equal", "_law_k"] ["_law_leaves", "_law_names", "_law_letters_here"] (defScope s_l_due) := ⟨rfl, rfl, rfl, by decide +kernel, rfl, by decide +kernel, by decide +kernel⟩
theorem ok_l_due (T : Fx K mg A) : DOk P w K mg base 2 A.f_l_due A.d_l_due ["_law_leaves", "_law_names", "_law_letters_here"] F_l_due := by
  have S := sc_l_due
  refine funD_ok (st := s_l_due) (N := ["_law_leaves", "_law_names", "_law_letters_here", "_law_parts", "_law_counts", "_law_size_here", "_law_pairs", "_law_equal", "_law_k"]) (ps := ["_law_leaves", "_law_names", "_law_letters_here"]) (k := 1) (body := m_l_due) T.F_l_due S ?_
  intro cdv B outer s H E hr cx
  exact (dss_cons (ds_if (dt_cmp (opS_eq hr.units) (de_name 0) de_int) (dss_one (ds_ret (de_op opS_add (de_name 1) de_int))) dss_nil)
    (dss_cons (ds_set (i := 3) (de_op opS_sub (de_op opS_sub (de_op opS_add (de_name 1) de_int) (de_callTy callS_int rfl T.n_int boot_int (da_cons (de_cmp (opS_in (room65 hr)) (de_str (s := "U")) (de_name 2)) da_nil))) (de_callTy callS_int rfl T.n_int boot_int (da_cons (de_cmp (opS_in (room65 hr)) (de_str (s := "Z")) (de_name 2)) da_nil))) S.nd)
    (dss_cons (ds_if (DW.dt (dw_and (dt_cmp (opS_in (room65 hr)) (de_str (s := "A")) (de_name 2)) (dw_and (dt_cmp (opS_in (room65 hr)) (de_str (s := "C")) (de_name 2)) (dw_and1 (dt_cmp (opS_in (room65 hr)) (de_str (s := "I")) (de_name 2)))))) (dss_one (ds_ret (de_op opS_mulW (de_call (x := "_law_choices") (ps := ["_law_things", "_law_many"]) (ok_l_choices T) (hr.mono (by omega)) cx.tk rfl T.g_l_choices T.F_l_choices.kp ⟨T.b_l_choices_2⟩ (da_cons (de_name 3) (da_cons (de_name 0) da_nil))) (de_callTy callS_int rfl T.n_int boot_int (da_cons (de_cmp opS_ge (de_name 3) (de_name 0)) da_nil))))) dss_nil)
    (dss_cons (ds_if (DW.dt (dw_and (dt_cmp (opS_in (room65 hr)) (de_str (s := "A")) (de_name 2)) (dw_and1 (dt_cmp (opS_in (room65 hr)) (de_str (s := "C")) (de_name 2))))) (dss_one (ds_ret (de_call (x := "_law_choices") (ps := ["_law_things", "_law_many"]) (ok_l_choices T) (hr.mono (by omega)) cx.tk rfl T.g_l_choices T.F_l_choices.kp ⟨T.b_l_choices_2⟩ (da_cons (de_op opS_sub (de_op opS_add (de_name 3) (de_name 0)) de_int) (da_cons (de_name 0) da_nil))))) dss_nil)
    (dss_cons (ds_set (i := 4) (de_cel (da_cons de_int (da_cons (de_name 3) da_nil))) S.nd)
    (dss_cons (ds_for cx (di_range2 rfl T.n_range (da_cons de_int (da_cons (de_op opS_add (de_name 0) de_int) da_nil))) (dg_name S.nd) (dss_cons (ds_set (i := 6) (de_callB (callS_sum cx.calm) rfl T.n_sum boot_sum (da_cons (de_lc (own := [("_law_k", 8)]) cx.calm S.nd (by exact (di_range2 rfl T.n_range (da_cons de_int (da_cons (de_name 5) da_nil)))) (blkOk_by (by first | kernel_rfl | decide +kernel)) (by decide) (fun _ _ _ _ _ => (dg_name S.nd)) (fun _ _ _ _ _ => by exact dts_nil) (fun _ _ _ _ _ => by exact (de_op opS_mulW (de_ix ixS_any (de_name 4) (de_name 8)) (de_ix ixS_any (de_name 4) (de_op opS_sub (de_name 5) (de_name 8)))))) da_nil)) S.nd)
    (dss_cons (ds_set (i := 7) de_int S.nd)
    (dss_cons (ds_if (dt_cmp (opS_eq hr.units) (de_op opS_mod (de_name 5) de_int) de_int) (dss_one (ds_set (i := 7) (de_ix ixS_any (de_name 4) (de_op opS_fdiv (de_name 5) de_int)) S.nd)) dss_nil)
    (dss_cons (ds_if (dt_cmp (opS_in (room65 hr)) (de_str (s := "A")) (de_name 2)) (dss_one (ds_set (i := 6) (de_op opS_mulW (de_name 3) (de_ix ixS_any (de_name 4) (de_op opS_sub (de_name 5) de_int))) S.nd)) (dss_one (ds_if (dt_cmp (opS_in (room65 hr)) (de_str (s := "C")) (de_name 2)) (dss_one (ds_set (i := 6) (de_op opS_sub (de_op opS_fdiv (de_op opS_add (de_name 6) (de_name 7)) de_int) (de_op opS_mulW (de_name 7) (de_callTy callS_int rfl T.n_int boot_int (da_cons (de_cmp (opS_in (room65 hr)) (de_str (s := "I")) (de_name 2)) da_nil)))) S.nd)) (dss_one (ds_if (dt_cmp (opS_in (room65 hr)) (de_str (s := "I")) (de_name 2)) (dss_one (ds_set (i := 6) (de_op opS_sub (de_name 6) (de_name 7)) S.nd)) dss_nil)))))
    (dss_one (ds_expr (de_bm mtS_append F.plainAttrs_list F.slot_list_append F.type_list_append (de_name 4) (da_cons (de_name 6) da_nil)))))))))
    (dss_one (ds_ret (de_ix ixS_any (de_name 4) (de_name 0))))))))))
theorem sc_l_refused : FnScope ["_law_leaves", "_law_names", "_law_chosen", "e"] ["_law_leaves", "_law_names", "_law_chosen"] (defScope s_l_refused) := ⟨rfl, rfl, rfl, by decide +kernel, rfl, by decide +kernel, by decide +kernel⟩
theorem ok_l_refused (T : Fx K mg A) : DOk P w K mg base 4 A.f_l_refused A.d_l_refused ["_law_leaves", "_law_names", "_law_chosen"] F_l_refused := by
  have S := sc_l_refused
  refine funD_ok (st := s_l_refused) (N := ["_law_leaves", "_law_names", "_law_chosen", "e"]) (ps := ["_law_leaves", "_law_names", "_law_chosen"]) (k := 3) (body := m_l_refused) T.F_l_refused S ?_
  intro cdv B outer s H E hr cx
  exact (dss_cons (ds_try_as (i := 3) (ms := s_l_refused_1) rfl rfl S.nd cx.tk ⟨rfl, by decide, .inl T.g_BadRule⟩ T.xm_BadRule (fun W' pn xe cx => (dss_one (ds_expr (de_callK (x := "form_count") (ps := ["leaves", "names", "rules"]) (np := 2) (ks := ["rules"]) (gD := (· ++ ·)) (ok_form_count T) (hr.mono (by omega)) cx.tk rfl T.g_form_count T.F_form_count.kp ⟨T.k_form_count_2_rules⟩ (da_cons (de_name 0) (da_cons (de_name 1) da_nil)) (dk_cons (de_name 2) dk_nil))))) (fun a oe cls d pn hz hv hcl => (dss_one (ds_ret (de_cmp (opS_eq hr.units) (de_xf (f := "letter") hz hv hcl T.xf_BadRule_letter (de_name 3)) (de_str (s := "I")))))) s_l_refused_1_eq cx.calm)
    (dss_one (ds_ret de_bl)))
theorem sc_tree_form : FnScope ["way", "rules", "first", "second"] ["way", "rules"] (defScope s_tree_form) := ⟨rfl, rfl, rfl, by decide +kernel, rfl, by decide +kernel, by decide +kernel⟩
theorem ok_tree_form_r (T : Fx K mg A) : ∀ d : Nat, DOk P w K mg base (1 + 1 * d) A.f_tree_form A.d_tree_form ["way", "rules"] (R_tree_form d)
  | 0 => dok_stuck
  | d + 1 => by
    have ih : DOk P w K mg base (1 + 1 * d) A.f_tree_form A.d_tree_form ["way", "rules"] (R_tree_form d) := ok_tree_form_r T d
    have S := sc_tree_form
    refine FnOk.mono (j := 1 + 1 * d + 0 + 1) (funD_ok (st := s_tree_form) (N := ["way", "rules", "first", "second"]) (ps := ["way", "rules"]) (k := 1 + 1 * d + 0) (body := m_tree_form (R_tree_form d)) T.F_tree_form S ?_) (by omega)
    intro cdv B outer s H E hr cx
    exact (dss_cons (ds_if (dt_cmp opS_isNF (de_fld (cs := ["Way"]) (f := "left") (T.fs_Way__left) (de_name 0)) de_non) (dss_one (ds_ret (de_fld (cs := ["Way"]) (f := "name") (T.fs_Way__name) (de_name 0)))) dss_nil)
      (dss_cons (ds_set (i := 2) (de_call (x := "tree_form") (ps := ["way", "rules"]) (ih) (hr.mono (by omega)) cx.tk rfl T.g_tree_form T.F_tree_form.kp ⟨T.b_tree_form_2⟩ (da_cons (de_fld (cs := ["Way"]) (f := "left") (T.fs_Way__left) (de_name 0)) (da_cons (de_name 1) da_nil))) S.nd)
      (dss_cons (ds_set (i := 3) (de_call (x := "tree_form") (ps := ["way", "rules"]) (ih) (hr.mono (by omega)) cx.tk rfl T.g_tree_form T.F_tree_form.kp ⟨T.b_tree_form_2⟩ (da_cons (de_fld (cs := ["Way"]) (f := "right") (T.fs_Way__right) (de_name 0)) (da_cons (de_name 1) da_nil))) S.nd)
      (dss_cons (ds_if (DW.dt (dw_and (dt_cmp (opS_inO (C := "Rules") false T.g_Rules T.m_RulesD_containsD.at_ T.m_RulesD_containsD.fn T.bd_RulesD_containsD (ok_RulesD_containsD T) (hr.mono (by omega))) (de_str (s := "Z")) (de_name 1)) (dw_and1 (DW.dt (dw_or (dt_cmp (opS_eq hr.units) (de_name 2) (de_str (s := "z"))) (dw_or1 (dt_cmp (opS_eq hr.units) (de_name 3) (de_str (s := "z"))))))))) (dss_one (ds_ret (de_str (s := "z")))) dss_nil)
      (dss_cons (ds_if (DW.dt (dw_and (dt_cmp (opS_inO (C := "Rules") false T.g_Rules T.m_RulesD_containsD.at_ T.m_RulesD_containsD.fn T.bd_RulesD_containsD (ok_RulesD_containsD T) (hr.mono (by omega))) (de_str (s := "U")) (de_name 1)) (dw_and1 (dt_cmp (opS_eq hr.units) (de_name 2) (de_str (s := "e")))))) (dss_one (ds_ret (de_name 3))) dss_nil)
      (dss_cons (ds_if (DW.dt (dw_and (dt_cmp (opS_inO (C := "Rules") false T.g_Rules T.m_RulesD_containsD.at_ T.m_RulesD_containsD.fn T.bd_RulesD_containsD (ok_RulesD_containsD T) (hr.mono (by omega))) (de_str (s := "U")) (de_name 1)) (dw_and1 (dt_cmp (opS_eq hr.units) (de_name 3) (de_str (s := "e")))))) (dss_one (ds_ret (de_name 2))) dss_nil)
      (dss_cons (ds_if (DW.dt (dw_and (dt_cmp (opS_inO (C := "Rules") false T.g_Rules T.m_RulesD_containsD.at_ T.m_RulesD_containsD.fn T.bd_RulesD_containsD (ok_RulesD_containsD T) (hr.mono (by omega))) (de_str (s := "I")) (de_name 1)) (dw_and1 (dt_cmp (opS_eq hr.units) (de_name 2) (de_name 3))))) (dss_one (ds_ret (de_name 2))) dss_nil)
      (dss_cons (ds_if (DW.dt (dw_and (dt_cmp (opS_inO (C := "Rules") false T.g_Rules T.m_RulesD_containsD.at_ T.m_RulesD_containsD.fn T.bd_RulesD_containsD (ok_RulesD_containsD T) (hr.mono (by omega))) (de_str (s := "C")) (de_name 1)) (dw_and1 (dt_cmp opS_lt (de_name 3) (de_name 2))))) (dss_one (ds_ret (de_fstr (DJ.cons (de_str (s := "(")) (DJ.cons (de_fmt (de_name 3)) (DJ.cons (de_str (s := " ")) (DJ.cons (de_fmt (de_name 2)) (DJ.cons (de_str (s := ")")) DJ.nil)))))))) dss_nil)
      (dss_one (ds_ret (de_fstr (DJ.cons (de_str (s := "(")) (DJ.cons (de_fmt (de_name 2)) (DJ.cons (de_str (s := " ")) (DJ.cons (de_fmt (de_name 3)) (DJ.cons (de_str (s := ")")) DJ.nil))))))))))))))))
theorem ok_tree_form (T : Fx K mg A) : DOk P w K mg base 31 A.f_tree_form A.d_tree_form ["way", "rules"] F_tree_form := ok_tree_form_r T 30
theorem sc_different : FnScope ["word"] ["word"] (defScope s_different) := ⟨rfl, rfl, rfl, by decide +kernel, rfl, by decide +kernel, by decide +kernel⟩
theorem ok_different (T : Fx K mg A) : DOk P w K mg base 1 A.f_different A.d_different ["word"] F_different := by
  have S := sc_different
  refine funD_ok (st := s_different) (N := ["word"]) (ps := ["word"]) (k := 0) (body := m_different) T.F_different S ?_
  intro cdv B outer s H E hr cx
  exact (dss_one (ds_ret (de_lenZ rfl T.n_len (dz_set cx.calm rfl T.n_set (de_name 0)))))
theorem sc_beginning : FnScope ["word", "many", "met", "at", "letter"] ["word"] (defScope s_beginning) := ⟨rfl, rfl, rfl, by decide +kernel, rfl, by decide +kernel, by decide +kernel⟩
theorem ok_beginning (T : Fx K mg A) : DOk P w K mg base 2 A.f_beginning A.d_beginning ["word"] F_beginning := by
  have S := sc_beginning
  refine DOk.close (funD_ok (st := s_beginning) (N := ["word", "many", "met", "at", "letter"]) (ps := ["word"]) (k := 1) (body := m_beginning) T.F_beginning S ?_)
  intro cdv B outer s H E hr cx
  exact (dss_cons (ds_set (i := 1) (de_call (x := "different") (ps := ["word"]) (ok_different T) (hr.mono (by omega)) cx.tk rfl T.g_different T.F_different.kp ⟨T.b_different_1⟩ (da_cons (de_name 0) da_nil)) S.nd)
    (dss_cons (ds_set (i := 2) de_dic S.nd)
    (dss_cons (ds_for cx (di_enumX rfl T.n_enumerate (de_name 0)) (dg_tup cx.calm (dgs_cons (dgs_cons dgs_nil S.nd) S.nd)) (dss_cons (ds_dput (Nat.lt_of_le_of_lt (Nat.add_le_add_left (by decide) _) (room65 hr)) (de_name 2) (de_name 4) de_bl)
    (dss_one (ds_if (dt_cmp (opS_eq hr.units) (de_callB callS_lenX rfl T.n_len boot_len (da_cons (de_name 2) da_nil)) (de_name 1)) (dss_one (ds_ret (de_tup (da_cons (de_callTy callS_list rfl T.n_list boot_list (da_cons (de_sl (de_name 0) do_none (do_some (de_name 3))) da_nil)) (da_cons (de_name 4) da_nil))))) dss_nil))))
    (dss_one (ds_ret (de_tup (da_cons (de_lst da_nil) (da_cons (de_str (s := "")) da_nil))))))))
theorem sc_ending : FnScope ["word", "p", "a"] ["word"] (defScope s_ending) := ⟨rfl, rfl, rfl, by decide +kernel, rfl, by decide +kernel, by decide +kernel⟩
theorem ok_ending (T : Fx K mg A) : DOk P w K mg base 3 A.f_ending A.d_ending ["word"] F_ending := by
  have S := sc_ending
  refine funD_ok (st := s_ending) (N := ["word", "p", "a"]) (ps := ["word"]) (k := 2) (body := m_ending) T.F_ending S ?_
  intro cdv B outer s H E hr cx
  exact (dss_cons (ds_unp (de_call (x := "beginning") (ps := ["word"]) (ok_beginning T) (hr.mono (by omega)) cx.tk rfl T.g_beginning T.F_beginning.kp ⟨T.b_beginning_1⟩ (da_cons (de_revA (de_name 0)) da_nil)) (dg_tup cx.calm (dgs_cons (dgs_cons dgs_nil S.nd) S.nd)))
    (dss_one (ds_ret (de_tup (da_cons (de_name 2) (da_cons (de_revA (de_name 1)) da_nil))))))
theorem sc_merged : FnScope ["left", "right", "k"] ["left", "right"] (defScope s_merged) := ⟨rfl, rfl, rfl, by decide +kernel, rfl, by decide +kernel, by decide +kernel⟩
theorem ok_merged (T : Fx K mg A) : DOk P w K mg base 1 A.f_merged A.d_merged ["left", "right"] F_merged := by
  have S := sc_merged
  refine funD_ok (st := s_merged) (N := ["left", "right", "k"]) (ps := ["left", "right"]) (k := 0) (body := m_merged) T.F_merged S ?_
  intro cdv B outer s H E hr cx
  exact (dss_cons (ds_for cx (di_rev1 rfl T.n_reversed rfl T.n_range (de_op opS_add (de_callB (callS_min2 cx.calm) rfl T.n_min boot_min (da_cons (de_callB callS_len rfl T.n_len boot_len (da_cons (de_name 0) da_nil)) (da_cons (de_callB callS_len rfl T.n_len boot_len (da_cons (de_name 1) da_nil)) da_nil))) de_int)) (dg_name S.nd) (dss_one (ds_if (dt_cmp (opS_eq hr.units) (de_sl (de_name 0) (do_some (de_op opS_sub (de_callB callS_len rfl T.n_len boot_len (da_cons (de_name 0) da_nil)) (de_name 2))) do_none) (de_sl (de_name 1) do_none (do_some (de_name 2)))) (dss_one (ds_ret (de_op opS_add (de_name 0) (de_sl (de_name 1) (do_some (de_name 2)) do_none)))) dss_nil)))
    (dss_one (ds_ret (de_op opS_add (de_name 0) (de_name 1)))))
theorem sc_band_form : FnScope ["word", "p", "a", "b", "s"] ["word"] (defScope s_band_form) := ⟨rfl, rfl, rfl, by decide +kernel, rfl, by decide +kernel, by decide +kernel⟩
theorem ok_band_form_r (T : Fx K mg A) : ∀ d : Nat, DOk P w K mg base (3 + 1 * d) A.f_band_form A.d_band_form ["word"] (R_band_form d)
  | 0 => dok_stuck
  | d + 1 => by
    have ih : DOk P w K mg base (3 + 1 * d) A.f_band_form A.d_band_form ["word"] (R_band_form d) := ok_band_form_r T d
    have S := sc_band_form
    refine FnOk.mono (j := 3 + 1 * d + 0 + 1) (funD_ok (st := s_band_form) (N := ["word", "p", "a", "b", "s"]) (ps := ["word"]) (k := 3 + 1 * d + 0) (body := m_band_form (R_band_form d)) T.F_band_form S ?_) (by omega)
    intro cdv B outer s H E hr cx
    exact (dss_cons (ds_if (dt_cmp (opS_eq hr.units) (de_call (x := "different") (ps := ["word"]) (ok_different T) (hr.mono (by omega)) cx.tk rfl T.g_different T.F_different.kp ⟨T.b_different_1⟩ (da_cons (de_name 0) da_nil)) de_int) (dss_one (ds_ret (de_lst (da_cons (de_ix ixS_any (de_name 0) de_int) da_nil)))) dss_nil)
      (dss_cons (ds_unp (de_call (x := "beginning") (ps := ["word"]) (ok_beginning T) (hr.mono (by omega)) cx.tk rfl T.g_beginning T.F_beginning.kp ⟨T.b_beginning_1⟩ (da_cons (de_name 0) da_nil)) (dg_tup cx.calm (dgs_cons (dgs_cons dgs_nil S.nd) S.nd)))
      (dss_cons (ds_unp (de_call (x := "ending") (ps := ["word"]) (ok_ending T) (hr.mono (by omega)) cx.tk rfl T.g_ending T.F_ending.kp ⟨T.b_ending_1⟩ (da_cons (de_name 0) da_nil)) (dg_tup cx.calm (dgs_cons (dgs_cons dgs_nil S.nd) S.nd)))
      (dss_one (ds_ret (de_call (x := "merged") (ps := ["left", "right"]) (ok_merged T) (hr.mono (by omega)) cx.tk rfl T.g_merged T.F_merged.kp ⟨T.b_merged_2⟩ (da_cons (de_op opS_add (de_call (x := "band_form") (ps := ["word"]) (ih) (hr.mono (by omega)) cx.tk rfl T.g_band_form T.F_band_form.kp ⟨T.b_band_form_1⟩ (da_cons (de_name 1) da_nil)) (de_lst (da_cons (de_name 2) da_nil))) (da_cons (de_op opS_add (de_lst (da_cons (de_name 3) da_nil)) (de_call (x := "band_form") (ps := ["word"]) (ih) (hr.mono (by omega)) cx.tk rfl T.g_band_form T.F_band_form.kp ⟨T.b_band_form_1⟩ (da_cons (de_name 4) da_nil))) da_nil))))))))
theorem ok_band_form (T : Fx K mg A) : DOk P w K mg base 33 A.f_band_form A.d_band_form ["word"] F_band_form := ok_band_form_r T 30
theorem sc_word_form : FnScope ["word", "rules", "leaf"] ["word", "rules"] (defScope s_word_form) := ⟨rfl, rfl, rfl, by decide +kernel, rfl, by decide +kernel, by decide +kernel⟩
theorem ok_word_form (T : Fx K mg A) : DOk P w K mg base 34 A.f_word_form A.d_word_form ["word", "rules"] F_word_form := by
  have S := sc_word_form
  refine funD_ok (st := s_word_form) (N := ["word", "rules", "leaf"]) (ps := ["word", "rules"]) (k := 33) (body := m_word_form) T.F_word_form S ?_
  intro cdv B outer s H E hr cx
  exact (dss_cons (ds_if (DW.dt (dw_and (dt_cmp (opS_inO (C := "Rules") false T.g_Rules T.m_RulesD_containsD.at_ T.m_RulesD_containsD.fn T.bd_RulesD_containsD (ok_RulesD_containsD T) (hr.mono (by omega))) (de_str (s := "Z")) (de_name 1)) (dw_and1 (dt_cmp (opS_in (room65 hr)) (de_str (s := "z")) (de_name 0))))) (dss_one (ds_ret (de_lst (da_cons (de_str (s := "z")) da_nil)))) dss_nil)
    (dss_cons (ds_if (dt_cmp (opS_inO (C := "Rules") false T.g_Rules T.m_RulesD_containsD.at_ T.m_RulesD_containsD.fn T.bd_RulesD_containsD (ok_RulesD_containsD T) (hr.mono (by omega))) (de_str (s := "U")) (de_name 1)) (dss_cons (ds_setLc (i := 0) (own := [("leaf", 2)]) cx.calm S.nd (di_any (de_name 0)) (blkOk_by (by first | kernel_rfl | decide +kernel)) (by decide) (fun _ _ _ _ _ => (dg_name S.nd)) (fun _ _ _ _ _ => by exact (dts_one (dt_cmp (opS_ne hr.units) (de_name 2) (de_str (s := "e"))))) (fun _ _ _ _ _ => by exact (de_name 2)) rfl rfl (sw_true rfl rfl rfl (by decide +kernel)))
    (dss_one (ds_if (dt_cmp (opS_eq hr.units) (de_name 0) (de_lst da_nil)) (dss_one (ds_ret (de_lst (da_cons (de_str (s := "e")) da_nil)))) dss_nil))) dss_nil)
    (dss_cons (ds_if (DW.dt (dw_and (dt_cmp (opS_inO (C := "Rules") false T.g_Rules T.m_RulesD_containsD.at_ T.m_RulesD_containsD.fn T.bd_RulesD_containsD (ok_RulesD_containsD T) (hr.mono (by omega))) (de_str (s := "C")) (de_name 1)) (dw_and1 (dt_cmp (opS_inO (C := "Rules") false T.g_Rules T.m_RulesD_containsD.at_ T.m_RulesD_containsD.fn T.bd_RulesD_containsD (ok_RulesD_containsD T) (hr.mono (by omega))) (de_str (s := "I")) (de_name 1))))) (dss_one (ds_ret (de_sortZ cx.calm rfl T.n_sorted (dz_set cx.calm rfl T.n_set (de_name 0))))) dss_nil)
    (dss_cons (ds_if (dt_cmp (opS_inO (C := "Rules") false T.g_Rules T.m_RulesD_containsD.at_ T.m_RulesD_containsD.fn T.bd_RulesD_containsD (ok_RulesD_containsD T) (hr.mono (by omega))) (de_str (s := "C")) (de_name 1)) (dss_one (ds_ret (de_callB callS_sortedS rfl T.n_sorted boot_sorted (da_cons (de_name 0) da_nil)))) dss_nil)
    (dss_cons (ds_if (dt_cmp (opS_inO (C := "Rules") false T.g_Rules T.m_RulesD_containsD.at_ T.m_RulesD_containsD.fn T.bd_RulesD_containsD (ok_RulesD_containsD T) (hr.mono (by omega))) (de_str (s := "I")) (de_name 1)) (dss_one (ds_ret (de_call (x := "band_form") (ps := ["word"]) (ok_band_form T) (hr.mono (by omega)) cx.tk rfl T.g_band_form T.F_band_form.kp ⟨T.b_band_form_1⟩ (da_cons (de_name 0) da_nil)))) dss_nil)
    (dss_one (ds_ret (de_name 0))))))))
theorem sc_plain : FnScope ["way", "rules"] ["way", "rules"] (defScope s_plain) := ⟨rfl, rfl, rfl, by decide +kernel, rfl, by decide +kernel, by decide +kernel⟩
theorem ok_plain (T : Fx K mg A) : DOk P w K mg base 35 A.f_plain A.d_plain ["way", "rules"] F_plain := by
  have S := sc_plain
  refine funD_ok (st := s_plain) (N := ["way", "rules"]) (ps := ["way", "rules"]) (k := 34) (body := m_plain) T.F_plain S ?_
  intro cdv B outer s H E hr cx
  exact (dss_cons (ds_if (dt_cmp (opS_inO (C := "Rules") false T.g_Rules T.m_RulesD_containsD.at_ T.m_RulesD_containsD.fn T.bd_RulesD_containsD (ok_RulesD_containsD T) (hr.mono (by omega))) (de_str (s := "A")) (de_name 1)) (dss_one (ds_ret (de_bm mtS_join F.plainAttrs_str F.slot_str_join F.type_str_join (de_str (s := " ")) (da_cons (de_call (x := "word_form") (ps := ["word", "rules"]) (ok_word_form T) (hr.mono (by omega)) cx.tk rfl T.g_word_form T.F_word_form.kp ⟨T.b_word_form_2⟩ (da_cons (de_callTy callS_list rfl T.n_list boot_list (da_cons (de_fld (cs := ["Way"]) (f := "leaves") (T.fs_Way__leaves) (de_name 0)) da_nil)) (da_cons (de_name 1) da_nil))) da_nil)))) dss_nil)
    (dss_one (ds_ret (de_call (x := "tree_form") (ps := ["way", "rules"]) (ok_tree_form T) (hr.mono (by omega)) cx.tk rfl T.g_tree_form T.F_tree_form.kp ⟨T.b_tree_form_2⟩ (da_cons (de_name 0) (da_cons (de_name 1) da_nil))))))
theorem sc_expected : FnScope ["text", "at", "sign"] ["text", "at", "sign"] (defScope s_expected) := ⟨rfl, rfl, rfl, by decide +kernel, rfl, by decide +kernel, by decide +kernel⟩
theorem ok_expected (T : Fx K mg A) : DOk P w K mg base 1 A.f_expected A.d_expected ["text", "at", "sign"] F_expected := by
  have S := sc_expected
  refine funD_ok (st := s_expected) (N := ["text", "at", "sign"]) (ps := ["text", "at", "sign"]) (k := 0) (body := m_expected) T.F_expected S ?_
  intro cdv B outer s H E hr cx
  exact (dss_one (ds_if (DW.dt (dw_or (dt_cmp (opS_eq hr.units) (de_name 1) (de_callB callS_len rfl T.n_len boot_len (da_cons (de_name 0) da_nil))) (dw_or1 (dt_cmp (opS_ne hr.units) (de_ix ixS_any (de_name 0) (de_name 1)) (de_name 2))))) (dss_one ds_never) dss_nil))
theorem sc_end_of : FnScope ["text", "at", "middle", "last", "many"] ["text", "at"] (defScope s_end_of) := ⟨rfl, rfl, rfl, by decide +kernel, rfl, by decide +kernel, by decide +kernel⟩
theorem ok_end_of_r (T : Fx K mg A) : ∀ d : Nat, DOk P w K mg base (1 + 1 * d) A.f_end_of A.d_end_of ["text", "at"] (R_end_of d)
  | 0 => dok_stuck
  | d + 1 => by
    have ih : DOk P w K mg base (1 + 1 * d) A.f_end_of A.d_end_of ["text", "at"] (R_end_of d) := ok_end_of_r T d
    have S := sc_end_of
    refine FnOk.mono (j := 1 + 1 * d + 0 + 1) (funD_ok (st := s_end_of) (N := ["text", "at", "middle", "last", "many"]) (ps := ["text", "at"]) (k := 1 + 1 * d + 0) (body := m_end_of (R_end_of d)) T.F_end_of S ?_) (by omega)
    intro cdv B outer s H E hr cx
    exact (dss_cons (ds_if (dt_cmp (opS_eq hr.units) (de_name 1) (de_callB callS_len rfl T.n_len boot_len (da_cons (de_name 0) da_nil))) (dss_one ds_never) dss_nil)
      (dss_cons (ds_if (dt_cmp (opS_eq hr.units) (de_ix ixS_any (de_name 0) (de_name 1)) (de_str (s := "("))) (dss_cons (ds_set (i := 2) (de_call (x := "end_of") (ps := ["text", "at"]) (ih) (hr.mono (by omega)) cx.tk rfl T.g_end_of T.F_end_of.kp ⟨T.b_end_of_2⟩ (da_cons (de_name 0) (da_cons (de_op opS_add (de_name 1) de_int) da_nil))) S.nd)
      (dss_cons (ds_expr (de_call (x := "expected") (ps := ["text", "at", "sign"]) (ok_expected T) (hr.mono (by omega)) cx.tk rfl T.g_expected T.F_expected.kp ⟨T.b_expected_3⟩ (da_cons (de_name 0) (da_cons (de_name 2) (da_cons (de_str (s := " ")) da_nil)))))
      (dss_cons (ds_set (i := 3) (de_call (x := "end_of") (ps := ["text", "at"]) (ih) (hr.mono (by omega)) cx.tk rfl T.g_end_of T.F_end_of.kp ⟨T.b_end_of_2⟩ (da_cons (de_name 0) (da_cons (de_op opS_add (de_name 2) de_int) da_nil))) S.nd)
      (dss_cons (ds_expr (de_call (x := "expected") (ps := ["text", "at", "sign"]) (ok_expected T) (hr.mono (by omega)) cx.tk rfl T.g_expected T.F_expected.kp ⟨T.b_expected_3⟩ (da_cons (de_name 0) (da_cons (de_name 3) (da_cons (de_str (s := ")")) da_nil)))))
      (dss_one (ds_ret (de_op opS_add (de_name 3) de_int))))))) dss_nil)
      (dss_cons (ds_set (i := 4) de_int S.nd)
      (dss_cons (ds_while (n := 1000) cx (DW.dt (dw_and (dt_cmp opS_lt (de_op opS_add (de_name 1) (de_name 4)) (de_callB callS_len rfl T.n_len boot_len (da_cons (de_name 0) da_nil))) (dw_and (dt_cmp (opS_in (room65 hr)) (de_ix ixS_any (de_name 0) (de_op opS_add (de_name 1) (de_name 4))) (de_gstr' T.s_LETTERS_ways rfl)) (dw_and1 (dt_cmp opS_lt (de_name 4) (de_gint' T.s_LONGEST_NAME rfl)))))) (dss_one (ds_aug (i := 4) iopS_addX de_int S.nd)))
      (dss_cons (ds_if (dt_cmp (opS_eq hr.units) (de_name 4) de_int) (dss_one ds_never) dss_nil)
      (dss_one (ds_ret (de_op opS_add (de_name 1) (de_name 4)))))))))
theorem ok_end_of (T : Fx K mg A) : DOk P w K mg base 31 A.f_end_of A.d_end_of ["text", "at"] F_end_of := ok_end_of_r T 30
theorem sc_WayD_initD : FnScope ["self", "text", "end", "middle"] ["self", "text"] (defScope s_WayD_initD) := ⟨rfl, rfl, rfl, by decide +kernel, rfl, by decide +kernel, by decide +kernel⟩
theorem ok_WayD_initD_r (T : Fx K mg A) : ∀ d : Nat, DOk P w K mg base (31 + 2 * d) A.f_WayD_initD A.d_WayD_initD ["self", "text"] (R_WayD_initD d)
  | 0 => dok_stuck
  | d + 1 => by
    have ih : DOk P w K mg base (31 + 2 * d) A.f_WayD_initD A.d_WayD_initD ["self", "text"] (R_WayD_initD d) := ok_WayD_initD_r T d
    have S := sc_WayD_initD
    refine FnOk.mono (j := 31 + 2 * d + 1 + 1) (funD_ok (st := s_WayD_initD) (N := ["self", "text", "end", "middle"]) (ps := ["self", "text"]) (k := 31 + 2 * d + 1) (body := m_WayD_initD (R_WayD_initD d)) T.F_WayD_initD S ?_) (by omega)
    intro cdv B outer s H E hr cx
    exact (dss_cons (ds_set (i := 2) (de_call (x := "end_of") (ps := ["text", "at"]) (ok_end_of T) (hr.mono (by omega)) cx.tk rfl T.g_end_of T.F_end_of.kp ⟨T.b_end_of_2⟩ (da_cons (de_name 1) (da_cons de_int da_nil))) S.nd)
      (dss_cons (ds_if (dt_cmp opS_lt (de_name 2) (de_callB callS_len rfl T.n_len boot_len (da_cons (de_name 1) da_nil))) (dss_one ds_never) dss_nil)
      (dss_cons (ds_fld (cs := ["Way"]) (f := "text") T.fs_Way__text (de_name 0) (de_name 1) rfl)
      (dss_cons (ds_fld (cs := ["Way"]) (f := "name") T.fs_Way__name (de_name 0) (de_str (s := "")) rfl)
      (dss_cons (ds_fld (cs := ["Way"]) (f := "left") T.fs_Way__left (de_name 0) de_non rfl)
      (dss_cons (ds_fld (cs := ["Way"]) (f := "right") T.fs_Way__right (de_name 0) de_non rfl)
      (dss_one (ds_if (dt_cmp (opS_eq hr.units) (de_ix ixS_any (de_name 1) de_int) (de_str (s := "("))) (dss_cons (ds_set (i := 3) (de_call (x := "end_of") (ps := ["text", "at"]) (ok_end_of T) (hr.mono (by omega)) cx.tk rfl T.g_end_of T.F_end_of.kp ⟨T.b_end_of_2⟩ (da_cons (de_name 1) (da_cons de_int da_nil))) S.nd)
      (dss_cons (ds_fld (cs := ["Way"]) (f := "left") T.fs_Way__left (de_name 0) (de_mk (C := "Way") (ps := ["self", "text"]) mkAs_T T.ci_Way T.mk_Way (ih) (hr.mono (by omega)) cx.tk rfl ⟨T.b_WayD_initD_2⟩ (da_cons (de_sl (de_name 1) (do_some de_int) (do_some (de_name 3))) da_nil)) rfl)
      (dss_cons (ds_fld (cs := ["Way"]) (f := "right") T.fs_Way__right (de_name 0) (de_mk (C := "Way") (ps := ["self", "text"]) mkAs_T T.ci_Way T.mk_Way (ih) (hr.mono (by omega)) cx.tk rfl ⟨T.b_WayD_initD_2⟩ (da_cons (de_sl (de_name 1) (do_some (de_op opS_add (de_name 3) de_int)) (do_some (de_un unS_neg de_int))) da_nil)) rfl)
      (dss_one (ds_fld (cs := ["Way"]) (f := "leaves") T.fs_Way__leaves (de_name 0) (de_op opS_add (de_fld (cs := ["Way"]) (f := "leaves") (T.fs_Way__leaves) (de_fld (cs := ["Way"]) (f := "left") (T.fs_Way__left) (de_name 0))) (de_fld (cs := ["Way"]) (f := "leaves") (T.fs_Way__leaves) (de_fld (cs := ["Way"]) (f := "right") (T.fs_Way__right) (de_name 0)))) rfl))))) (dss_cons (ds_fld (cs := ["Way"]) (f := "name") T.fs_Way__name (de_name 0) (de_name 1) rfl)
      (dss_one (ds_fld (cs := ["Way"]) (f := "leaves") T.fs_Way__leaves (de_name 0) (de_tup (da_cons (de_name 1) da_nil)) rfl)))))))))))
theorem ok_WayD_initD (T : Fx K mg A) : DOk P w K mg base 91 A.f_WayD_initD A.d_WayD_initD ["self", "text"] F_WayD_initD := ok_WayD_initD_r T 30
theorem sc_l_size : FnScope ["_law_text"] ["_law_text"] (defScope s_l_size) := ⟨rfl, rfl, rfl, by decide +kernel, rfl, by decide +kernel, by decide +kernel⟩
theorem ok_l_size (T : Fx K mg A) : DOk P w K mg base 1 A.f_l_size A.d_l_size ["_law_text"] F_l_size := by
  have S := sc_l_size
  refine funT_ok (st := s_l_size) (N := ["_law_text"]) (ps := ["_law_text"]) (k := 0) (body := m_l_size) T.F_l_size S (by decide +kernel) (by decide) ?_
  intro cdv B outer s H E hr cx
  exact (dss_consT (ds_retT (de_callBT callS_len rfl T.n_len boot_len (da_consT (de_bmT mtS_split F.plainAttrs_str F.slot_str_split F.type_str_split (de_repTT (a := ")") (b := "") (de_repT (a := "(") (b := "") (de_name 0))) (da_cons (de_str (s := " ")) da_nil)) da_nilT)))
    (DSs.t dss_nil))
theorem sc_law : FnScope ["_law_script", "_law_pool_here", "_law_letters_here", "_law_chosen", "_law_leaves", "_law_names", "_law_large", "_law_texts_here", "_law_found", "_law_due_here", "_law_told", "_law_small", "_law_text"] ["_law_script"] (defScope s_law) := ⟨rfl, rfl, rfl, by decide +kernel, rfl, by decide +kernel, by decide +kernel⟩
theorem ok_law (T : Fx K mg A) : DOk P w K mg base 93 A.f_law A.d_law ["_law_script"] F_law := by
  have S := sc_law
  refine funD_ok (st := s_law) (N := ["_law_script", "_law_pool_here", "_law_letters_here", "_law_chosen", "_law_leaves", "_law_names", "_law_large", "_law_texts_here", "_law_found", "_law_due_here", "_law_told", "_law_small", "_law_text"]) (ps := ["_law_script"]) (k := 92) (body := m_law) T.F_law S ?_
  intro cdv B outer s H E hr cx
  exact (dss_cons (ds_set (i := 1) (de_call (x := "_law_pool") (ps := ["_law_cell_here"]) (ok_l_pool T) (hr.mono (by omega)) cx.tk rfl T.g_l_pool T.F_l_pool.kp ⟨T.b_l_pool_1⟩ (da_cons (de_call (x := "_law_cell") (ps := ["_law_script", "_law_k"]) (ok_l_cell T) (hr.mono (by omega)) cx.tk rfl T.g_l_cell T.F_l_cell.kp ⟨T.b_l_cell_2⟩ (da_cons (de_name 0) (da_cons de_int da_nil))) da_nil)) S.nd)
    (dss_cons (ds_set (i := 2) (de_call (x := "_law_letters") (ps := ["_law_pool_here"]) (ok_l_letters T) (hr.mono (by omega)) cx.tk rfl T.g_l_letters T.F_l_letters.kp ⟨T.b_l_letters_1⟩ (da_cons (de_name 1) da_nil)) S.nd)
    (dss_cons (ds_set (i := 3) (de_mk (C := "Rules") (ps := ["self", "letters"]) mkAs_T T.ci_Rules T.mk_Rules (ok_RulesD_initD T) (hr.mono (by omega)) cx.tk rfl ⟨T.b_RulesD_initD_2⟩ (da_cons (de_name 2) da_nil)) S.nd)
    (dss_cons (ds_set (i := 4) (de_op opS_add de_int (de_call (x := "_law_take") (ps := ["_law_pool_here", "_law_limit"]) (ok_l_take T) (hr.mono (by omega)) cx.tk rfl T.g_l_take T.F_l_take.kp ⟨T.b_l_take_2⟩ (da_cons (de_name 1) (da_cons de_int da_nil)))) S.nd)
    (dss_cons (ds_set (i := 5) (de_call (x := "_law_take") (ps := ["_law_pool_here", "_law_limit"]) (ok_l_take T) (hr.mono (by omega)) cx.tk rfl T.g_l_take T.F_l_take.kp ⟨T.b_l_take_2⟩ (da_cons (de_name 1) (da_cons de_int da_nil))) S.nd)
    (dss_cons (ds_if (dt_cmp (opS_eq hr.units) (de_call (x := "_law_take") (ps := ["_law_pool_here", "_law_limit"]) (ok_l_take T) (hr.mono (by omega)) cx.tk rfl T.g_l_take T.F_l_take.kp ⟨T.b_l_take_2⟩ (da_cons (de_name 1) (da_cons de_int da_nil))) de_int) (dss_cons (ds_set (i := 4) de_int S.nd)
    (dss_one (ds_set (i := 5) (de_callB (callS_min2 cx.calm) rfl T.n_min boot_min (da_cons (de_name 5) (da_cons de_int da_nil))) S.nd))) dss_nil)
    (dss_cons (ds_set (i := 6) (de_lst (da_cons (de_op opS_add de_int (de_call (x := "_law_take") (ps := ["_law_pool_here", "_law_limit"]) (ok_l_take T) (hr.mono (by omega)) cx.tk rfl T.g_l_take T.F_l_take.kp ⟨T.b_l_take_2⟩ (da_cons (de_name 1) (da_cons de_int da_nil)))) (da_cons (de_call (x := "_law_take") (ps := ["_law_pool_here", "_law_limit"]) (ok_l_take T) (hr.mono (by omega)) cx.tk rfl T.g_l_take T.F_l_take.kp ⟨T.b_l_take_2⟩ (da_cons (de_name 1) (da_cons (de_op opS_pow de_int de_int) da_nil))) da_nil))) S.nd)
    (dss_cons (ds_if (DW.dt (dw_and (dt_cmp (opS_in (room65 hr)) (de_str (s := "A")) (de_name 2)) (dw_and (dt_cmp (opS_in (room65 hr)) (de_str (s := "I")) (de_name 2)) (dw_and1 (dt_cmp (opS_notIn (room65 hr)) (de_str (s := "C")) (de_name 2)))))) (dss_one (ds_ret (de_and (de_call (x := "_law_refused") (ps := ["_law_leaves", "_law_names", "_law_chosen"]) (ok_l_refused T) (hr.mono (by omega)) cx.tk rfl T.g_l_refused T.F_l_refused.kp ⟨T.b_l_refused_3⟩ (da_cons (de_name 4) (da_cons (de_name 5) (da_cons (de_name 3) da_nil)))) (de_one (de_call (x := "_law_refused") (ps := ["_law_leaves", "_law_names", "_law_chosen"]) (ok_l_refused T) (hr.mono (by omega)) cx.tk rfl T.g_l_refused T.F_l_refused.kp ⟨T.b_l_refused_3⟩ (da_cons (de_ix ixS_any (de_name 6) de_int) (da_cons (de_ix ixS_any (de_name 6) de_int) (da_cons (de_name 3) da_nil)))))))) dss_nil)
    (dss_cons (ds_set (i := 7) (de_call (x := "_law_texts") (ps := ["_law_leaves", "_law_letters_here"]) (ok_l_texts T) (hr.mono (by omega)) cx.tk rfl T.g_l_texts T.F_l_texts.kp ⟨T.b_l_texts_2⟩ (da_cons (de_name 4) (da_cons (de_op opS_add (de_sl (de_lst (da_cons (de_str (s := "a")) (da_cons (de_str (s := "b")) da_nil))) do_none (do_some (de_name 5))) (de_lst (da_cons (de_str (s := "e")) (da_cons (de_str (s := "z")) da_nil)))) da_nil))) S.nd)
    (dss_cons (ds_set (i := 8) (de_sortZ cx.calm rfl T.n_sorted (dz_set cx.calm rfl T.n_set (de_lc (own := [("_law_text", 12)]) cx.calm S.nd (di_any (de_name 7)) (blkOk_by (by first | kernel_rfl | decide +kernel)) (by decide) (fun _ _ _ _ _ => (dg_name S.nd)) (fun _ _ _ _ _ => by exact dts_nil) (fun _ _ _ _ _ => by exact (de_callK (x := "plain") (ps := ["way", "rules"]) (np := 1) (ks := ["rules"]) (gD := (· ++ ·)) (ok_plain T) (hr.mono (by omega)) takes0 rfl T.g_plain T.F_plain.kp ⟨T.k_plain_1_rules⟩ (da_cons (de_mk (C := "Way") (ps := ["self", "text"]) mkAs_T T.ci_Way T.mk_Way (ok_WayD_initD T) (hr.mono (by omega)) takes0 rfl ⟨T.b_WayD_initD_2⟩ (da_cons (de_name 12) da_nil)) da_nil) (dk_cons (de_name 3) dk_nil)))))) S.nd)
    (dss_cons (ds_set (i := 9) (de_callB callS_len rfl T.n_len boot_len (da_cons (de_lc (own := [("_law_text", 12)]) cx.calm S.nd (di_any (de_name 8)) (blkOk_by (by first | kernel_rfl | decide +kernel)) (by decide) (fun _ _ _ _ _ => (dg_name S.nd)) (fun _ _ _ _ _ => by exact (dts_one (dt_cmp (opS_eq hr.units) (de_call (x := "_law_size") (ps := ["_law_text"]) (ok_l_size T) (hr.mono (by omega)) takes0 rfl T.g_l_size T.F_l_size.kp ⟨T.b_l_size_1⟩ (da_cons (de_name 12) da_nil)) (de_name 4)))) (fun _ _ _ _ _ => by exact (de_name 12))) da_nil)) S.nd)
    (dss_cons (ds_set (i := 10) (de_callK (x := "form_count") (ps := ["leaves", "names", "rules"]) (np := 2) (ks := ["rules"]) (gD := (· ++ ·)) (ok_form_count T) (hr.mono (by omega)) cx.tk rfl T.g_form_count T.F_form_count.kp ⟨T.k_form_count_2_rules⟩ (da_cons (de_name 4) (da_cons (de_name 5) da_nil)) (dk_cons (de_name 3) dk_nil)) S.nd)
    (dss_cons (ds_if (DW.dt (dw_or (dt_cmp (opS_ne hr.units) (de_name 10) (de_name 9)) (dw_or (dt_tru (de_callB callS_isiB rfl T.n_isinstance boot_isinstance (da_cons (de_name 10) (da_cons (de_ty rfl T.n_bool boot_bool) da_nil)))) (dw_or1 (dt_cmp (opS_ne hr.units) (de_name 10) (de_call (x := "_law_due") (ps := ["_law_leaves", "_law_names", "_law_letters_here"]) (ok_l_due T) (hr.mono (by omega)) cx.tk rfl T.g_l_due T.F_l_due.kp ⟨T.b_l_due_3⟩ (da_cons (de_name 4) (da_cons (de_name 5) (da_cons (de_name 2) da_nil))))))))) (dss_one (ds_ret de_bl)) dss_nil)
    (dss_cons (ds_set (i := 11) (de_op opS_add de_int (de_call (x := "_law_take") (ps := ["_law_pool_here", "_law_limit"]) (ok_l_take T) (hr.mono (by omega)) cx.tk rfl T.g_l_take T.F_l_take.kp ⟨T.b_l_take_2⟩ (da_cons (de_name 1) (da_cons de_int da_nil)))) S.nd)
    (dss_cons (ds_if (dt_cmp (opS_ne hr.units) (de_callK (x := "form_count") (ps := ["leaves", "names", "rules"]) (np := 2) (ks := ["rules"]) (gD := (· ++ ·)) (ok_form_count T) (hr.mono (by omega)) cx.tk rfl T.g_form_count T.F_form_count.kp ⟨T.k_form_count_2_rules⟩ (da_cons (de_name 11) (da_cons (de_name 5) da_nil)) (dk_cons (de_name 3) dk_nil)) (de_call (x := "_law_due") (ps := ["_law_leaves", "_law_names", "_law_letters_here"]) (ok_l_due T) (hr.mono (by omega)) cx.tk rfl T.g_l_due T.F_l_due.kp ⟨T.b_l_due_3⟩ (da_cons (de_name 11) (da_cons (de_name 5) (da_cons (de_name 2) da_nil))))) (dss_one (ds_ret de_bl)) dss_nil)
    (dss_one (ds_ret (de_cmp (opS_eq hr.units) (de_callK (x := "form_count") (ps := ["leaves", "names", "rules"]) (np := 2) (ks := ["rules"]) (gD := (· ++ ·)) (ok_form_count T) (hr.mono (by omega)) cx.tk rfl T.g_form_count T.F_form_count.kp ⟨T.k_form_count_2_rules⟩ (da_cons (de_ix ixS_any (de_name 6) de_int) (da_cons (de_ix ixS_any (de_name 6) de_int) da_nil)) (dk_cons (de_name 3) dk_nil)) (de_call (x := "_law_due") (ps := ["_law_leaves", "_law_names", "_law_letters_here"]) (ok_l_due T) (hr.mono (by omega)) cx.tk rfl T.g_l_due T.F_l_due.kp ⟨T.b_l_due_3⟩ (da_cons (de_ix ixS_any (de_name 6) de_int) (da_cons (de_ix ixS_any (de_name 6) de_int) (da_cons (de_name 2) da_nil))))))))))))))))))))))
end
end Lk91
namespace Lk91
open PySem PySem.Spec L2 DL
open PyProof.Rows hiding St
theorem cell_run (ns : List Int) (k : Int) (hk : 0 ≤ k) (M : MS) : ∃ c, F_l_cell [.flst (ns.map D.int), .int k] M = .ok (.int c) M := by
  unfold F_l_cell
  rw [runD_ap]
  by_cases h : k < ns.length
  · obtain ⟨j, rfl⟩ : ∃ j : Nat, k = (j : Int) := ⟨k.toNat, by omega⟩
    have hj : j < ns.length := by omega
    refine ⟨ns[j], ?_⟩
    have e : ixD (.flst (ns.map D.int)) (.int (j : Int)) M = .ok (.int ns[j]) M := ixD_flst (atI_of (by simp [List.getElem?_eq_getElem hj]))
    simp [m_l_cell, startD, hj, e]
  · refine ⟨0, ?_⟩
    simp [m_l_cell, startD, h]
theorem get_last {M : MS} {o : MO} : (M ++ [o])[M.length]? = some o := by simp
theorem set_last {M : MS} {o o' : MO} : (M ++ [o]).set M.length o' = M ++ [o'] := by simp
theorem join_chars {M : MS} {xs : List Nat} (h : xs.length ≤ 1000000) : joinF (.str []) [.lst (xs.map fun c => D.str [c])] M = .ok (.str xs) M := by
  have e : (xs.map fun c => D.str [c]) = (xs.map fun c => [c]).map D.str := by rw [List.map_map]; rfl
  have e2 : ((xs.map fun c => [c]).map List.length).sum = xs.length := by
    rw [List.map_map]
    clear h e
    induction xs with
    | nil => rfl
    | cons x xs ih => simp [ih]; omega
  have e3 : (xs.map fun c => [c]).flatten = xs := by
    clear h e e2
    induction xs with
    | nil => rfl
    | cons x xs ih => simp [ih]
  rw [e, joinF_lst (by rw [e2]; simp; omega), joinL_nil, e3]
section
variable {sd : SD} {M : MS} {ta tb : MB} {p q : Bool} {a : ME} {d : D} {r st : MST}
theorem andB_ok (h1 : ta sd M = .ok p M) (h2 : tb sd M = .ok q M) : andB ta tb sd M = .ok (p && q) M := by
  rw [andB_ap, h1, Res.bind_ok]
  cases p
  · rfl
  · rw [andBK_t, h2]; rfl
theorem orB_ok (h1 : ta sd M = .ok p M) (h2 : tb sd M = .ok q M) : orB ta tb sd M = .ok (p || q) M := by
  rw [orB_ap, h1, Res.bind_ok]
  cases p
  · rw [orBK_f, h2]; rfl
  · rfl
theorem ifret (h1 : ta sd M = .ok p M) (h2 : p = true → a sd M = .ok d M) : seqS (ifS ta (retS a) passS) r sd M = if p = true then .ret d M else r sd M := by
  rw [seqS_ap, ifS_ap, h1]
  cases p
  · rfl
  · rw [if_pos rfl]
    show ((retS a sd M).seq r) = _
    rw [retS_ap, h2 rfl]
    rfl
end
section
variable {sd : SD} {M : MS} {ta tb : MB} {p q : Bool} {a b : ME} {d : D} {r st : MST}
theorem andE_ok (h1 : a sd M = .ok (.bl p) M) (h2 : p = true → b sd M = .ok (.bl q) M) : andE a b sd M = .ok (.bl (p && q)) M := by
  rw [andE_ap, h1, Res.bind_ok]
  cases p
  · rfl
  · rw [andK_t, h2 rfl]; rfl
theorem ifS_ok {s1 s2 : MST} (h1 : ta sd M = .ok p M) : ifS ta s1 s2 sd M = if p = true then s1 sd M else s2 sd M := by
  rw [ifS_ap, h1]
  cases p <;> rfl
end
inductive T where
  | leaf (w : List Nat)
  | node (l r : T)
def T.d : T → D
  | .leaf w => .str w
  | .node l r => .tup [l.d, r.d]
def T.ws : T → List (List Nat)
  | .leaf w => [w]
  | .node l r => l.ws ++ r.ws
def T.txt : T → List Nat
  | .leaf w => w
  | .node l r => 40 :: (l.txt ++ (32 :: (r.txt ++ [41])))
def T.depth : T → Nat
  | .leaf _ => 0
  | .node l r => max l.depth r.depth + 1
/-- a leaf's word -/
def okW (w : List Nat) : Prop := 1 ≤ w.length ∧ w.length ≤ 6 ∧ ∀ c, c ∈ w → 97 ≤ c ∧ c ≤ 122
def T.ok : T → Prop
  | .leaf w => okW w
  | .node l r => l.ok ∧ r.ok
theorem T.ws_pos : ∀ t : T, 1 ≤ t.ws.length
  | .leaf _ => by simp [T.ws]
  | .node l r => by have := T.ws_pos l; simp [T.ws]; omega
theorem T.depth_lt : ∀ t : T, t.depth < t.ws.length
  | .leaf _ => by simp [T.ws, T.depth]
  | .node l r => by
    have h1 := T.depth_lt l
    have h2 := T.depth_lt r
    have h3 := T.ws_pos l
    have h4 := T.ws_pos r
    simp [T.ws, T.depth]
    omega
theorem T.txt_len : ∀ t : T, t.ok → t.txt.length + 3 ≤ 9 * t.ws.length ∧ 1 ≤ t.txt.length
  | .leaf w, h => by
    obtain ⟨h1, h2, _⟩ := h
    simp [T.txt, T.ws]; omega
  | .node l r, h => by
    have h1 := T.txt_len l h.1
    have h2 := T.txt_len r h.2
    simp [T.txt, T.ws]
    omega
theorem T.ok_ws : ∀ t : T, t.ok → ∀ w, w ∈ t.ws → okW w
  | .leaf w, h, v, hv => by simp [T.ws] at hv; rw [hv]; exact h
  | .node l r, h, v, hv => by
    rcases List.mem_append.mp hv with hv | hv
    · exact T.ok_ws l h.1 v hv
    · exact T.ok_ws r h.2 v hv
theorem sLo : sL "(" = [40] := by decide +kernel
theorem sLc : sL ")" = [41] := by decide +kernel
theorem sLs : sL " " = [32] := by decide +kernel
theorem sLa : sL "abcdefghijklmnopqrstuvwxyz" = [97, 98, 99, 100, 101, 102, 103, 104, 105, 106, 107, 108, 109, 110, 111, 112, 113, 114, 115, 116, 117, 118, 119, 120, 121, 122] := by decide +kernel
theorem mem_az (c : Nat) : c ∈ sL "abcdefghijklmnopqrstuvwxyz" ↔ 97 ≤ c ∧ c ≤ 122 := by
  rw [sLa]
  simp only [List.mem_cons, List.not_mem_nil, or_false]
  omega
/-- what may stand behind a way -/
def Stop (rest : List Nat) : Prop := rest = [] ∨ ∃ c r, rest = c :: r ∧ (c = 32 ∨ c = 41)
theorem ix_at {M : MS} {x : List Nat} {i : Nat} {c : Nat} (hx : x.length ≤ 1000000) (h : x[i]? = some c) : ixD (.str x) (.int (i : Int)) M = .ok (.str [c]) M := ixD_str hx (atI_of h)
theorem app_at {pre w rest : List Nat} {j : Nat} (h : j < w.length) : (pre ++ w ++ rest)[pre.length + j]? = some w[j] := by
  rw [List.append_assoc, List.getElem?_append_right (by omega), List.getElem?_append_left (by omega)]
  simp
theorem app_end {pre w rest : List Nat} : (pre ++ w ++ rest)[pre.length + w.length]? = rest[0]? := by
  rw [List.append_assoc, List.getElem?_append_right (by omega), List.getElem?_append_right (by omega)]
  simp
/-- the letters of a name are counted -/
theorem name_loop {M : MS} {G : FM} {pre w rest : List Nat} {o2 o3 : Option D} (hw : okW w) (hs : Stop rest) (hl : (pre ++ w ++ rest).length ≤ 100000) : ∀ (k j n : Nat), k + j = w.length → k < n →
    whileGo (t_end_of_1 G) (b_end_of_1 G) n [some (.str (pre ++ w ++ rest)), some (.int (pre.length : Int)), o2, o3, some (.int (j : Int))] M = .nx [some (.str (pre ++ w ++ rest)), some (.int (pre.length : Int)), o2, o3, some (.int (w.length : Int))] M
  | 0, j, n + 1, hj, _ => by
    have hj : j = w.length := by omega
    subst hj
    refine whileGo_f ?_
    rcases hs with rfl | ⟨c, r, rfl, hc⟩
    · have h1 : ¬ ((pre.length : Int) + (w.length : Int) < ((pre ++ w ++ ([] : List Nat)).length : Int)) := by simp
      generalize hX : pre ++ w ++ ([] : List Nat) = X at *
      simp [t_end_of_1, lenF_str (show X.length ≤ 1000000 by omega), h1]
    · have e1 : ixD (.str (pre ++ w ++ c :: r)) (.int ((pre.length : Int) + (w.length : Int))) M = .ok (.str [c]) M := by
        rw [show (pre.length : Int) + (w.length : Int) = ((pre.length + w.length : Nat) : Int) by omega]
        exact ix_at (by omega) (by rw [app_end]; rfl)
      have h1 : ((pre.length : Int) + (w.length : Int) < ((pre ++ w ++ c :: r).length : Int)) := by simp; omega
      have h2 : ¬ c ∈ sL "abcdefghijklmnopqrstuvwxyz" := by rw [mem_az]; omega
      generalize hX : pre ++ w ++ c :: r = X at *
      simp [t_end_of_1, lenF_str (show X.length ≤ 1000000 by omega), h1, e1, subIn_one, h2]
  | k + 1, j, n + 1, hj, hn => by
    have hjl : j < w.length := by omega
    have ih := name_loop (M := M) (G := G) (pre := pre) (w := w) (rest := rest) (o2 := o2) (o3 := o3) hw hs hl k (j + 1) n (by omega) (by omega)
    have e1 : ixD (.str (pre ++ w ++ rest)) (.int ((pre.length : Int) + (j : Int))) M = .ok (.str [w[j]]) M := by
      rw [show (pre.length : Int) + (j : Int) = ((pre.length + j : Nat) : Int) by omega]
      exact ix_at (by omega) (app_at hjl)
    have h1 : ((pre.length : Int) + (j : Int) < ((pre ++ w ++ rest).length : Int)) := by simp; omega
    have h2 : w[j] ∈ sL "abcdefghijklmnopqrstuvwxyz" := by rw [mem_az]; exact hw.2.2 _ (List.getElem_mem hjl)
    have h3 : (j : Int) < 6 := by have := hw.2.1; omega
    rw [whileGo_t (sd2 := [some (.str (pre ++ w ++ rest)), some (.int (pre.length : Int)), o2, o3, some (.int ((j + 1 : Nat) : Int))]) (M1 := M) (M2 := M) ?_ ?_]
    · exact ih
    · generalize hX : pre ++ w ++ rest = X at *
      simp [t_end_of_1, lenF_str (show X.length ≤ 1000000 by omega), h1, e1, subIn_one, h2, h3]
    · simp [b_end_of_1]
theorem leaf_head {w : List Nat} (h : okW w) : ∃ c r, w = c :: r ∧ 97 ≤ c ∧ c ≤ 122 := by
  cases w with
  | nil => have := h.1; simp at this
  | cons c r => exact ⟨c, r, rfl, h.2.2 c List.mem_cons_self⟩
theorem exp_run {M : MS} {x : List Nat} {i c : Nat} (hx : x.length ≤ 100000) (h : x[i]? = some c) : F_expected [.str x, .int (i : Int), .str [c]] M = .ok .non M := by
  have hi := (List.getElem?_eq_some_iff.mp h).1
  have e1 := ix_at (M := M) (show x.length ≤ 1000000 by omega) h
  have h1 : ((i : Int) == (x.length : Int)) = false := by simp; omega
  unfold F_expected
  rw [runD_ap]
  simp [m_expected, startD, lenF_str (show x.length ≤ 1000000 by omega), h1, e1]
/-- end_of -/
theorem end_run {M : MS} : ∀ (d : Nat) (t : T), t.ok → t.depth < d → ∀ (pre rest : List Nat), (pre ++ t.txt ++ rest).length ≤ 100000 → Stop rest →
    R_end_of d [.str (pre ++ t.txt ++ rest), .int (pre.length : Int)] M = .ok (.int ((pre.length + t.txt.length : Nat) : Int)) M
  | 0, _, _, h, _, _, _, _ => absurd h (by omega)
  | d + 1, .leaf w, h, _, pre, rest, hl, hs => by
    have hw : okW w := h
    obtain ⟨c, r, hcr, hc1, hc2⟩ := leaf_head hw
    have hl : (pre ++ w ++ rest).length ≤ 100000 := hl
    have loop := name_loop (M := M) (G := R_end_of d) (pre := pre) (w := w) (rest := rest) (o2 := none) (o3 := none) hw hs hl w.length 0 1000 (by omega) (by have := hw.2.1; omega)
    have hpos := hw.1
    have e1 : ixD (.str (pre ++ w ++ rest)) (.int (pre.length : Int)) M = .ok (.str [c]) M := by
      have := app_at (pre := pre) (w := w) (rest := rest) (j := 0) (by omega)
      rw [Nat.add_zero] at this
      refine ix_at (by omega) (this.trans ?_)
      subst hcr
      rfl
    have h1 : ((pre.length : Int) == ((pre ++ w ++ rest).length : Int)) = false := by simp; omega
    have h2 : ([c] == [40]) = false := by simp; omega
    have h3 : ((w.length : Int) == 0) = false := by simp only [beq_eq_false_iff_ne, ne_eq]; omega
    show runD 5 (m_end_of (R_end_of d)) [.str (pre ++ w ++ rest), .int (pre.length : Int)] M = .ok (.int ((pre.length + w.length : Nat) : Int)) M
    rw [runD_ap]
    generalize hX : pre ++ w ++ rest = X at *
    have loop : whileGo (t_end_of_1 (R_end_of d)) (b_end_of_1 (R_end_of d)) 1000 [some (.str X), some (.int (pre.length : Int)), none, none, some (.int 0)] M = .nx [some (.str X), some (.int (pre.length : Int)), none, none, some (.int (w.length : Int))] M := loop
    simp [m_end_of, startD, lenF_str (show X.length ≤ 1000000 by omega), h1, sLo, e1, h2, whileS_ap, loop, h3]
  | d + 1, .node l r, h, hd, pre, rest, hl, hs => by
    have hdl : l.depth < d := by simp [T.depth] at hd; omega
    have hdr : r.depth < d := by simp [T.depth] at hd; omega
    obtain ⟨X, hX⟩ : ∃ X, X = pre ++ (T.node l r).txt ++ rest := ⟨_, rfl⟩
    rw [← hX] at hl ⊢
    have x1 : X = (pre ++ [40]) ++ l.txt ++ (32 :: (r.txt ++ (41 :: rest))) := by rw [hX]; simp [T.txt]
    have x2 : X = (pre ++ [40] ++ l.txt ++ [32]) ++ r.txt ++ (41 :: rest) := by rw [hX]; simp [T.txt]
    have hXl : X.length = pre.length + l.txt.length + r.txt.length + 3 + rest.length := by rw [hX]; simp [T.txt]; omega
    have e1 := end_run (M := M) d l h.1 hdl (pre ++ [40]) (32 :: (r.txt ++ (41 :: rest))) (by rw [← x1]; exact hl) (.inr ⟨_, _, rfl, .inl rfl⟩)
    rw [← x1] at e1
    have e2 := end_run (M := M) d r h.2 hdr (pre ++ [40] ++ l.txt ++ [32]) (41 :: rest) (by rw [← x2]; exact hl) (.inr ⟨_, _, rfl, .inr rfl⟩)
    rw [← x2] at e2
    have g0 : X[pre.length]? = some 40 := by rw [hX]; simp [T.txt]
    have g1 : X[(pre ++ [40]).length + l.txt.length]? = some 32 := by rw [x1, app_end]; rfl
    have g2 : X[(pre ++ [40] ++ l.txt ++ [32]).length + r.txt.length]? = some 41 := by rw [x2, app_end]; rfl
    have f0 := ix_at (M := M) (show X.length ≤ 1000000 by omega) g0
    have f1 := exp_run (M := M) hl g1
    have f2 := exp_run (M := M) hl g2
    have h1 : ((pre.length : Int) == (X.length : Int)) = false := by simp; omega
    have i1 : (((pre ++ [40]).length : Nat) : Int) = (pre.length : Int) + 1 := by simp
    have i2 : (((pre ++ [40] ++ l.txt ++ [32]).length : Nat) : Int) = (((pre ++ [40]).length + l.txt.length : Nat) : Int) + 1 := by simp; omega
    have i3 : ((pre.length + (T.node l r).txt.length : Nat) : Int) = (((pre ++ [40] ++ l.txt ++ [32]).length + r.txt.length : Nat) : Int) + 1 := by simp [T.txt]; omega
    rw [i1] at e1
    rw [i2] at e2
    rw [i3]
    generalize (((pre ++ [40]).length + l.txt.length : Nat) : Int) = k1 at *
    generalize (((pre ++ [40] ++ l.txt ++ [32]).length + r.txt.length : Nat) : Int) = k2 at *
    show runD 5 (m_end_of (R_end_of d)) [.str X, .int (pre.length : Int)] M = _
    rw [runD_ap]
    simp [m_end_of, startD, lenF_str (show X.length ≤ 1000000 by omega), h1, sLo, sLs, sLc, f0, callK_ap, e1, f1, e2, f2]
/-- the way of a tree -/
def T.w : T → D
  | .leaf v => .obj "Way" ["text", "name", "left", "right", "leaves"] [.str v, .str v, .non, .non, .tup [.str v]]
  | .node l r => .obj "Way" ["text", "name", "left", "right", "leaves"] [.str (T.node l r).txt, .str [], l.w, r.w, .tup ((T.node l r).ws.map D.str)]
theorem T.w_text : ∀ t : T, ∃ n l r, t.w = .obj "Way" ["text", "name", "left", "right", "leaves"] [.str t.txt, n, l, r, .tup (t.ws.map D.str)]
  | .leaf v => ⟨_, _, _, rfl⟩
  | .node l r => ⟨_, _, _, rfl⟩
theorem T.w_ncs {n : Nat} : ∀ t : T, nc n t.w = true
  | .leaf v => by simp [T.w, nc, ncs]
  | .node l r => by
    have h1 := T.w_ncs (n := n) l
    have h2 := T.w_ncs (n := n) r
    have h3 : ∀ xs : List (List Nat), ncs n (xs.map D.str) = true := fun xs => by
      induction xs with
      | nil => simp [ncs]
      | cons x xs ih => simp [ncs, nc, ih]
    simp [T.w, nc, ncs, h1, h2, h3]
theorem list6 {M : MS} {o : MO} : (M ++ [o])[M.length]? = some o := by simp
set_option maxHeartbeats 2000000 in
theorem way_leaf {G : FM} {w : List Nat} (h : okW w) (hl : w.length ≤ 90000) (M : MS) : mkT "Way" (runD 4 (m_WayD_initD G)) [.str w] M = .ok (T.leaf w).w M := by
  have hw : okW w := h
  have hd30 : (T.leaf w).depth < 30 := by simp [T.depth]
  obtain ⟨c, r, hcr, hc1, hc2⟩ := leaf_head hw
  refine mkT_of (ns := ["text", "name", "left", "right", "leaves"]) ?_ (by have := T.w_ncs (n := M.length) (T.leaf w); simpa [T.w, nc] using this)
  rw [runD_ap]
  have e1 := end_run (M := M ++ [.obj "Way" [] []]) 30 (.leaf w) hw hd30 [] [] (by simp [T.txt]; omega) (.inl rfl)
  simp only [List.nil_append, List.append_nil, T.txt, List.length_nil, Nat.zero_add] at e1
  have e1 : F_end_of [.str w, .int 0] (M ++ [.obj "Way" [] []]) = .ok (.int (w.length : Int)) (M ++ [.obj "Way" [] []]) := e1
  have s1 : ∀ v : D, sfK2 ["Way"] "text" [some (.cell M.length), some (.str w), some (.int (w.length : Int)), none] v (.cell M.length) (M ++ [.obj "Way" [] []]) = .nx [some (.cell M.length), some (.str w), some (.int (w.length : Int)), none] (M ++ [.obj "Way" ["text"] [v]]) := fun v => by
    rw [sfK2_cell list6 (by simp)]; simp [putN]
  have s2 : ∀ a v : D, sfK2 ["Way"] "name" [some (.cell M.length), some (.str w), some (.int (w.length : Int)), none] v (.cell M.length) (M ++ [.obj "Way" ["text"] [a]]) = .nx [some (.cell M.length), some (.str w), some (.int (w.length : Int)), none] (M ++ [.obj "Way" ["text", "name"] [a, v]]) := fun a v => by
    rw [sfK2_cell list6 (by simp)]; simp [putN]
  have s3 : ∀ a b v : D, sfK2 ["Way"] "left" [some (.cell M.length), some (.str w), some (.int (w.length : Int)), none] v (.cell M.length) (M ++ [.obj "Way" ["text", "name"] [a, b]]) = .nx [some (.cell M.length), some (.str w), some (.int (w.length : Int)), none] (M ++ [.obj "Way" ["text", "name", "left"] [a, b, v]]) := fun a b v => by
    rw [sfK2_cell list6 (by simp)]; simp [putN]
  have s4 : ∀ a b c' v : D, sfK2 ["Way"] "right" [some (.cell M.length), some (.str w), some (.int (w.length : Int)), none] v (.cell M.length) (M ++ [.obj "Way" ["text", "name", "left"] [a, b, c']]) = .nx [some (.cell M.length), some (.str w), some (.int (w.length : Int)), none] (M ++ [.obj "Way" ["text", "name", "left", "right"] [a, b, c', v]]) := fun a b c' v => by
    rw [sfK2_cell list6 (by simp)]; simp [putN]
  have s5 : ∀ a b c' d' v : D, sfK2 ["Way"] "name" [some (.cell M.length), some (.str w), some (.int (w.length : Int)), none] v (.cell M.length) (M ++ [.obj "Way" ["text", "name", "left", "right"] [a, b, c', d']]) = .nx [some (.cell M.length), some (.str w), some (.int (w.length : Int)), none] (M ++ [.obj "Way" ["text", "name", "left", "right"] [a, v, c', d']]) := fun a b c' d' v => by
    rw [sfK2_cell list6 (by simp)]; simp [putN]
  have s6 : ∀ a b c' d' v : D, sfK2 ["Way"] "leaves" [some (.cell M.length), some (.str w), some (.int (w.length : Int)), none] v (.cell M.length) (M ++ [.obj "Way" ["text", "name", "left", "right"] [a, b, c', d']]) = .nx [some (.cell M.length), some (.str w), some (.int (w.length : Int)), none] (M ++ [.obj "Way" ["text", "name", "left", "right", "leaves"] [a, b, c', d', v]]) := fun a b c' d' v => by
    rw [sfK2_cell list6 (by simp)]; simp [putN]
  have g0 : ∀ M1 : MS, ixD (.str w) (.int 0) M1 = .ok (.str [c]) M1 := fun M1 => by subst hcr; exact ix_at (i := 0) (by omega) rfl
  have h2 : ([c] == [40]) = false := by simp; omega
  simp [m_WayD_initD, startD, callK_ap, e1, lenF_str (show w.length ≤ 1000000 by omega), s1, s2, s3, s4, s5, s6, g0, sLo, h2, tupK_ap]
set_option maxHeartbeats 4000000 in
theorem way_node {G : FM} {l r : T} (h : (T.node l r).ok) (hl : (T.node l r).txt.length ≤ 90000) (hn : (T.node l r).ws.length ≤ 1000) (hd30 : (T.node l r).depth < 30) (i1 : ∀ M : MS, mkT "Way" G [.str l.txt] M = .ok l.w M) (i2 : ∀ M : MS, mkT "Way" G [.str r.txt] M = .ok r.w M) (M : MS) :
    mkT "Way" (runD 4 (m_WayD_initD G)) [.str (T.node l r).txt] M = .ok (T.node l r).w M := by
  have dl30 : l.depth < 30 := by simp [T.depth] at hd30; omega
  have dr30 : r.depth < 30 := by simp [T.depth] at hd30; omega
  have hl2 : l.txt.length + r.txt.length + 3 ≤ 90000 := by simp [T.txt] at hl; omega
  have hn2 : l.ws.length + r.ws.length ≤ 1000 := by simpa [T.ws] using hn
  obtain ⟨ln, ll, lr, hlw⟩ := l.w_text
  obtain ⟨rn, rl, rr, hrw⟩ := r.w_text
  refine mkT_of (ns := ["text", "name", "left", "right", "leaves"]) ?_ (by have := T.w_ncs (n := M.length) (T.node l r); simpa [T.w, nc] using this)
  obtain ⟨X, hX⟩ : ∃ X, X = (T.node l r).txt := ⟨_, rfl⟩
  rw [← hX] at hl ⊢
  rw [runD_ap]
  have hXl : X.length = l.txt.length + r.txt.length + 3 := by rw [hX]; simp [T.txt]; omega
  have e1 := end_run (M := M ++ [.obj "Way" [] []]) 30 (.node l r) h hd30 [] [] (by rw [List.nil_append, List.append_nil, ← hX]; omega) (.inl rfl)
  simp only [List.nil_append, List.append_nil, List.length_nil, Nat.zero_add, ← hX] at e1
  have e1 : F_end_of [.str X, .int 0] (M ++ [.obj "Way" [] []]) = .ok (.int (X.length : Int)) (M ++ [.obj "Way" [] []]) := e1
  have e2 := fun M1 : MS => end_run (M := M1) 30 l h.1 dl30 [40] (32 :: (r.txt ++ [41])) (by simp; omega) (.inr ⟨_, _, rfl, .inl rfl⟩)
  have x1 : [40] ++ l.txt ++ 32 :: (r.txt ++ [41]) = X := by rw [hX]; simp [T.txt]
  simp only [x1] at e2
  have e2 : ∀ M1 : MS, F_end_of [.str X, .int 1] M1 = .ok (.int ((1 + l.txt.length : Nat) : Int)) M1 := e2
  have c1 : cutL X (some 1) (some ((1 + l.txt.length : Nat) : Int)) = l.txt := by
    rw [show (1 : Int) = ((1 : Nat) : Int) from rfl, cutL_mid X 1 (1 + l.txt.length) (by omega) (by omega), ← x1]
    simp
  have c2 : cutL X (some (((1 + l.txt.length : Nat) : Int) + 1)) (some (-1)) = r.txt := by
    rw [show (((1 + l.txt.length : Nat) : Int) + 1) = ((2 + l.txt.length : Nat) : Int) by omega, cutL_last X (2 + l.txt.length) (by omega), ← x1]
    rw [show [40] ++ l.txt ++ 32 :: (r.txt ++ [41]) = ([40] ++ l.txt ++ [32]) ++ (r.txt ++ [41]) by simp, List.drop_append_of_le_length (by simp; omega)]
    rw [List.drop_of_length_le (by simp; omega)]
    simp
  have sd1 : ∀ M1 lo hi, sliceD (.str X) lo hi M1 = .ok (.str (cutL X lo hi)) M1 := fun M1 lo hi => sliceD_str (by omega)
  have s1 : ∀ v : D, sfK2 ["Way"] "text" [some (.cell M.length), some (.str X), some (.int (X.length : Int)), none] v (.cell M.length) (M ++ [.obj "Way" [] []]) = .nx [some (.cell M.length), some (.str X), some (.int (X.length : Int)), none] (M ++ [.obj "Way" ["text"] [v]]) := fun v => by
    rw [sfK2_cell list6 (by simp)]; simp [putN]
  have s2 : ∀ a v : D, sfK2 ["Way"] "name" [some (.cell M.length), some (.str X), some (.int (X.length : Int)), none] v (.cell M.length) (M ++ [.obj "Way" ["text"] [a]]) = .nx [some (.cell M.length), some (.str X), some (.int (X.length : Int)), none] (M ++ [.obj "Way" ["text", "name"] [a, v]]) := fun a v => by
    rw [sfK2_cell list6 (by simp)]; simp [putN]
  have s3 : ∀ a b v : D, sfK2 ["Way"] "left" [some (.cell M.length), some (.str X), some (.int (X.length : Int)), none] v (.cell M.length) (M ++ [.obj "Way" ["text", "name"] [a, b]]) = .nx [some (.cell M.length), some (.str X), some (.int (X.length : Int)), none] (M ++ [.obj "Way" ["text", "name", "left"] [a, b, v]]) := fun a b v => by
    rw [sfK2_cell list6 (by simp)]; simp [putN]
  have s4 : ∀ a b c' v : D, sfK2 ["Way"] "right" [some (.cell M.length), some (.str X), some (.int (X.length : Int)), none] v (.cell M.length) (M ++ [.obj "Way" ["text", "name", "left"] [a, b, c']]) = .nx [some (.cell M.length), some (.str X), some (.int (X.length : Int)), none] (M ++ [.obj "Way" ["text", "name", "left", "right"] [a, b, c', v]]) := fun a b c' v => by
    rw [sfK2_cell list6 (by simp)]; simp [putN]
  have s5 : ∀ (o3 : Option D) (a b c' d' v : D), sfK2 ["Way"] "left" [some (.cell M.length), some (.str X), some (.int (X.length : Int)), o3] v (.cell M.length) (M ++ [.obj "Way" ["text", "name", "left", "right"] [a, b, c', d']]) = .nx [some (.cell M.length), some (.str X), some (.int (X.length : Int)), o3] (M ++ [.obj "Way" ["text", "name", "left", "right"] [a, b, v, d']]) := fun o3 a b c' d' v => by
    rw [sfK2_cell list6 (by simp)]; simp [putN]
  have s6 : ∀ (o3 : Option D) (a b c' d' v : D), sfK2 ["Way"] "right" [some (.cell M.length), some (.str X), some (.int (X.length : Int)), o3] v (.cell M.length) (M ++ [.obj "Way" ["text", "name", "left", "right"] [a, b, c', d']]) = .nx [some (.cell M.length), some (.str X), some (.int (X.length : Int)), o3] (M ++ [.obj "Way" ["text", "name", "left", "right"] [a, b, c', v]]) := fun o3 a b c' d' v => by
    rw [sfK2_cell list6 (by simp)]; simp [putN]
  have s7 : ∀ (o3 : Option D) (a b c' d' v : D), sfK2 ["Way"] "leaves" [some (.cell M.length), some (.str X), some (.int (X.length : Int)), o3] v (.cell M.length) (M ++ [.obj "Way" ["text", "name", "left", "right"] [a, b, c', d']]) = .nx [some (.cell M.length), some (.str X), some (.int (X.length : Int)), o3] (M ++ [.obj "Way" ["text", "name", "left", "right", "leaves"] [a, b, c', d', v]]) := fun o3 a b c' d' v => by
    rw [sfK2_cell list6 (by simp)]; simp [putN]
  have f1 : ∀ a b c' d' : D, fldD ["Way"] "left" (.cell M.length) (M ++ [.obj "Way" ["text", "name", "left", "right"] [a, b, c', d']]) = .ok c' (M ++ [.obj "Way" ["text", "name", "left", "right"] [a, b, c', d']]) := fun a b c' d' => fldD_cell list6 (by decide) rfl
  have f2 : ∀ a b c' d' : D, fldD ["Way"] "right" (.cell M.length) (M ++ [.obj "Way" ["text", "name", "left", "right"] [a, b, c', d']]) = .ok d' (M ++ [.obj "Way" ["text", "name", "left", "right"] [a, b, c', d']]) := fun a b c' d' => fldD_cell list6 (by decide) rfl
  have f3 : ∀ M1 : MS, fldD ["Way"] "leaves" l.w M1 = .ok (.tup (l.ws.map D.str)) M1 := fun M1 => by rw [hlw]; exact fldD_obj (by decide) rfl
  have f4 : ∀ M1 : MS, fldD ["Way"] "leaves" r.w M1 = .ok (.tup (r.ws.map D.str)) M1 := fun M1 => by rw [hrw]; exact fldD_obj (by decide) rfl
  have a1 : ∀ M1 : MS, addD (.tup (l.ws.map D.str)) (.tup (r.ws.map D.str)) M1 = .ok (.tup ((T.node l r).ws.map D.str)) M1 := fun M1 => by
    rw [addD_tup (by simp; omega), ← List.map_append]; rfl
  have g0 : ∀ M1 : MS, ixD (.str X) (.int 0) M1 = .ok (.str [40]) M1 := fun M1 => ix_at (i := 0) (by omega) (by rw [← x1]; rfl)
  generalize ((1 + l.txt.length : Nat) : Int) = m at *
  clear hlw hrw
  generalize (T.node l r).ws.map D.str = W at *
  generalize l.ws.map D.str = W1 at *
  generalize r.ws.map D.str = W2 at *
  generalize l.w = lw at *
  generalize r.w = rw' at *
  simp [m_WayD_initD, startD, callK_ap, e1, lenF_str (show X.length ≤ 1000000 by omega), s1, s2, s3, s4, s5, s6, s7, g0, sLo, e2, sd1, c1, c2, i1, i2, f1, f2, f3, f4, a1]
/-- what __init__ makes of a tree's text -/
theorem way_init : ∀ (d : Nat) (t : T), t.ok → t.txt.length ≤ 90000 → t.ws.length ≤ 1000 → t.depth < d → t.depth < 30 → ∀ M : MS, mkT "Way" (R_WayD_initD d) [.str t.txt] M = .ok t.w M
  | 0, _, _, _, _, h, _, _ => absurd h (by omega)
  | d + 1, .leaf w, h, hl, _, _, _, M => way_leaf (G := R_WayD_initD d) h hl M
  | d + 1, .node l r, h, hl, hn, hd, hd30, M => by
    have hl2 : l.txt.length + r.txt.length + 3 ≤ 90000 := by simp [T.txt] at hl; omega
    have hn2 : l.ws.length + r.ws.length ≤ 1000 := by simpa [T.ws] using hn
    exact way_node (G := R_WayD_initD d) h hl hn hd30
      (way_init d l h.1 (by omega) (by omega) (by simp [T.depth] at hd; omega) (by simp [T.depth] at hd30; omega))
      (way_init d r h.2 (by omega) (by omega) (by simp [T.depth] at hd; omega) (by simp [T.depth] at hd30; omega)) M
theorem sL5 : sL "ACIUZ" = [65, 67, 73, 85, 90] := by decide +kernel
/-- the letters that stand in x, in order -/
def five (x : List Nat) : List Nat := (sL "ACIUZ").filter (fun c => decide (c ∈ x))
/-- only letters of the five -/
def Let5 (x : List Nat) : Prop := ∀ c, c ∈ x → c ∈ sL "ACIUZ"
theorem mem_five (c : Nat) (x : List Nat) : c ∈ five x ↔ c ∈ sL "ACIUZ" ∧ c ∈ x := by simp [five, List.mem_filter]
theorem five_len (x : List Nat) : (five x).length ≤ 5 := Nat.le_trans (List.length_filter_le _ _) (by rw [sL5]; decide)
theorem init_ok {M : MS} {a b : Option D} : ∀ (x : List Nat) (o : Option D), Let5 x → ∃ o', forGo (fun _ => True) (nameG 2) b_RulesD_initD_1 (x.map fun c => D.str [c]) [a, b, o] M = .nx [a, b, o'] M
  | [], o, _ => ⟨o, by simp⟩
  | c :: x, o, h => by
    obtain ⟨o', e⟩ := init_ok (M := M) (a := a) (b := b) x (some (.str [c])) fun y hy => h y (List.mem_cons_of_mem _ hy)
    have hb : b_RulesD_initD_1 [a, b, some (.str [c])] M = .nx [a, b, some (.str [c])] M := by simp [b_RulesD_initD_1, subIn_one, h c List.mem_cons_self]
    exact ⟨o', by simp [hb, e]⟩
theorem init_run {M : MS} {x : List Nat} (h : Let5 x) : mkT "Rules" F_RulesD_initD [.str x] M = .ok (.obj "Rules" ["letters"] [.str (five x)]) M := by
  refine mkT_of ?_ rfl
  have hm := get_last (M := M) (o := .obj "Rules" [] [])
  generalize hM : M ++ [MO.obj "Rules" [] []] = M1 at hm
  unfold F_RulesD_initD
  rw [runD_ap]
  obtain ⟨o, e1⟩ := init_ok (M := M1) (a := some (.cell M.length)) (b := some (.str x)) x none h
  have e2 := lc_typed (tt := t_RulesD_initD_1) (te := nameE 2) (i := 2) (w := [some (.cell M.length), some (.str x), none]) (M := M1) (g := fun c => D.str [c]) (p := fun c => decide (c ∈ x)) (f := fun c => D.str [c]) (xs := sL "ACIUZ") (by rw [sL5]; decide) (fun c hc => ⟨by simp [t_RulesD_initD_1, subIn_one], fun _ => by simp⟩)
  have e3 := five_len x
  have e4 := join_chars (M := M1) (xs := five x) (by omega)
  have e6 : tyvD M1 "str" (.str []) = true := rfl
  have e2 : lcGo (fun _ => True) (nameG 2) t_RulesD_initD_1 (nameE 2) [some (.cell M.length), some (.str x), none] ((sL "ACIUZ").map fun c => D.str [c]) [] M1 = .ok ((five x).map fun c => D.str [c]) M1 := e2
  simp [m_RulesD_initD, startD, e1, wipeD, bmK_ap e6, e2, e4, show sL "" = [] from rfl, sfK2_cell hm]
  rw [← hM]
  simp [putN]
@[simp] theorem fld_R {x : List Nat} {M : MS} : fldD ["Rules"] "letters" (.obj "Rules" ["letters"] [.str x]) M = .ok (.str x) M := fldD_obj (by decide) rfl
theorem has_run {M : MS} {x y : List Nat} (h : y.length ≤ 1000000) : F_RulesD_containsD [.obj "Rules" ["letters"] [.str x], .str y] M = .ok (.bl (decide (y.length = 1) && subIn y x)) M := by
  unfold F_RulesD_containsD
  rw [runD_ap]
  by_cases h1 : y.length = 1
  · have h1' : ((y.length : Int) == 1) = true := by simp [h1]
    simp [m_RulesD_containsD, startD, lenF_str h, h1]
  · have h1' : ((y.length : Int) == 1) = false := by simp; omega
    simp [m_RulesD_containsD, startD, lenF_str h, h1', h1]
theorem sLA1 : sL "A" = [65] := by decide +kernel
theorem sLC1 : sL "C" = [67] := by decide +kernel
theorem sLI1 : sL "I" = [73] := by decide +kernel
theorem sLU1 : sL "U" = [85] := by decide +kernel
theorem sLZ1 : sL "Z" = [90] := by decide +kernel
theorem sLz : sL "z" = [122] := by decide +kernel
theorem sLe : sL "e" = [101] := by decide +kernel
def jn (a b : List Nat) : List Nat := 40 :: (a ++ (32 :: (b ++ [41])))
def tn (x a b : List Nat) : List Nat :=
  if (decide (90 ∈ x) && (a == [122] || b == [122])) = true then [122]
  else if (decide (85 ∈ x) && a == [101]) = true then b
  else if (decide (85 ∈ x) && b == [101]) = true then a
  else if (decide (73 ∈ x) && a == b) = true then a
  else if (decide (67 ∈ x) && decide (b < a)) = true then jn b a
  else jn a b
def tf (x : List Nat) : T → List Nat
  | .leaf w => w
  | .node l r => tn x (tf x l) (tf x r)
theorem tn_cases (x a b : List Nat) : tn x a b = [122] ∨ tn x a b = a ∨ tn x a b = b ∨ tn x a b = jn a b ∨ tn x a b = jn b a := by
  unfold tn
  repeat' split
  all_goals simp
theorem tf_len (x : List Nat) : ∀ t : T, t.ok → (tf x t).length ≤ t.txt.length
  | .leaf w, _ => Nat.le_refl _
  | .node l r, h => by
    have h1 := tf_len x l h.1
    have h2 := tf_len x r h.2
    show (tn x (tf x l) (tf x r)).length ≤ _
    have e : (T.node l r).txt.length = l.txt.length + r.txt.length + 3 := by simp [T.txt]; omega
    rw [e]
    rcases tn_cases x (tf x l) (tf x r) with z | z | z | z | z <;> rw [z] <;> simp [jn] <;> omega
theorem has1 {M : MS} {x : List Nat} (c : Nat) : inO "Rules" F_RulesD_containsD false (.str [c]) (.obj "Rules" ["letters"] [.str x]) M = .ok (.bl (decide (c ∈ x))) M := by
  have e := inO_obj (C := "Rules") (neg := false) (has_run (M := M) (x := x) (y := [c]) (by simp))
  rw [subIn_one] at e
  simpa using e
theorem fstr5 {sd : SD} {M : MS} {i j : Nat} {a b : List Nat} (h1 : nameE i sd M = .ok (.str a) M) (h2 : nameE j sd M = .ok (.str b) M) (hl : a.length + b.length ≤ 900000) :
    fstrE [(constE (.str (sL "("))), (fmtE (nameE i)), (constE (.str (sL " "))), (fmtE (nameE j)), (constE (.str (sL ")")))] sd M = .ok (.str (jn a b)) M := by
  have f1 := fmtE_str h1 (by omega)
  have f2 := fmtE_str h2 (by omega)
  rw [fstrE_ap, sLo, sLs, sLc]
  rw [jGo_cons, constE_ap, Res.bind_ok, jK_str (by simp)]
  rw [jGo_cons, f1, Res.bind_ok, jK_str (by simp; omega)]
  rw [jGo_cons, constE_ap, Res.bind_ok, jK_str (by simp; omega)]
  rw [jGo_cons, f2, Res.bind_ok, jK_str (by simp; omega)]
  rw [jGo_cons, constE_ap, Res.bind_ok, jK_str (by simp; omega)]
  rw [jGo_nil]
  simp [jn]
theorem tform_run {M : MS} {x : List Nat} : ∀ (d : Nat) (t : T), t.ok → t.txt.length ≤ 90000 → t.depth < d → R_tree_form d [t.w, .obj "Rules" ["letters"] [.str x]] M = .ok (.str (tf x t)) M
  | 0, _, _, _, h => absurd h (by omega)
  | d + 1, .leaf w, _, _, _ => by
    show runD 4 (m_tree_form (R_tree_form d)) [(T.leaf w).w, .obj "Rules" ["letters"] [.str x]] M = _
    rw [runD_ap]
    have f1 : fldD ["Way"] "left" (T.leaf w).w M = .ok .non M := fldD_obj (by decide) rfl
    have f2 : fldD ["Way"] "name" (T.leaf w).w M = .ok (.str w) M := fldD_obj (by decide) rfl
    generalize (T.leaf w).w = tw at *
    simp [m_tree_form, startD, f1, f2, isN, tf]
  | d + 1, .node l r, h, hl, hd => by
    have hl2 : l.txt.length + r.txt.length + 3 ≤ 90000 := by simp [T.txt] at hl; omega
    have e1 := tform_run (M := M) (x := x) d l h.1 (by omega) (by simp [T.depth] at hd; omega)
    have e2 := tform_run (M := M) (x := x) d r h.2 (by omega) (by simp [T.depth] at hd; omega)
    have n1 := tf_len x l h.1
    have n2 := tf_len x r h.2
    show runD 4 (m_tree_form (R_tree_form d)) [(T.node l r).w, .obj "Rules" ["letters"] [.str x]] M = .ok (.str (tn x (tf x l) (tf x r))) M
    rw [runD_ap]
    have f1 : fldD ["Way"] "left" (T.node l r).w M = .ok l.w M := fldD_obj (by decide) rfl
    have f2 : fldD ["Way"] "right" (T.node l r).w M = .ok r.w M := fldD_obj (by decide) rfl
    have f3 : isN l.w = false := by obtain ⟨_, _, _, z⟩ := l.w_text; rw [z]; rfl
    generalize tf x l = a at *
    generalize tf x r = b at *
    generalize (T.node l r).w = tw at *
    generalize l.w = lw at *
    generalize r.w = rw' at *
    unfold m_tree_form
    rw [show startD 4 [tw, D.obj "Rules" ["letters"] [.str x]] = [some tw, some (.obj "Rules" ["letters"] [.str x]), none, none] from rfl]
    simp only [seqS_ap (sa := ifS (valB (binE isNF (unE (fldD ["Way"] "left") (nameE 0)) (constE .non))) (retS (unE (fldD ["Way"] "name") (nameE 0))) passS)]
    have z1 : ifS (valB (binE isNF (unE (fldD ["Way"] "left") (nameE 0)) (constE .non))) (retS (unE (fldD ["Way"] "name") (nameE 0))) passS [some tw, some (.obj "Rules" ["letters"] [.str x]), none, none] M = .nx [some tw, some (.obj "Rules" ["letters"] [.str x]), none, none] M := by
      simp [f1, f3]
    rw [z1, SRes.seq_nx, seqS_ap]
    have z2 : setS 2 (callE 2 (R_tree_form d) (· ++ []) (consA (unE (fldD ["Way"] "left") (nameE 0)) (consA (nameE 1) nilA))) [some tw, some (.obj "Rules" ["letters"] [.str x]), none, none] M = .nx [some tw, some (.obj "Rules" ["letters"] [.str x]), some (.str a), none] M := by
      simp [f1, callK_ap, e1]
    rw [z2, SRes.seq_nx, seqS_ap]
    have z3 : setS 3 (callE 2 (R_tree_form d) (· ++ []) (consA (unE (fldD ["Way"] "right") (nameE 0)) (consA (nameE 1) nilA))) [some tw, some (.obj "Rules" ["letters"] [.str x]), some (.str a), none] M = .nx [some tw, some (.obj "Rules" ["letters"] [.str x]), some (.str a), some (.str b)] M := by
      simp [f2, callK_ap, e2]
    rw [z3, SRes.seq_nx]
    have hin : ∀ (s : String) (c : Nat), sL s = [c] → valB (binE (inO "Rules" F_RulesD_containsD false) (constE (.str (sL s))) (nameE 1)) [some tw, some (.obj "Rules" ["letters"] [.str x]), some (.str a), some (.str b)] M = .ok (decide (c ∈ x)) M := fun s c hs => by
      rw [hs]; simp [has1]
    have t1 : orB (valB (binE (eqD false) (nameE 2) (constE (.str (sL "z"))))) (valB (binE (eqD false) (nameE 3) (constE (.str (sL "z"))))) [some tw, some (.obj "Rules" ["letters"] [.str x]), some (.str a), some (.str b)] M = .ok (a == [122] || b == [122]) M :=
      orB_ok (by simp [sLz]) (by simp [sLz])
    rw [ifret (andB_ok (hin "Z" 90 sLZ1) t1) (d := .str [122]) (fun _ => by simp [sLz])]
    rw [ifret (andB_ok (hin "U" 85 sLU1) (q := a == [101]) (by simp [sLe])) (d := .str b) (fun _ => by simp)]
    rw [ifret (andB_ok (hin "U" 85 sLU1) (q := b == [101]) (by simp [sLe])) (d := .str a) (fun _ => by simp)]
    rw [ifret (andB_ok (hin "I" 73 sLI1) (q := a == b) (by simp)) (d := .str a) (fun _ => by simp)]
    rw [ifret (andB_ok (hin "C" 67 sLC1) (q := decide (b < a)) (by simp)) (d := .str (jn b a)) (fun _ => fstr5 (by simp) (by simp) (by omega))]
    rw [retS_ap, fstr5 (a := a) (b := b) (by simp) (by simp) (by omega)]
    unfold tn
    repeat' split
    all_goals rfl
theorem plain_run {M : MS} {x : List Nat} {t : T} (hx : ¬ 65 ∈ x) (h : t.ok) (hl : t.txt.length ≤ 90000) (hd : t.depth < 30) : F_plain [t.w, .obj "Rules" ["letters"] [.str x]] M = .ok (.str (tf x t)) M := by
  have e := tform_run (M := M) (x := x) 30 t h hl hd
  have e : F_tree_form [t.w, .obj "Rules" ["letters"] [.str x]] M = .ok (.str (tf x t)) M := e
  unfold F_plain
  rw [runD_ap]
  generalize t.w = tw at *
  simp [m_plain, startD, sLA1, has1, hx, callK_ap, e]
section
variable {F : FM} {M M' : MS} {t u : T} {r : D} {x : List Nat} {i : Int} {n : Nat} {g : List D → List D} {ms : MA} {sd : SD} {m : String}
theorem leaves_W : fldD ["Way"] "leaves" t.w M = .ok (.tup (t.ws.map D.str)) M := by
  obtain ⟨_, _, _, e⟩ := t.w_text
  rw [e]; exact fldD_obj (by decide) rfl
end
theorem T.eqv : ∀ t u : T, eqvD t.d u.d = true ↔ t = u
  | .leaf v, .leaf w => by
    show eqvD (.str v) (.str w) = true ↔ _
    rw [eqvD_str]
    simp
  | .leaf v, .node a b => by
    show eqvD (.str v) (.tup [a.d, b.d]) = true ↔ _
    simp [eqvD, toP, PyData.eqv]
  | .node a b, .leaf v => by
    show eqvD (.tup [a.d, b.d]) (.str v) = true ↔ _
    simp [eqvD, toP, PyData.eqv]
  | .node a b, .node a' b' => by
    have h : eqvD (.tup [a.d, b.d]) (.tup [a'.d, b'.d]) = (eqvD a.d a'.d && (eqvD b.d b'.d && true)) := by
      show PyData.eqv _ _ = _
      rw [toP, toP, PyData.eqv]
      show eqvDs [a.d, b.d] [a'.d, b'.d] = _
      rw [eqvDs_cons, eqvDs_cons, eqvDs_nil]
    show eqvD (.tup [a.d, b.d]) (.tup [a'.d, b'.d]) = true ↔ _
    rw [h, Bool.and_true, Bool.and_eq_true, T.eqv a a', T.eqv b b']
    simp
/-- the plain form's tree -/
def nfn (x : List Nat) (l r : T) : T :=
  if (decide (90 ∈ x) && (l.txt == [122] || r.txt == [122])) = true then .leaf [122]
  else if (decide (85 ∈ x) && l.txt == [101]) = true then r
  else if (decide (85 ∈ x) && r.txt == [101]) = true then l
  else if (decide (73 ∈ x) && l.txt == r.txt) = true then l
  else if (decide (67 ∈ x) && decide (r.txt < l.txt)) = true then .node r l
  else .node l r
def nf (x : List Nat) : T → T
  | .leaf w => .leaf w
  | .node l r => nfn x (nf x l) (nf x r)
theorem nfn_txt (x : List Nat) (l r : T) : (nfn x l r).txt = tn x l.txt r.txt := by
  unfold nfn tn
  repeat' split
  all_goals rfl
theorem nf_txt (x : List Nat) : ∀ t : T, (nf x t).txt = tf x t
  | .leaf w => rfl
  | .node l r => by
    show (nfn x (nf x l) (nf x r)).txt = tn x (tf x l) (tf x r)
    rw [nfn_txt, nf_txt x l, nf_txt x r]
theorem nf_ok (x : List Nat) : ∀ t : T, t.ok → (nf x t).ok ∧ (nf x t).ws.length ≤ t.ws.length
  | .leaf w, h => ⟨h, Nat.le_refl _⟩
  | .node l r, h => by
    obtain ⟨h1, h2⟩ := nf_ok x l h.1
    obtain ⟨h3, h4⟩ := nf_ok x r h.2
    have p1 := T.ws_pos l
    have p2 := T.ws_pos r
    show (nfn x (nf x l) (nf x r)).ok ∧ (nfn x (nf x l) (nf x r)).ws.length ≤ (T.node l r).ws.length
    have e : (T.node l r).ws.length = l.ws.length + r.ws.length := by simp [T.ws]
    rw [e]
    unfold nfn
    repeat' split
    · exact ⟨⟨by decide, by decide, by decide⟩, by simp [T.ws]; omega⟩
    · exact ⟨h3, by omega⟩
    · exact ⟨h1, by omega⟩
    · exact ⟨h1, by omega⟩
    · exact ⟨⟨h3, h1⟩, by simp only [T.ws, List.length_append]; omega⟩
    · exact ⟨⟨h1, h3⟩, by simp only [T.ws, List.length_append]; omega⟩
theorem diff_run {M : MS} {w : Wd} (hl : w.length < 4000) : F_different [wD w] M = .ok (.int ((dedT w).length : Nat)) M := by
  unfold F_different
  rw [runD_ap]
  have e := setR_w (m := nameE 0) (sd := startD 1 [wD w]) (M := M) (M1 := M) (w := w) (by simp [startD]) hl
  simp [m_different, e]
theorem beg_loop {M : MS} {w : Wd} (hl : w.length < 4000) : ∀ (n i : Nat) (o3 o4 : Option D), w.length - i = n → i ≤ w.length → (dedT (w.take i)).length < (dedT w).length →
    ∃ t, forGo (lchk M (wD w)) (tupG [3, 4]) b_beginning_1 (enumD i ((w.drop i).map D.str)) [some (wD w), some (.int ((dedT w).length : Nat)), some (.cell M.length), o3, o4] (M ++ [.dic ((dedT (w.take i)).map D.str) (List.replicate (dedT (w.take i)).length (.bl true))]) = .ret (.tup [wD (begF w).1, .str (begF w).2]) (M ++ [t]) := by
  intro n
  induction n with
  | zero =>
    intro i o3 o4 hn hi hc
    have : i = w.length := by omega
    subst this
    rw [List.take_length] at hc
    omega
  | succ n ih =>
    intro i o3 o4 hn hi hc
    have hi' : i < w.length := by omega
    rw [List.drop_eq_getElem_cons hi', List.map_cons]
    unfold enumD
    have hx : w[i]? = some w[i] := List.getElem?_eq_getElem hi'
    have ht := dedT_take hx
    have d1 : (dedT (w.take i)).length < 1000000 := by have := dedT_len (w.take i); simp at this; omega
    have p := dputK3_cell (sd := [some (wD w), some (.int ((dedT w).length : Nat)), some (.cell M.length), some (.int (i : Nat)), some (.str w[i])]) (get_last (M := M) (o := .dic ((dedT (w.take i)).map D.str) (List.replicate (dedT (w.take i)).length (.bl true)))) (dputD_str (x := w[i]) rfl d1)
    rw [set_last, ← ht] at p
    have q := lenX_dic (get_last (M := M) (o := .dic ((dedT (w.take (i + 1))).map D.str) (List.replicate (dedT (w.take (i + 1))).length (.bl true))))
    rw [List.length_map] at q
    have le : (dedT (w.take (i + 1))).length ≤ (dedT w).length := ded_le fun x hx => List.mem_of_mem_take hx
    have s0 : tupG [3, 4] (.tup [.int (i : Nat), .str w[i]]) [some (wD w), some (.int ((dedT w).length : Nat)), some (.cell M.length), o3, o4] = some [some (wD w), some (.int ((dedT w).length : Nat)), some (.cell M.length), some (.int (i : Nat)), some (.str w[i])] := rfl
    have ck : ∀ M' : MS, lchk M (wD w) M' := fun _ => rfl
    have ih' := fun h => ih (i + 1) (some (.int (i : Nat))) (some (.str w[i])) (by omega) hi' h
    have hM2 : ∃ t, M ++ [.dic ((dedT (w.take (i + 1))).map D.str) (List.replicate (dedT (w.take (i + 1))).length (.bl true))] = M ++ [t] := ⟨_, rfl⟩
    generalize M ++ [.dic ((dedT (w.take (i + 1))).map D.str) (List.replicate (dedT (w.take (i + 1))).length (.bl true))] = M2 at p q ih' hM2
    generalize M ++ [.dic ((dedT (w.take i)).map D.str) (List.replicate (dedT (w.take i)).length (.bl true))] = M1 at p
    by_cases he : (dedT (w.take (i + 1))).length = (dedT w).length
    · have hb := beg_at hi' hc he
      obtain ⟨t, rfl⟩ := hM2
      refine ⟨t, ?_⟩
      unfold forGo
      rw [if_pos (ck _), s0]
      dsimp only
      have e : b_beginning_1 [some (wD w), some (.int ((dedT w).length : Nat)), some (.cell M.length), some (.int (i : Nat)), some (.str w[i])] M1 = .ret (.tup [wD (begF w).1, .str (begF w).2]) (M ++ [t]) := by
        rw [hb]
        have l1 : ∀ M : MS, listF [wD (w.take i)] M = .ok (wD (w.take i)) M := fun _ => rfl
        have l2 := sl_to (w := w) (k := i) (M := M ++ [t])
        rw [he] at q
        generalize wD (w.take i) = wi at l1 l2 ⊢
        generalize wD w = wd at *
        generalize (dedT w).length = nw at *
        simp [b_beginning_1, p, q, l1, l2, tupK_ap]
      rw [e]
    · obtain ⟨t, e2⟩ := ih' (by omega)
      refine ⟨t, ?_⟩
      unfold forGo
      rw [if_pos (ck _), s0]
      dsimp only
      have e : b_beginning_1 [some (wD w), some (.int ((dedT w).length : Nat)), some (.cell M.length), some (.int (i : Nat)), some (.str w[i])] M1 = .nx [some (wD w), some (.int ((dedT w).length : Nat)), some (.cell M.length), some (.int (i : Nat)), some (.str w[i])] M2 := by
        have he2 : (((dedT (w.take (i + 1))).length : Nat) : Int) ≠ ((dedT w).length : Nat) := by omega
        generalize wD w = wd at p
        generalize (((dedT w).length : Nat) : Int) = nw at p he2
        generalize (((dedT (w.take (i + 1))).length : Nat) : Int) = mw at q he2
        have he3 : (mw == nw) = false := by simpa using he2
        simp [b_beginning_1, p, q, he3]
      rw [e]
      exact e2
theorem beg_run {M : MS} {w : Wd} (hl : w.length < 4000) (hw : w ≠ []) : F_beginning [wD w] M = .ok (.tup [wD (begF w).1, .str (begF w).2]) M := by
  obtain ⟨t, e⟩ := beg_loop (M := M) hl w.length 0 none none (by omega) (by omega) (by simpa [dedT] using cnt_pos hw)
  refine clF_ok (t := [t]) (d := .tup [wD (begF w).1, .str (begF w).2]) ?_ ?_
  · rw [runD_ap]
    have d := diff_run (M := M) hl
    simp only [List.take_zero, List.drop_zero] at e
    have e : forGo (lchk M (wD w)) (tupG [3, 4]) b_beginning_1 (enumD 0 (w.map D.str)) [some (wD w), some (.int ((dedT w).length : Nat)), some (.cell M.length), none, none] (M ++ [.dic [] []]) = .ret (.tup [wD (begF w).1, .str (begF w).2]) (M ++ [t]) := e
    simp [m_beginning, startD, callK_ap, d, enK_lst]
    rw [show lchk (M ++ [.dic [] []]) (wD w) = lchk M (wD w) from rfl, e]
    rfl
  · show (clos M.length (M ++ [t]) [wD (begF w).1, .str (begF w).2]).map D.tup = _
    unfold clos
    rw [clo_w]
    rfl
theorem bend_run {M : MS} {w : Wd} (hl : w.length < 4000) (hw : w ≠ []) : F_ending [wD w] M = .ok (.tup [.str (endF w).1, wD (endF w).2]) M := by
  unfold F_ending
  rw [runD_ap]
  have b := beg_run (M := M) (w := w.reverse) (by simpa using hl) (by simpa using hw)
  have r1 := rev_w (m := nameE 0) (sd := [some (wD w), none, none]) (M := M) (M1 := M) (w := w) (by simp)
  have r2 := rev_w (m := nameE 1) (sd := [some (wD w), some (wD (begF w.reverse).1), some (.str (begF w.reverse).2)]) (M := M) (M1 := M) (w := (begF w.reverse).1) (by simp)
  have u : unpK (tupG [1, 2]) [some (wD w), none, none] (.tup [wD (begF w.reverse).1, .str (begF w.reverse).2]) M = .nx [some (wD w), some (wD (begF w.reverse).1), some (.str (begF w.reverse).2)] M := unpK_ap rfl
  unfold endF
  generalize wD (begF w.reverse).1.reverse = z at *
  generalize wD (begF w.reverse).1 = y at *
  generalize wD w.reverse = x at *
  generalize wD w = v at *
  rw [show startD 3 [v] = [some v, none, none] from rfl]
  unfold m_ending
  rw [seqS_ap, unpS_ap, callE_ap, consA_ap, r1]
  simp only [Res.bind_ok, consK_ap, nilA_ap, consK2_ap]
  rw [callK_ap (by rfl), List.append_nil, b]
  simp only [SRes.ofE_ok, u, SRes.seq_nx, retS_ap, tupE_ap, consA_ap, nameE_s, nameE_0, Res.bind_ok, consK_ap]
  rw [r2]
  simp [tupK_ap]
theorem merge_loop {M : MS} {l r : Wd} (hl : l.length < 4000) (hr : r.length < 4000) (ol : DL.okW l) (or_ : DL.okW r) : ∀ (n : Nat) (o : Option D), n ≤ l.length → n ≤ r.length →
    forGo (fun _ => True) (nameG 2) b_merged_1 (((List.range (n + 1)).reverse.map fun (k : Nat) => (k : Int)).map D.int) [some (wD l), some (wD r), o] M = .ret (wD (mrgK l r n)) M := by
  intro n
  have step : ∀ (k : Nat) (o : Option D), k ≤ l.length → b_merged_1 [some (wD l), some (wD r), some (.int (k : Int))] M = if l.drop (l.length - k) = r.take k then .ret (wD (l ++ r.drop k)) M else .nx [some (wD l), some (wD r), some (.int (k : Int))] M := by
    intro k o hk
    have c1 : ((l.length : Int) - (k : Int)) = ((l.length - k : Nat) : Int) := by omega
    have s1 := sl_from (w := l) (k := l.length - k) (M := M)
    have s2 := sl_to (w := r) (k := k) (M := M)
    have s3 := sl_from (w := r) (k := k) (M := M)
    have q := eqD_w (neg := false) (M := M) (u := l.drop (l.length - k)) (w := r.take k) (fun x hx => ol x (List.mem_of_mem_drop hx)) (fun x hx => or_ x (List.mem_of_mem_take hx))
    have a := addD_w (M := M) (u := l) (w := r.drop k) (by simp; omega)
    have ln : lenF [wD l] M = .ok (.int l.length) M := by show Res.ok (D.int ((l.map D.str).length : Nat)) M = _; rw [List.length_map]
    generalize wD (l ++ r.drop k) = z1 at *
    generalize wD (l.drop (l.length - k)) = z2 at *
    generalize wD (r.take k) = z3 at *
    generalize wD (r.drop k) = z4 at *
    generalize wD l = z5 at *
    generalize wD r = z6 at *
    by_cases h : l.drop (l.length - k) = r.take k
    · rw [if_pos h]
      rw [decide_eq_true h] at q
      simp [b_merged_1, ln, c1, s1, s2, s3, q, a]
    · rw [if_neg h]
      rw [decide_eq_false h] at q
      simp [b_merged_1, ln, c1, s1, s2, s3, q, a]
  induction n with
  | zero =>
    intro o _ _
    rw [show (((List.range (0 + 1)).reverse.map fun (k : Nat) => (k : Int)).map D.int) = [.int ((0 : Nat) : Int)] from rfl, forGo_cons]
    rw [show ([some (wD l), some (wD r), o].set 2 (some (D.int ((0 : Nat) : Int)))) = [some (wD l), some (wD r), some (.int ((0 : Nat) : Int))] from rfl, step 0 none (by omega), if_pos (by simp)]
    simp [mrgK]
  | succ n ih =>
    intro o h1 h2
    rw [List.range_succ, List.reverse_append, List.reverse_singleton, List.singleton_append, List.map_cons, List.map_cons, forGo_cons]
    rw [show ([some (wD l), some (wD r), o].set 2 (some (D.int ((n + 1 : Nat) : Int)))) = [some (wD l), some (wD r), some (.int ((n + 1 : Nat) : Int))] from rfl, step (n + 1) none h1]
    unfold mrgK
    split
    · simp
    · rw [SRes.loop_nx]
      exact ih _ (by omega) (by omega)
theorem merge_run {M : MS} {l r : Wd} (hl : l.length < 4000) (hr : r.length < 4000) (ol : DL.okW l) (or_ : DL.okW r) : F_merged [wD l, wD r] M = .ok (wD (mergeW l r)) M := by
  unfold F_merged
  rw [runD_ap]
  have e := merge_loop (M := M) hl hr ol or_ (min l.length r.length) none (Nat.min_le_left _ _) (Nat.min_le_right _ _)
  have l1 : lenF [wD l] M = .ok (.int l.length) M := by show Res.ok (D.int ((l.map D.str).length : Nat)) M = _; rw [List.length_map]
  have l2 : lenF [wD r] M = .ok (.int r.length) M := by show Res.ok (D.int ((r.map D.str).length : Nat)) M = _; rw [List.length_map]
  have hm : ((if r.length < l.length then (r.length : Int) else (l.length : Int)) + 1) = ((min l.length r.length + 1 : Nat) : Int) := by split <;> omega
  have rk := rv1K_ap (M := M) (j := min l.length r.length + 1) (by omega)
  rw [← hm] at rk
  unfold mergeW
  generalize wD (mrgK l r (min l.length r.length)) = z at *
  generalize wD l = x at *
  generalize wD r = y at *
  rw [show startD 3 [x, y] = [some x, some y, none] from rfl]
  generalize hit : intsI ((List.range (min l.length r.length + 1)).reverse.map fun (k : Nat) => (k : Int)) = it at rk
  have e : forGo it.chk (nameG 2) b_merged_1 it.ds [some x, some y, none] M = .ret z M := by rw [← hit]; exact e
  simp [m_merged, l1, l2, rk, e]
theorem band_run {M : MS} : ∀ (n d : Nat) {w : Wd}, w ≠ [] → (dedT w).length ≤ n → n < d → n ≤ 10 → w.length < 1900 → DL.okW w → R_band_form d [wD w] M = .ok (wD (bandN n w)) M
  | n, 0, w, _, _, h, _, _, _ => absurd h (by omega)
  | 0, d + 1, w, hw, h, _, _, _, _ => absurd (cnt_pos hw) (by omega)
  | n + 1, d + 1, w, hw, hn, hd, h10, hl, ok => by
    show runD 5 (m_band_form (R_band_form d)) [wD w] M = _
    rw [runD_ap]
    have df := diff_run (M := M) (w := w) (by omega)
    have b := beg_run (M := M) (w := w) (by omega) hw
    have e := bend_run (M := M) (w := w) (by omega) hw
    have B := beg_ex hw
    have E := end_ex hw
    rw [show startD 5 [wD w] = [some (wD w), none, none, none, none] from rfl]
    by_cases h1 : (dedT w).length = 1
    · have hd0 : ixD (wD w) (.int 0) M = .ok (.str (w.headD [])) M := ixD_lst (atI_of (j := 0) (by cases w with
        | nil => exact absurd rfl hw
        | cons x w => rfl))
      have z : bandN (n + 1) w = [w.headD []] := by unfold bandN; rw [if_pos h1]
      rw [z]
      rw [h1] at df
      generalize hwd : wD w = wd at *
      simp [m_band_form, callK_ap, df, hd0, lstK_ap]
    · obtain ⟨np, ns, lp, ls⟩ := parts hw h1
      have lp : (dedT (begF w).1).length < (dedT w).length := lp
      have ls : (dedT (endF w).2).length < (dedT w).length := ls
      have lb : (begF w).1.length < w.length := by
        obtain ⟨⟨r, hr⟩, _⟩ := B
        have := congrArg List.length hr
        simp at this
        omega
      have le' : (endF w).2.length < w.length := by
        obtain ⟨⟨r, hr⟩, _⟩ := E
        have := congrArg List.length hr
        simp at this
        omega
      have okp : DL.okW (begF w).1 := fun x hx => ok x (B.mem.2 x hx)
      have oks : DL.okW (endF w).2 := fun x hx => ok x (E.mem.2 x hx)
      have r1 := band_run (M := M) n d (w := (begF w).1) np (by omega) (by omega) (by omega) (by omega) okp
      have r2 := band_run (M := M) n d (w := (endF w).2) ns (by omega) (by omega) (by omega) (by omega) oks
      have n0 : 2 ^ (n + 1) ≤ 2 ^ 11 := Nat.pow_le_pow_right (by decide) (by omega)
      have n1 := bandN_len n (begF w).1
      have n2 := bandN_len n (endF w).2
      have c1 := (al_bandN n np (by omega)).c
      have c2 := (al_bandN n ns (by omega)).c
      have z : bandN (n + 1) w = mergeW (bandN n (begF w).1 ++ [(begF w).2]) ((endF w).1 :: bandN n (endF w).2) := by conv => lhs; unfold bandN; rw [if_neg h1]
      have a1 := addD_w (M := M) (u := bandN n (begF w).1) (w := [(begF w).2]) (by simp; omega)
      have a2 := addD_w (M := M) (u := [(endF w).1]) (w := bandN n (endF w).2) (by simp; omega)
      have mg := merge_run (M := M) (l := bandN n (begF w).1 ++ [(begF w).2]) (r := (endF w).1 :: bandN n (endF w).2) (by simp; omega) (by simp; omega) (fun x hx => by
        rcases List.mem_append.mp hx with hx | hx
        · exact okp x ((c1 x).mpr hx)
        · rw [List.mem_singleton.mp hx]; exact ok _ B.mem.1) (fun x hx => by
        rcases List.mem_cons.mp hx with hx | hx
        · rw [hx]; exact ok _ E.mem.1
        · exact oks x ((c2 x).mpr hx))
      rw [z]
      have h1' : ((((dedT w).length : Nat) : Int) == 1) = false := by simpa using (show ¬ (((dedT w).length : Nat) : Int) = 1 by omega)
      have u1 : unpK (tupG [1, 2]) [some (wD w), none, none, none, none] (.tup [wD (begF w).1, .str (begF w).2]) M = .nx [some (wD w), some (wD (begF w).1), some (.str (begF w).2), none, none] M := unpK_ap rfl
      have u2 : unpK (tupG [3, 4]) [some (wD w), some (wD (begF w).1), some (.str (begF w).2), none, none] (.tup [.str (endF w).1, wD (endF w).2]) M = .nx [some (wD w), some (wD (begF w).1), some (.str (begF w).2), some (.str (endF w).1), some (wD (endF w).2)] M := unpK_ap rfl
      have f1 : lstK [D.str (begF w).2] M = .ok (wD [(begF w).2]) M := lstK_ap (by simp)
      have f2 : lstK [D.str (endF w).1] M = .ok (wD [(endF w).1]) M := lstK_ap (by simp)
      rw [List.singleton_append] at a2
      generalize (((dedT w).length : Nat) : Int) = nw at *
      generalize wD (mergeW (bandN n (begF w).1 ++ [(begF w).2]) ((endF w).1 :: bandN n (endF w).2)) = z1 at *
      generalize wD ((endF w).1 :: bandN n (endF w).2) = z2 at *
      generalize wD (bandN n (begF w).1 ++ [(begF w).2]) = z3 at *
      generalize wD (bandN n (begF w).1) = z4 at *
      generalize wD (bandN n (endF w).2) = z5 at *
      generalize wD (begF w).1 = z6 at *
      generalize wD (endF w).2 = z7 at *
      generalize wD [(begF w).2] = z8 at *
      generalize wD [(endF w).1] = z9 at *
      generalize wD w = z0 at *
      simp [m_band_form, callK_ap, df, h1', b, e, u1, u2, r1, r2, f1, f2, a1, a2, mg]
theorem bform_run {M : MS} {w : Wd} (hw : w ≠ []) (hc : (dedT w).length ≤ 10) (hl : w.length < 1900) (ok : DL.okW w) : F_band_form [wD w] M = .ok (wD (bandW w)) M := band_run (dedT w).length 30 hw (Nat.le_refl _) (by omega) hc hl ok
theorem mem_sortT {xs : Wd} {x : Lr} : x ∈ sortT xs ↔ x ∈ xs := (List.mergeSort_perm xs _).mem_iff
theorem len_sortT {xs : Wd} : (sortT xs).length = xs.length := (List.mergeSort_perm xs _).length_eq
def noE (w : Wd) : Wd := w.filter fun v => decide (v ≠ [101])
def fe (x : Lr) (w : Wd) : Wd := if 85 ∈ x then noE w else w
def core (x : Lr) (w : Wd) : Wd := if 67 ∈ x ∧ 73 ∈ x then sortT (dedT w) else if 67 ∈ x then sortT w else if 73 ∈ x then bandW w else w
/-- the words of the plain form under a set with A -/
def wf (x : Lr) (w : Wd) : Wd := if 90 ∈ x ∧ [122] ∈ w then [[122]] else if fe x w = [] then [[101]] else core x (fe x w)
def Q (x : Lr) (u v : Wd) : Prop := if 67 ∈ x ∧ 73 ∈ x then SameC u v else if 67 ∈ x then u.Perm v else if 73 ∈ x then Al u v else u = v
theorem Q.refl (x : Lr) (u : Wd) : Q x u u := by
  unfold Q
  repeat' split
  · exact SameC.refl _
  · exact List.Perm.refl _
  · exact Al.refl _
  · rfl
theorem Q.trans {x : Lr} {u v w : Wd} (h : Q x u v) (k : Q x v w) : Q x u w := by
  unfold Q at *
  repeat' split
  all_goals simp_all only [if_true, if_false]
  all_goals first | exact SameC.trans h k | exact List.Perm.trans h k | exact Al.trans h k | skip
theorem Q.swap {x : Lr} (hc : 67 ∈ x) (u v : Wd) : Q x (u ++ v) (v ++ u) := by
  unfold Q
  split
  · intro y; simp [or_comm]
  · first | exact List.perm_append_comm | (rw [if_pos hc]; exact List.perm_append_comm)
theorem Q.nil {x : Lr} {u v : Wd} (h : Q x u v) : u = [] ↔ v = [] := by
  unfold Q at h
  split at h
  · exact ⟨fun e => h.nil e, fun e => h.symm.nil e⟩
  · split at h
    · exact ⟨fun e => by subst e; exact h.nil_eq.symm, fun e => by subst e; exact h.eq_nil⟩
    · split at h
      · exact ⟨fun e => h.c.nil e, fun e => h.c.symm.nil e⟩
      · rw [h]
/-- words alike under a set -/
def Rw2 (x : Lr) (u v : Wd) : Prop := (90 ∈ x ∧ [122] ∈ u ∧ [122] ∈ v) ∨ ((90 ∈ x → ([122] ∈ u ↔ [122] ∈ v)) ∧ Q x (fe x u) (fe x v))
theorem Rw2.refl (x : Lr) (u : Wd) : Rw2 x u u := .inr ⟨fun _ => Iff.rfl, Q.refl x _⟩
theorem Rw2.trans {x : Lr} {u v w : Wd} (h : Rw2 x u v) (k : Rw2 x v w) : Rw2 x u w := by
  rcases h with ⟨a, b, c⟩ | ⟨a, b⟩
  · rcases k with ⟨_, _, f⟩ | ⟨d, e⟩
    · exact .inl ⟨a, b, f⟩
    · exact .inl ⟨a, b, (d a).mp c⟩
  · rcases k with ⟨d, e, f⟩ | ⟨d, e⟩
    · exact .inl ⟨d, (a d).mpr e, f⟩
    · exact .inr ⟨fun z => (a z).trans (d z), b.trans e⟩
/-- the plain form of a way under any set -/
def pln (x : Lr) (t : T) : Lr := if 65 ∈ x then TL.joinL [32] (wf x t.ws) else tf x t
/-- a comprehension with one test over a typed list that changes nothing -/
theorem lc_filt {β : Type} {g : β → D} {f : β → D} {p : β → Bool} {i : Nat} {w : SD} {tt : MB} {te : ME} {M : MS} : ∀ (ys : List β) (acc : List D), acc.length + ys.length ≤ 1000000 → (∀ y, y ∈ ys → tt (w.set i (some (g y))) M = .ok (p y) M ∧ te (w.set i (some (g y))) M = .ok (f y) M) →
    lcGo (fun _ => True) (nameG i) tt te w (ys.map g) acc M = .ok (acc ++ (ys.filter p).map f) M
  | [], acc, _, _ => by simp [lcGo]
  | y :: ys, acc, hl, h => by
    obtain ⟨h1, h2⟩ := h y List.mem_cons_self
    rw [List.map_cons]
    unfold lcGo
    rw [if_pos trivial, nameG_ap]
    dsimp only
    rw [h1, Res.ne_ok, Res.bind_ok]
    cases hp : p y with
    | false =>
      rw [if_neg Bool.false_ne_true, lc_filt ys acc (by simp at hl ⊢; omega) fun z hz => h z (List.mem_cons_of_mem _ hz), List.filter_cons, if_neg (by simp [hp])]
    | true =>
      rw [if_pos rfl, h2, Res.ne_ok, Res.bind_ok, if_pos (by simp at hl; omega), lc_filt ys (acc ++ [f y]) (by simp at hl ⊢; omega) fun z hz => h z (List.mem_cons_of_mem _ hz), List.filter_cons, if_pos hp]
      simp
theorem okW_of {t : T} (h : t.ok) : DL.okW t.ws := fun v hv c hc => by have := (T.ok_ws t h v hv).2.2 c hc; omega
theorem noE_run {M : MS} {w : Wd} {i : Nat} {sd : SD} {tt : MB} (hl : w.length ≤ 1000) (ok : DL.okW w) (hi : i < sd.length) (ht : ∀ x : Lr, tt (sd.set i (some (.str x))) M = .ok (decide (x ≠ [101])) M) :
    lcGo (fun _ => True) (nameG i) tt (nameE i) sd (w.map D.str) [] M = .ok ((noE w).map D.str) M := by
  have e := lc_filt (g := D.str) (f := D.str) (p := fun v : Lr => decide (v ≠ [101])) (i := i) (w := sd) (tt := tt) (te := nameE i) (M := M) w [] (by simp; omega) (fun y hy => ⟨ht y, by
    unfold nameE
    rw [List.getElem?_set_self hi]⟩)
  rw [e, List.nil_append]
  rfl
theorem noE_sub (w : Wd) : ∀ x, x ∈ noE w → x ∈ w := fun x hx => (List.mem_filter.mp hx).1
theorem fe_sub (x : Lr) (w : Wd) : ∀ v, v ∈ fe x w → v ∈ w := fun v hv => by
  unfold fe at hv
  split at hv
  · exact noE_sub w v hv
  · exact hv
theorem fe_len (x : Lr) (w : Wd) : (fe x w).length ≤ w.length := by
  unfold fe noE
  split
  · exact List.length_filter_le _ _
  · exact Nat.le_refl _
theorem sorted_w {M : MS} {w : Wd} (hl : w.length < 64) : sortedSF [wD w] M = .ok (wD (sortT w)) M := by
  unfold sortedSF
  rw [sts_wD]
  simp [hl]
theorem hasr {M : MS} {x : Lr} {sd : SD} {i c : Nat} {s : String} (hs : sL s = [c]) (h : nameE i sd M = .ok (.obj "Rules" ["letters"] [.str x]) M) : valB (binE (inO "Rules" F_RulesD_containsD false) (constE (.str (sL s))) (nameE i)) sd M = .ok (decide (c ∈ x)) M := by
  rw [hs]
  simp [h, has1]
theorem hast {M : MS} {x : Lr} {sd : SD} {i c : Nat} {s : String} (hs : sL s = [c]) (h : nameE i sd M = .ok (.str x) M) : valB (binE (inD false) (constE (.str (sL s))) (nameE i)) sd M = .ok (decide (c ∈ x)) M := by
  rw [hs]
  simp [h, subIn_one]
theorem zin {M : MS} {w : Wd} {sd : SD} {i : Nat} (ok : DL.okW w) (h : nameE i sd M = .ok (wD w) M) : valB (binE (inD false) (constE (.str (sL "z"))) (nameE i)) sd M = .ok (decide ([122] ∈ w)) M := by
  have e := inD_strs (neg := false) (M := M) (x := [122]) (xs := w) (fun c hc => by simp at hc; omega) ok
  have e : inD false (.str [122]) (wD w) M = .ok (.bl (decide ([122] ∈ w) != false)) M := e
  rw [sLz]
  generalize wD w = wd at *
  simp [h, e]
theorem ifpass {t : MB} {s1 s2 : MST} {sd : SD} {M : MS} (h : t sd M = .ok false M) : ifS t s1 s2 sd M = s2 sd M := by rw [ifS_ap, h]; rfl
theorem iftake {t : MB} {s1 s2 : MST} {sd : SD} {M : MS} (h : t sd M = .ok true M) : ifS t s1 s2 sd M = s1 sd M := by rw [ifS_ap, h]; rfl
theorem andB_r {ta tb : MB} {sd : SD} {M : MS} {p q : Prop} [Decidable p] [Decidable q] (h1 : ta sd M = .ok (decide p) M) (h2 : tb sd M = .ok (decide q) M) : andB ta tb sd M = .ok (decide (p ∧ q)) M := by
  rw [andB_ok h1 h2]
  congr 1
  rw [Bool.eq_iff_iff]
  simp
theorem ne_e {M : MS} {x : Lr} {sd : SD} (hn : nameE 2 sd M = .ok (.str x) M) : valB (binE (eqD true) (nameE 2) (constE (.str (sL "e")))) sd M = .ok (decide (x ≠ [101])) M := by
  rw [sLe]
  simp [hn]
  rw [Bool.eq_iff_iff]
  simp
theorem sum_le {w : Wd} {k : Nat} (h : ∀ v, v ∈ w → v.length ≤ k) : (w.map List.length).sum ≤ k * w.length := by
  induction w with
  | nil => simp
  | cons v w ih =>
    have h1 := h v List.mem_cons_self
    have h2 := ih fun u hu => h u (List.mem_cons_of_mem _ hu)
    simp only [List.map_cons, List.sum_cons, List.length_cons]
    rw [Nat.mul_succ]
    omega
theorem core_mem {x : Lr} {u : Wd} (hu : u ≠ []) : ∀ v, v ∈ core x u → v ∈ u := fun v hv => by
  unfold core at hv
  split at hv
  · rw [mem_sortT, mem_dedT] at hv; exact hv
  · split at hv
    · exact mem_sortT.mp hv
    · split at hv
      · exact ((al_band hu).c v).mpr hv
      · exact hv
/-- a word of at most 28 letters, at most ten of them different -/
abbrev W2 (w : Wd) : Prop := (dedT w).length ≤ 10 ∧ w.length ≤ 28
theorem W2.fe {x : Lr} {w : Wd} (h : W2 w) : W2 (fe x w) := ⟨Nat.le_trans (ded_le (fe_sub x w)) h.1, Nat.le_trans (fe_len x w) h.2⟩
theorem core_len {x : Lr} {u : Wd} (hl : W2 u) : (core x u).length ≤ 3000 := by
  have hl1 := hl.1
  have hl2 := hl.2
  unfold core
  split
  · rw [len_sortT]; have := dedT_len u; omega
  · split
    · rw [len_sortT]; omega
    · split
      · have := bandN_len (dedT u).length u
        have h2 : 2 ^ ((dedT u).length + 1) ≤ 2 ^ 11 := Nat.pow_le_pow_right (by decide) (by have := dedT_len u; omega)
        unfold bandW
        omega
      · omega
theorem core_size {x : Lr} {u : Wd} (hu : u ≠ []) (hl : W2 u) (h6 : ∀ v, v ∈ u → v.length ≤ 6) : ((core x u).map List.length).sum + (core x u).length * ([32] : Lr).length ≤ 1000000 := by
  have h1 := sum_le (w := core x u) (k := 6) fun v hv => h6 v (core_mem hu v hv)
  have h2 := core_len (x := x) hl
  simp only [List.length_cons, List.length_nil]
  omega
theorem wf_size {x : Lr} {u : Wd} (hu : u ≠ []) (hl : W2 u) (h6 : ∀ v, v ∈ u → v.length ≤ 6) : ((wf x u).map List.length).sum + (wf x u).length * ([32] : Lr).length ≤ 1000000 := by
  unfold wf
  split
  · decide
  · split
    · decide
    · rename_i he
      exact core_size he hl.fe fun v hv => h6 v (fe_sub x u v hv)
theorem wform_run {M : MS} {x : Lr} {w : Wd} (hw : w ≠ []) (hl : W2 w) (ok : DL.okW w) : F_word_form [wD w, .obj "Rules" ["letters"] [.str x]] M = .ok (wD (wf x w)) M := by
  have hl1 := hl.1
  have hl2 := hl.2
  unfold F_word_form
  rw [runD_ap, show startD 3 [wD w, .obj "Rules" ["letters"] [.str x]] = [some (wD w), some (.obj "Rules" ["letters"] [.str x]), none] from rfl]
  have n1 : ∀ u : Wd, nameE 1 [some (wD u), some (.obj "Rules" ["letters"] [.str x]), none] M = .ok (.obj "Rules" ["letters"] [.str x]) M := fun u => by simp
  have n0 : ∀ u : Wd, nameE 0 [some (wD u), some (.obj "Rules" ["letters"] [.str x]), none] M = .ok (wD u) M := fun u => by simp
  have t1 := andB_r (hasr sLZ1 (n1 w)) (zin ok (n0 w))
  unfold m_word_form
  rw [seqS_ap]
  by_cases hz : 90 ∈ x ∧ [122] ∈ w
  · rw [decide_eq_true hz] at t1
    have z : wf x w = [[122]] := by unfold wf; rw [if_pos hz]
    rw [iftake t1, z]
    show _ = Res.ok (D.lst [.str [122]]) M
    generalize wD w = wd at *
    simp [sLz, lstK_ap]
  rw [decide_eq_false hz] at t1
  rw [ifpass t1, passS_ap, SRes.seq_nx, seqS_ap]
  -- the tail, for a word that is not empty
  have tail : ∀ (u : Wd) (o : Option D), u ≠ [] → W2 u → DL.okW u → ((seqS (ifS (andB (valB (binE (inO "Rules" F_RulesD_containsD false) (constE (.str (sL "C"))) (nameE 1))) (valB (binE (inO "Rules" F_RulesD_containsD false) (constE (.str (sL "I"))) (nameE 1)))) (retS (sortZE (setR (nameE 0)))) passS) (seqS (ifS (valB (binE (inO "Rules" F_RulesD_containsD false) (constE (.str (sL "C"))) (nameE 1))) (retS (appE sortedSF (consA (nameE 0) nilA))) passS) (seqS (ifS (valB (binE (inO "Rules" F_RulesD_containsD false) (constE (.str (sL "I"))) (nameE 1))) (retS (callE 1 F_band_form (· ++ []) (consA (nameE 0) nilA))) passS) (retS (nameE 0)))))) [some (wD u), some (.obj "Rules" ["letters"] [.str x]), o] M = .ret (wD (core x u)) M := fun u o hu hul uok => by
    have hul1 := hul.1
    have hul2 := hul.2
    have n1 : nameE 1 [some (wD u), some (.obj "Rules" ["letters"] [.str x]), o] M = .ok (.obj "Rules" ["letters"] [.str x]) M := by simp
    have e0 := setR_w (m := nameE 0) (sd := [some (wD u), some (.obj "Rules" ["letters"] [.str x]), o]) (M := M) (M1 := M) (w := u) (by simp) (by omega)
    have t2 := andB_r (hasr sLC1 n1) (hasr sLI1 n1)
    have t3 := hasr sLC1 n1
    have t4 := hasr sLI1 n1
    have so := sorted_w (M := M) (w := u) (by omega)
    have bf := bform_run (M := M) hu hul.1 (by omega) uok
    rw [seqS_ap]
    unfold core
    by_cases c1 : 67 ∈ x ∧ 73 ∈ x
    · rw [decide_eq_true c1] at t2
      rw [iftake t2, if_pos c1, retS_ap, sortZE_ap, e0]
      rfl
    rw [decide_eq_false c1] at t2
    rw [ifpass t2, passS_ap, SRes.seq_nx, if_neg c1, seqS_ap]
    by_cases c2 : 67 ∈ x
    · rw [decide_eq_true c2] at t3
      rw [iftake t3, if_pos c2]
      generalize wD (sortT u) = z1 at *
      generalize wD u = z2 at *
      simp [so]
    rw [decide_eq_false c2] at t3
    rw [ifpass t3, passS_ap, SRes.seq_nx, if_neg c2, seqS_ap]
    by_cases c3 : 73 ∈ x
    · rw [decide_eq_true c3] at t4
      rw [iftake t4, if_pos c3]
      generalize wD (bandW u) = z1 at *
      generalize wD u = z2 at *
      simp [callK_ap, bf]
    rw [decide_eq_false c3] at t4
    rw [ifpass t4, passS_ap, SRes.seq_nx, if_neg c3]
    simp
  have tu := hasr sLU1 (n1 w)
  by_cases hu : 85 ∈ x
  · rw [decide_eq_true hu] at tu
    rw [iftake tu, seqS_ap]
    have fw : fe x w = noE w := by unfold fe; rw [if_pos hu]
    have e1 := noE_run (M := M) (w := w) (i := 2) (sd := [some (wD w), some (.obj "Rules" ["letters"] [.str x]), none]) (tt := t_word_form_1) (by omega) ok (by show 2 < 3; decide) (fun v => ne_e (by simp))
    have s1 : setS 0 (lcE (anyI (nameE 0)) (nameG 2) t_word_form_1 (nameE 2) [2]) [some (wD w), some (.obj "Rules" ["letters"] [.str x]), none] M = .nx [some (wD (noE w)), some (.obj "Rules" ["letters"] [.str x]), none] M := by
      have it : itK (wD w) M = .ok ⟨w.map D.str, fun _ => True⟩ M := rfl
      show _ = SRes.nx [some (D.lst ((noE w).map D.str)), _, _] M
      generalize (noE w).map D.str = z1 at *
      generalize wD w = z2 at *
      simp [it, wipeD, e1]
    rw [s1, SRes.seq_nx]
    have q0 := eqD_w (neg := false) (M := M) (u := noE w) (w := []) (fun v hv => ok v (noE_sub w v hv)) (fun v hv => by cases hv)
    have q0 : eqD false (wD (noE w)) (.lst []) M = .ok (.bl (decide (noE w = []) != false)) M := q0
    by_cases he : noE w = []
    · have z : wf x w = [[101]] := by unfold wf; rw [if_neg hz, fw, if_pos he]
      rw [z, decide_eq_true he] at *
      show _ = Res.ok (D.lst [.str [101]]) M
      generalize wD (noE w) = z2 at *
      simp [sLe, lstK_ap, q0]
    · have z : wf x w = core x (noE w) := by unfold wf; rw [if_neg hz, fw, if_neg he]
      rw [z]
      rw [decide_eq_false he] at q0
      have s2 : ifS (valB (binE (eqD false) (nameE 0) (lstE nilA))) (retS (lstE (consA (constE (.str (sL "e"))) nilA))) passS [some (wD (noE w)), some (.obj "Rules" ["letters"] [.str x]), none] M = .nx [some (wD (noE w)), some (.obj "Rules" ["letters"] [.str x]), none] M := by
        generalize wD (noE w) = z2 at *
        simp [lstK_ap, q0]
      have := fe_len x w
      rw [fw] at this
      rw [s2, SRes.seq_nx, tail (noE w) none he (fw ▸ hl.fe (x := x)) (fun v hv => ok v (noE_sub w v hv)), SRes.res_ret]
  · rw [decide_eq_false hu] at tu
    have fw : fe x w = w := by unfold fe; rw [if_neg hu]
    have z : wf x w = core x w := by unfold wf; rw [if_neg hz, fw, if_neg hw]
    rw [ifpass tu, passS_ap, SRes.seq_nx, z, tail w none hw hl ok, SRes.res_ret]
theorem plainW_run {M : MS} {x : Lr} {t : T} (hx : 65 ∈ x) (h : t.ok) (hl : W2 t.ws) : F_plain [t.w, .obj "Rules" ["letters"] [.str x]] M = .ok (.str (pln x t)) M := by
  have hn : t.ws ≠ [] := fun e => by have := t.ws_pos; rw [e] at this; simp at this
  have e := wform_run (M := M) (x := x) hn hl (okW_of h)
  have f := leaves_W (M := M) (t := t)
  have l1 : listF [.tup (t.ws.map D.str)] M = .ok (wD t.ws) M := rfl
  have jn := joinF_lst (M := M) (x := [32]) (xs := wf x t.ws) (wf_size hn hl fun v hv => (T.ok_ws t h v hv).2.1)
  have jn : joinF (.str [32]) [wD (wf x t.ws)] M = .ok (.str (TL.joinL [32] (wf x t.ws))) M := jn
  have ty : tyvD M "str" (.str [32]) = true := rfl
  unfold pln
  rw [if_pos hx]
  unfold F_plain
  rw [runD_ap]
  generalize wD (wf x t.ws) = z1 at *
  generalize TL.joinL [32] (wf x t.ws) = z2 at *
  generalize wD t.ws = z3 at *
  generalize t.ws.map D.str = z4 at *
  generalize t.w = tw at *
  simp [m_plain, startD, sLA1, has1, hx, f, l1, callK_ap, e, sLs, bmK_ap ty, jn]
theorem plain_all {M : MS} {x : Lr} {t : T} (h : t.ok) (hl : W2 t.ws) : F_plain [t.w, .obj "Rules" ["letters"] [.str x]] M = .ok (.str (pln x t)) M := by
  by_cases hx : 65 ∈ x
  · exact plainW_run hx h hl
  · have h1 := t.txt_len h
    have h2 := t.depth_lt
    have hl2 := hl.2
    have := plain_run (M := M) hx h (by omega) (by omega)
    rw [this]
    unfold pln
    rw [if_neg hx]
theorem wf_mem {x : Lr} {u : Wd} (hu : u ≠ []) : ∀ v, v ∈ wf x u → v ∈ u ∨ v = [122] ∨ v = [101] := fun v hv => by
  unfold wf at hv
  split at hv
  · exact .inr (.inl (List.mem_singleton.mp hv))
  · split at hv
    · exact .inr (.inr (List.mem_singleton.mp hv))
    · rename_i he
      exact .inl (fe_sub x u v (core_mem he v hv))
theorem bin_at {M : MS} {sd : SD} {a b : ME} {o : D → D → MS → Res D} {x y : D} (h1 : a sd M = .ok x M) (h2 : b sd M = .ok y M) : binE o a b sd M = o x y M := by
  rw [binE_ap, h1, Res.bind_ok, binK_ap, h2, Res.bind_ok, binK2_ap]
theorem callE_at {n : Nat} {F : FM} {ma : MA} {sd : SD} {M M1 : MS} {ds : List D} (h : ma sd M = .ok ds M1) (hl : ds.length = n) : callE n F (· ++ []) ma sd M = F ds M1 := by
  have e : ds ++ [] = ds := List.append_nil ds
  rw [callE_ap, h, Res.bind_ok, callK_ap (g := fun x => x ++ []) (ds := ds) (n := n) (by rw [e]; exact hl), e]
theorem one_arg {M M' : MS} {sd : SD} {a : ME} {x : D} (h : a sd M = .ok x M') : (consA a nilA) sd M = .ok [x] M' := by
  rw [consA_ap, h, Res.bind_ok, consK_ap, nilA_ap]
  rfl
theorem cons_arg {M M' M2 : MS} {sd : SD} {a : ME} {ma : MA} {x : D} {ds : List D} (h : a sd M = .ok x M') (h2 : ma sd M' = .ok ds M2) : (consA a ma) sd M = .ok (x :: ds) M2 := by
  rw [consA_ap, h, Res.bind_ok, consK_ap, h2]
  rfl
theorem bin_to {M M1 M2 : MS} {sd : SD} {a b : ME} {o : D → D → MS → Res D} {x y : D} (h1 : a sd M = .ok x M1) (h2 : b sd M1 = .ok y M2) : binE o a b sd M = o x y M2 := by
  rw [binE_ap, h1, Res.bind_ok, binK_ap, h2, Res.bind_ok, binK2_ap]
def Ext (M M' : MS) : Prop := M.length ≤ M'.length ∧ ∀ i, i < M.length → M'[i]? = M[i]?
theorem Ext.refl (M : MS) : Ext M M := ⟨Nat.le_refl _, fun _ _ => rfl⟩
theorem Ext.trans {A B C : MS} (h : Ext A B) (k : Ext B C) : Ext A C := ⟨Nat.le_trans h.1 k.1, fun i hi => by rw [k.2 i (by have := h.1; omega), h.2 i hi]⟩
theorem Ext.app (M L : MS) : Ext M (M ++ L) := ⟨by simp, fun i hi => List.getElem?_append_left hi⟩
theorem Ext.set {M M' : MS} (h : Ext M M') {n : Nat} (hn : M.length ≤ n) (o : MO) : Ext M (M'.set n o) := ⟨by rw [List.length_set]; exact h.1, fun i hi => by rw [List.getElem?_set_ne (by omega)]; exact h.2 i hi⟩
theorem Ext.get {M M' : MS} (h : Ext M M') {n : Nat} {o : MO} (hn : M[n]? = some o) : M'[n]? = some o := by rw [h.2 n (List.getElem?_eq_some_iff.mp hn).1]; exact hn
theorem fdivW_int {i j : Int} {M : MS} (h : 0 < j) (h2 : j < 1180591620717411303424) : fdivW (.int i) (.int j) M = .ok (.int (i / j)) M := by
  refine if_pos ⟨h, ?_⟩
  have h3 : j.natAbs < 2 ^ 70 := by have : (2 : Nat) ^ 70 = 1180591620717411303424 := by decide
                                    omega
  have := Nat.log2_lt (n := j.natAbs) (k := 70) (by omega)
  have := this.mpr h3
  omega
def PoolAt (M : MS) (p : Nat) : Prop := ∃ (x k : Int) (b : Bool), M[p]? = some (.lst [.int x, .int k, .bl b])
/-- only the pool changes; new places may come -/
structure Kp (p : Nat) (M M' : MS) : Prop where
  len : M.length ≤ M'.length
  old : ∀ q, q < M.length → q ≠ p → M'[q]? = M[q]?
theorem Kp.refl (p : Nat) (M : MS) : Kp p M M := ⟨Nat.le_refl _, fun _ _ _ => rfl⟩
theorem Kp.trans {p : Nat} {A B C : MS} (h : Kp p A B) (k : Kp p B C) : Kp p A C := ⟨Nat.le_trans h.len k.len, fun q hq hp => by rw [k.old q (by have := h.len; omega) hp, h.old q hq hp]⟩
theorem Kp.get {p q : Nat} {A B : MS} {o : MO} (h : Kp p A B) (hq : A[q]? = some o) (hp : q ≠ p) : B[q]? = some o := by rw [h.old q (List.getElem?_eq_some_iff.mp hq).1 hp]; exact hq
theorem Kp.ext {p : Nat} {A B : MS} (h : Kp p A B) (hp : A.length ≤ p) : Ext A B := ⟨h.len, fun q hq => h.old q hq (by omega)⟩
theorem PoolAt.ext {p : Nat} {A B : MS} (h : PoolAt A p) (e : Ext A B) : PoolAt B p := by
  obtain ⟨x, k, b, h1⟩ := h
  exact ⟨x, k, b, e.get h1⟩
theorem pool_run {M : MS} (c : Int) : ∃ M', F_l_pool [.int c] M = .ok (.cell M.length) M' ∧ Ext M M' ∧ PoolAt M' M.length := by
  have pw : powI (.int 10) (.int 18) M = .ok (.int 1000000000000000000) M := by
    rw [powI_int ⟨by decide, by decide, by decide⟩]; rfl
  refine ⟨M ++ [.lst [.int c, .int 0, .bl (decide (1000000000000000000 ≤ c))]], ?_, Ext.app _ _, c, 0, _, get_last⟩
  unfold F_l_pool
  rw [runD_ap]
  simp [m_l_pool, startD, pw, celK_ap]
theorem put_item {M : MS} {p j : Nat} {ds : List D} {v : D} {sd : SD} {mo mv : ME} (h : M[p]? = some (.lst ds)) (hj : j < ds.length) (h0 : mo sd M = .ok (.cell p) M) (hv : mv sd M = .ok v M) : putS mo (constE (.int (j : Int))) mv sd M = .nx sd (M.set p (.lst (ds.set j v))) := by
  rw [putS_ap, hv, SRes.ofE_ok, putK1_ap, h0, SRes.ofE_ok, putK2_ap, constE_ap, SRes.ofE_ok]
  exact putK3_cell h (ixN_nat hj)
theorem mulD_smallR {M : MS} {i j : Int} (h1 : -1000000 ≤ j) (h2 : j ≤ 1000000) : mulD (.int i) (.int j) M = .ok (.int (i * j)) M := mulD_int (.inr ⟨Int.lt_of_lt_of_le (by decide) h1, Int.lt_of_le_of_lt h2 (by decide)⟩)
theorem take_run {M : MS} {p : Nat} {l : Int} (h : PoolAt M p) (h1 : 0 < l) (h2 : l < 1180591620717411303424) : ∃ (r : Int) (M' : MS), F_l_take [.cell p, .int l] M = .ok (.int r) M' ∧ 0 ≤ r ∧ r < l ∧ PoolAt M' p ∧ Kp p M M' ∧ M'.length = M.length := by
  obtain ⟨x, k, b, hp⟩ := h
  have hl : p < M.length := (List.getElem?_eq_some_iff.mp hp).1
  have kp : ∀ o, Kp p M (M.set p o) := fun o => ⟨by rw [List.length_set]; omega, fun q hq hne => by rw [List.getElem?_set_ne (fun e => hne e.symm)]⟩
  have i1 : binE ixD (nameE 0) (constE (.int 1)) [some (.cell p), some (.int l), none, none] M = .ok (.int k) M := by
    rw [binE_ap, show nameE 0 [some (D.cell p), some (.int l), none, none] M = .ok (.cell p) M from rfl, Res.bind_ok, binK_ap, constE_ap, Res.bind_ok, binK2_ap]
    exact ixD_cell hp (atI_of (j := 1) rfl)
  have z0 : (putS (nameE 0) (constE (.int 1)) (binE addD (binE ixD (nameE 0) (constE (.int 1))) (constE (.int 1)))) [some (.cell p), some (.int l), none, none] M = .nx [some (.cell p), some (.int l), none, none] (M.set p (.lst [.int x, .int (k + 1), .bl b])) := by
    have e : binE addD (binE ixD (nameE 0) (constE (.int 1))) (constE (.int 1)) [some (.cell p), some (.int l), none, none] M = .ok (.int (k + 1)) M := by
      rw [binE_ap, i1, Res.bind_ok, binK_ap, constE_ap, Res.bind_ok, binK2_ap, addD_int]
    exact put_item (j := 1) hp (by show 1 < 3; omega) rfl e
  have h1p : (M.set p (.lst [.int x, .int (k + 1), .bl b]))[p]? = some (.lst [.int x, .int (k + 1), .bl b]) := List.getElem?_set_self hl
  have kp1 := kp (.lst [.int x, .int (k + 1), .bl b])
  have ln1 : (M.set p (.lst [.int x, .int (k + 1), .bl b])).length = M.length := List.length_set
  have st2 : ∀ y, (M.set p (.lst [.int x, .int (k + 1), .bl b])).set p y = M.set p y := fun y => List.set_set ..
  generalize M.set p (.lst [.int x, .int (k + 1), .bl b]) = M1 at *
  have j0 : ixD (.cell p) (.int 0) M1 = .ok (.int x) M1 := ixD_cell h1p (atI_of (j := 0) rfl)
  have j1 : ixD (.cell p) (.int 1) M1 = .ok (.int (k + 1)) M1 := ixD_cell h1p (atI_of (j := 1) rfl)
  have j2 : ixD (.cell p) (.int 2) M1 = .ok (.bl b) M1 := ixD_cell h1p (atI_of (j := 2) rfl)
  have hl1 : p < M1.length := by omega
  unfold F_l_take
  cases b with
  | true =>
    refine ⟨x % l, M1.set p (.lst [.int (x / l), .int (k + 1), .bl true]), ?_, Int.emod_nonneg _ (by omega), Int.emod_lt_of_pos _ h1, ⟨_, _, _, List.getElem?_set_self hl1⟩, by rw [st2]; exact kp _, by rw [List.length_set]; exact ln1⟩
    have md : modI (.int x) (.int l) M1 = .ok (.int (x % l)) M1 := modI_int h1
    have dv : fdivW (.int x) (.int l) M1 = .ok (.int (x / l)) M1 := fdivW_int h1 h2
    have pt : putS (nameE 0) (constE (.int 0)) (binE fdivW (appE intF (consA (binE ixD (nameE 0) (constE (.int 0))) nilA)) (nameE 1)) [some (.cell p), some (.int l), some (.int (x % l)), none] M1 = .nx [some (.cell p), some (.int l), some (.int (x % l)), none] (M1.set p (.lst [.int (x / l), .int (k + 1), .bl true])) := by
      have e : binE fdivW (appE intF (consA (binE ixD (nameE 0) (constE (.int 0))) nilA)) (nameE 1) [some (.cell p), some (.int l), some (.int (x % l)), none] M1 = .ok (.int (x / l)) M1 := by
        simp [j0, dv]
      exact put_item (j := 0) h1p (by show 0 < 3; omega) rfl e
    rw [runD_ap, show startD 4 [D.cell p, D.int l] = [some (.cell p), some (.int l), none, none] from rfl]
    unfold m_l_take
    rw [seqS_ap, z0, SRes.seq_nx]
    have z2 : (setS 2 (binE modI (appE intF (consA (binE ixD (nameE 0) (constE (.int 0))) nilA)) (nameE 1))) [some (.cell p), some (.int l), none, none] M1 = .nx [some (.cell p), some (.int l), some (.int (x % l)), none] M1 := by
      simp [j0, md]
    have tb : truB (binE ixD (nameE 0) (constE (.int 2))) [some (.cell p), some (.int l), none, none] M1 = .ok true M1 := by
      simp [j2]
    rw [seqS_ap, ifS_ap, tb, SRes.ofE_ok, ifK_t, seqS_ap, z2, SRes.seq_nx, seqS_ap, pt]
    rfl
  | false =>
    have a1 : mulD (.int x) (.int 7919) M1 = .ok (.int (x * 7919)) M1 := mulD_smallR (by omega) (by omega)
    have a2 : mulD (.int (k + 1)) (.int 104729) M1 = .ok (.int ((k + 1) * 104729)) M1 := mulD_smallR (by omega) (by omega)
    obtain ⟨m, hm⟩ : ∃ m, m = (x * 7919 + (k + 1) * 104729 + 13) % 2147483647 := ⟨_, rfl⟩
    have m0 : 0 ≤ m := by rw [hm]; exact Int.emod_nonneg _ (by omega)
    have m1 : m < 2147483647 := by rw [hm]; exact Int.emod_lt_of_pos _ (by omega)
    have md : modI (.int (x * 7919 + (k + 1) * 104729 + 13)) (.int 2147483647) M1 = .ok (.int m) M1 := by rw [modI_int (by omega), hm]
    have pw : powI (.int m) (.int 5) M1 = .ok (.int (m ^ 5)) M1 := by
      rw [powI_int ⟨by decide, by decide, by
        have h64 : (2 : Nat) ^ 64 = 18446744073709551616 := by decide +kernel
        rw [h64]; omega⟩]
      rfl
    have md2 : modI (.int (m ^ 5)) (.int 2147483647) M1 = .ok (.int (m ^ 5 % 2147483647)) M1 := modI_int (by omega)
    have dv : fdivW (.int (m ^ 5 % 2147483647)) (.int 17) M1 = .ok (.int (m ^ 5 % 2147483647 / 17)) M1 := fdivW_int (by omega) (by omega)
    have md3 : modI (.int (m ^ 5 % 2147483647 / 17)) (.int l) M1 = .ok (.int (m ^ 5 % 2147483647 / 17 % l)) M1 := modI_int h1
    refine ⟨m ^ 5 % 2147483647 / 17 % l, M1, ?_, Int.emod_nonneg _ (by omega), Int.emod_lt_of_pos _ h1, ⟨_, _, _, h1p⟩, kp1, ln1⟩
    generalize m ^ 5 % 2147483647 / 17 % l = r at *
    generalize m ^ 5 % 2147483647 / 17 = r2 at *
    generalize m ^ 5 % 2147483647 = r3 at *
    generalize m ^ 5 = r4 at *
    clear hm
    rw [runD_ap, show startD 4 [D.cell p, D.int l] = [some (.cell p), some (.int l), none, none] from rfl]
    unfold m_l_take
    rw [seqS_ap, z0, SRes.seq_nx]
    simp [j2, j0, j1, a1, a2, md, pw, md2, dv, md3]
/-- a number taken as a natural number, for a place of an expression -/
theorem take_nat {M : MS} {p l : Nat} (h : PoolAt M p) (h1 : 0 < l) (h2 : l < 1180591620717411303424) : ∃ (r : Nat) (M' : MS), F_l_take [.cell p, .int (l : Int)] M = .ok (.int (r : Int)) M' ∧ r < l ∧ PoolAt M' p ∧ Kp p M M' := by
  obtain ⟨r, M', e, r0, r1, P, K, _⟩ := take_run h (l := (l : Int)) (by omega) (by omega)
  obtain ⟨k, rfl⟩ : ∃ k : Nat, r = (k : Int) := ⟨r.toNat, by omega⟩
  exact ⟨k, M', e, by omega, P, K⟩
theorem range_ds (n : Nat) : (intsI (rangeN 0 (n : Int))).ds = (List.range n).map fun k : Nat => D.int (k : Int) := by
  simp [intsI, rangeN]
theorem sAll : sL "A" = [65] ∧ sL "C" = [67] ∧ sL "I" = [73] ∧ sL "U" = [85] ∧ sL "Z" = [90] ∧ sL "ACIUZ" = [65, 67, 73, 85, 90] := by decide +kernel
def Rul (c : Nat) : Prop := c ∈ [65, 67, 73, 85, 90]
theorem takeE {M : MS} {p l s : Nat} {sd : SD} {m : ME} (h : PoolAt M p) (h1 : 0 < l) (h2 : l < 1180591620717411303424) (hs : nameE s sd M = .ok (.cell p) M) (hm : m sd M = .ok (.int (l : Int)) M) : ∃ (r : Nat) (M' : MS), callE 2 F_l_take (· ++ []) (consA (nameE s) (consA m nilA)) sd M = .ok (.int (r : Int)) M' ∧ r < l ∧ PoolAt M' p ∧ Kp p M M' := by
  obtain ⟨r, M', e, a, b, c⟩ := take_nat h h1 h2
  exact ⟨r, M', by rw [callE_at (n := 2) (cons_arg hs (one_arg hm)) rfl, e], a, b, c⟩
theorem bin_testE {M M' : MS} {sd : SD} {a : ME} {x y : Int} (h1 : a sd M = .ok (.int x) M') : valB (binE (eqD false) a (constE (.int y))) sd M = .ok (decide (x = y)) M' := by
  rw [valB_ap, bin_to h1 (y := .int y) (M2 := M') rfl, eqD_int]
  show Res.ok ((x == y) != false) M' = _
  congr 1
  rw [Bool.eq_iff_iff]
  simp
def mskB : Nat → Int := fun k => [1, 2, 4, 8, 16].getD k 1
def letB : Nat → Nat := fun k => [65, 67, 73, 85, 90].getD k 65
theorem letters_run {M : MS} {p : Nat} (h : PoolAt M p) : ∃ (x : Lr) (M' : MS), F_l_letters [.cell p] M = .ok (.str x) M' ∧ (∀ c, c ∈ x → Rul c) ∧ x.length ≤ 5 ∧ PoolAt M' p ∧ Kp p M M' := by
  obtain ⟨r, M', e1, r1, P1, K1⟩ := takeE (M := M) (p := p) (l := 32) (s := 0) (sd := [some (.cell p), none, none]) (m := constE (.int 32)) h (by decide) (by decide) rfl rfl
  have sc := sAll.2.2.2.2.2
  have key : ∀ k : Nat, k < 5 → (0 < mskB k ∧ mskB k < 1073741824) ∧ ixD (.lst [.int 1, .int 2, .int 4, .int 8, .int 16]) (.int (k : Int)) M' = .ok (.int (mskB k)) M' ∧ ixD (.str [65, 67, 73, 85, 90]) (.int (k : Int)) M' = .ok (.str [letB k]) M' ∧ Rul (letB k) := fun k hk => by
    have fin : ∀ k, k < 5 → (0 < mskB k ∧ mskB k < 1073741824) ∧ ([1, 2, 4, 8, 16] : List Int)[k]? = some (mskB k) ∧ ([65, 67, 73, 85, 90] : Lr)[k]? = some (letB k) ∧ letB k ∈ ([65, 67, 73, 85, 90] : Lr) := by decide
    obtain ⟨a, b, c, d⟩ := fin k hk
    refine ⟨a, ?_, ix_at (by decide) c, d⟩
    exact ixD_lst (ds := ([1, 2, 4, 8, 16] : List Int).map D.int) (atI_of (by rw [List.getElem?_map, b]; rfl))
  have lc := lc_typed (tt := t_l_letters_1) (te := e_l_letters_1) (i := 2) (w := wipeD [some (.cell p), some (.int (r : Int)), none] [2]) (M := M') (g := fun j : Nat => D.int (j : Int)) (p := fun k => decide ((r : Int) / mskB k % 2 = 1)) (f := fun k => D.str [letB k]) (xs := List.range 5) (by decide) (fun k hk => by
    obtain ⟨a, b, c, d⟩ := key k (List.mem_range.mp hk)
    have ls : lstE (consA (constE (.int 1)) (consA (constE (.int 2)) (consA (constE (.int 4)) (consA (constE (.int 8)) (consA (constE (.int 16)) nilA))))) ((wipeD [some (.cell p), some (.int (r : Int)), none] [2]).set 2 (some (.int (k : Int)))) M' = .ok (.lst [.int 1, .int 2, .int 4, .int 8, .int 16]) M' := rfl
    refine ⟨?_, fun _ => ?_⟩
    · unfold t_l_letters_1
      refine bin_testE (x := (r : Int) / mskB k % 2) (y := 1) ?_
      rw [bin_at ((bin_at (x := .int (r : Int)) (y := .int (mskB k)) rfl ((bin_at ls (y := .int (k : Int)) rfl).trans b)).trans (fdivI_int a)) (y := .int 2) rfl, modI_int (by decide)]
    · unfold e_l_letters_1
      rw [sc, bin_at (x := .str [65, 67, 73, 85, 90]) (y := .int (k : Int)) rfl rfl, c])
  rw [← range_ds] at lc
  have e1' := congrArg (fun z => (Res.ne z).bind fun ds M2 => Res.ok (D.lst ds) M2) lc
  have e2 : lcE (range1I (consA (constE (.int 5)) nilA)) (nameG 2) t_l_letters_1 e_l_letters_1 [2] [some (.cell p), some (.int (r : Int)), none] M' = .ok (.lst (((List.range 5).filter fun k => decide ((r : Int) / mskB k % 2 = 1)).map fun k => D.str [letB k])) M' := by
    rw [lcE_ap, range1I_ap, one_arg (x := .int 5) (M' := M') rfl, Res.bind_ok, r1K_ap (by decide), Res.bind_ok]
    exact e1'
  rw [show (((List.range 5).filter fun k => decide ((r : Int) / mskB k % 2 = 1)).map fun k => D.str [letB k]) = (((List.range 5).filter fun k => decide ((r : Int) / mskB k % 2 = 1)).map letB).map fun c => D.str [c] by rw [List.map_map]; rfl] at e2
  have hl : (((List.range 5).filter fun k => decide ((r : Int) / mskB k % 2 = 1)).map letB).length ≤ 5 := by
    rw [List.length_map]
    exact Nat.le_trans (List.length_filter_le _ _) (by simp)
  refine ⟨((List.range 5).filter fun k => decide ((r : Int) / mskB k % 2 = 1)).map letB, M', ?_, fun c hc => ?_, hl, P1, K1⟩
  · unfold F_l_letters
    rw [runD_ap, show startD 3 [D.cell p] = [some (.cell p), none, none] from rfl]
    unfold m_l_letters
    have z0 : (setS 1 (callE 2 F_l_take (· ++ []) (consA (nameE 0) (consA (constE (.int 32)) nilA)))) [some (.cell p), none, none] M = .nx [some (.cell p), some (.int (r : Int)), none] M' := by
      rw [setS_ap, e1]
      rfl
    have tv : tyvD M' "str" (.str []) = true := rfl
    rw [seqS_ap, z0, SRes.seq_nx, retS_ap, bmE_ap, show constE (.str (sL "")) [some (D.cell p), some (.int (r : Int)), none] M' = .ok (.str []) M' from rfl, Res.bind_ok, bmK_ap tv, one_arg e2, Res.bind_ok]
    show SRes.res (SRes.ofE (joinF (.str []) [.lst _] M') _ _) = _
    rw [join_chars (by omega)]
    rfl
  · obtain ⟨k, hk, rfl⟩ := List.mem_map.mp hc
    exact (key k (List.mem_range.mp (List.mem_filter.mp hk).1)).2.2.2
def fall (n : Nat) : Nat → Int
  | 0 => 1
  | k + 1 => fall n k * ((n : Int) - k)
def facI : Nat → Int
  | 0 => 1
  | k + 1 => facI k * ((k : Int) + 1)
def binN : Nat → Nat → Nat
  | _, 0 => 1
  | 0, _ + 1 => 0
  | n + 1, k + 1 => binN n k + binN n (k + 1)
theorem bin_step : ∀ n k : Nat, ((binN n (k + 1) : Nat) : Int) * ((k : Int) + 1) = (binN n k : Nat) * ((n : Int) - k)
  | 0, 0 => by simp [binN]
  | 0, k + 1 => by simp [binN]
  | n + 1, 0 => by
    have h := bin_step n 0
    simp only [binN] at h ⊢
    push_cast at h ⊢
    omega
  | n + 1, k + 1 => by
    have h1 := bin_step n (k + 1)
    have h2 := bin_step n k
    simp only [binN] at h1 h2 ⊢
    push_cast at h1 h2 ⊢
    generalize (binN n (k + 1 + 1) : Int) = a at *
    generalize (binN n (k + 1) : Int) = b at *
    generalize (binN n k : Int) = c at *
    have e1 : (b + a) * ((k : Int) + 1 + 1) = b * (k + 1) + b + a * (k + 1 + 1) := by rw [Int.add_mul, Int.mul_add b, Int.mul_one]
    have e2 : (c + b) * ((n : Int) + 1 - (k + 1)) = c * (n - k) + b * (n - (k + 1)) + b := by
      rw [Int.add_mul, show (n : Int) + 1 - (k + 1) = n - k by omega]
      have : b * ((n : Int) - k) = b * (n - (k + 1)) + b := by
        rw [show (n : Int) - k = n - (k + 1) + 1 by omega, Int.mul_add, Int.mul_one]
      omega
    rw [e1, e2]
    omega
theorem fall_bin (n : Nat) : ∀ k : Nat, fall n k = (binN n k : Nat) * facI k
  | 0 => by simp [fall, facI, binN]
  | k + 1 => by
    show fall n k * _ = _ * (facI k * _)
    rw [fall_bin n k, Int.mul_comm (facI k), ← Int.mul_assoc, bin_step, Int.mul_assoc, Int.mul_assoc, Int.mul_comm (facI k)]
theorem fac_pos : ∀ k, 0 < facI k
  | 0 => by decide
  | k + 1 => Int.mul_pos (fac_pos k) (by omega)
theorem fall_div (n k : Nat) : fall n k / facI k = (binN n k : Nat) := by
  rw [fall_bin, Int.mul_ediv_cancel _ (by have := fac_pos k; omega)]
theorem bin_div (n k : Nat) : ((binN n k : Nat) : Int) * ((n : Int) - k) / ((k : Int) + 1) = (binN n (k + 1) : Nat) := by
  rw [← bin_step, Int.mul_ediv_cancel _ (by omega)]
section
variable (C I : Bool)
def sumN (f : Nat → Int) (xs : List Nat) : Int := (xs.map f).sum
theorem sum_append (f : Nat → Int) (a b : List Nat) : sumN f (a ++ b) = sumN f a + sumN f b := by simp [sumN, List.map_append, List.sum_append]
/-- the sum over a run of n's that lies about a middle -/
theorem half_sum (f : Nat → Int) : ∀ (m a : Nat), (∀ i, a ≤ i → i < a + m → f i = f (a + (a + m - 1) - i)) →
    sumN f (List.range' a m) = 2 * sumN (fun i => if 2 * i < a + (a + m - 1) then f i else 0) (List.range' a m) + (if m % 2 = 1 then f (a + m / 2) else 0)
  | 0, a, _ => by simp [sumN]
  | 1, a, _ => by
    have : ¬ 2 * a < a + (a + 1 - 1) := by omega
    simp [sumN]
    omega
  | m + 2, a, h => by
    have ih := half_sum f m (a + 1) fun i h1 h2 => by
      rw [h i (by omega) (by omega)]
      congr 1
      omega
    have e : List.range' a (m + 2) = a :: (List.range' (a + 1) m ++ [a + m + 1]) := by
      rw [List.range'_succ, List.range'_concat]
      simp
      omega
    rw [e]
    have s1 : ∀ g : Nat → Int, sumN g (a :: (List.range' (a + 1) m ++ [a + m + 1])) = g a + sumN g (List.range' (a + 1) m) + g (a + m + 1) := fun g => by
      simp [sumN, List.sum_append]
      omega
    rw [s1, s1, ih]
    have c1 : sumN (fun i => if 2 * i < a + (a + (m + 2) - 1) then f i else 0) (List.range' (a + 1) m) = sumN (fun i => if 2 * i < (a + 1) + ((a + 1) + m - 1) then f i else 0) (List.range' (a + 1) m) := by
      unfold sumN
      congr 1
      refine List.map_congr_left fun i hi => ?_
      have := List.mem_range'.mp hi
      by_cases q : 2 * i < a + (a + (m + 2) - 1)
      · rw [if_pos q]
        by_cases q2 : 2 * i < (a + 1) + ((a + 1) + m - 1)
        · rw [if_pos q2]
        · have : m = 0 := by omega
          subst this
          simp at hi
      · rw [if_neg q, if_neg (by omega)]
    have f1 := h (a + m + 1) (by omega) (by omega)
    rw [show a + (a + (m + 2) - 1) - (a + m + 1) = a by omega] at f1
    rw [c1]
    rw [if_pos (show 2 * a < a + (a + (m + 2) - 1) by omega), if_neg (show ¬ 2 * (a + m + 1) < a + (a + (m + 2) - 1) by omega), f1, show (m + 2) % 2 = m % 2 by omega, show a + (m + 2) / 2 = a + 1 + m / 2 by omega]
    split <;> omega
def tmI (cs : List Int) (n i : Nat) : Int := cs.getD i 0 * cs.getD (n - i) 0
def midI (cs : List Int) (n : Nat) : Int := cs.getD (n / 2) 0
/-- pairs_of_parts -/
def ppI (cs : List Int) (n : Nat) : Int :=
  sumN (fun i => if C = false ∨ 2 * i < n then tmI cs n i else 0) (List.range' 1 (n - 1)) +
    (if n % 2 = 0 then (if C = true ∧ I = true then midI cs n * (midI cs n - 1) / 2 else if C = true then midI cs n * (midI cs n + 1) / 2 else if I = true then - midI cs n else 0) else 0)
/-- the law's -/
def ddI (cs : List Int) (n : Nat) : Int :=
  let p := sumN (tmI cs n) (List.range' 1 (n - 1))
  let q := if n % 2 = 0 then midI cs n else 0
  if C = true then (p + q) / 2 - q * (if I = true then 1 else 0) else if I = true then p - q else p
theorem pp_dd (cs : List Int) (n : Nat) (h : 2 ≤ n) : ppI C I cs n = ddI C I cs n := by
  unfold ppI ddI
  cases C with
  | false =>
    have e : (fun i => if (false = false ∨ 2 * i < n) then tmI cs n i else 0) = tmI cs n := by funext i; simp
    rw [e]
    cases I <;> (simp; try (split <;> omega))
  | true =>
    have hs := half_sum (tmI cs n) (n - 1) 1 fun i h1 h2 => by
      unfold tmI
      rw [show 1 + (1 + (n - 1) - 1) - i = n - i by omega, show n - (n - i) = i by omega, Int.mul_comm]
    rw [show 1 + (1 + (n - 1) - 1) = n by omega] at hs
    have e : (fun i => if (true = false ∨ 2 * i < n) then tmI cs n i else 0) = fun i => if 2 * i < n then tmI cs n i else 0 := by funext i; simp
    rw [e, hs]
    generalize sumN (fun i => if 2 * i < n then tmI cs n i else 0) (List.range' 1 (n - 1)) = S
    by_cases q : n % 2 = 0
    · have t : tmI cs n (1 + (n - 1) / 2) = midI cs n * midI cs n := by
        unfold tmI midI
        rw [show 1 + (n - 1) / 2 = n / 2 by omega, show n - n / 2 = n / 2 by omega]
      have hh : (if (n - 1) % 2 = 1 then tmI cs n (1 + (n - 1) / 2) else 0) = midI cs n * midI cs n := by rw [if_pos (by omega), t]
      rw [if_pos q, if_pos q, hh]
      generalize midI cs n = m
      have d1 : (2 * S + m * m + m) / 2 = S + m * (m + 1) / 2 := by
        rw [show 2 * S + m * m + m = m * (m + 1) + S * 2 by rw [Int.mul_add, Int.mul_one]; omega, Int.add_mul_ediv_right _ _ (by decide)]
        omega
      have d2 : m * (m - 1) / 2 = m * (m + 1) / 2 - m := by
        rw [show m * (m - 1) = m * (m + 1) + (-m) * 2 by rw [Int.mul_sub, Int.mul_add, Int.mul_one]; omega, Int.add_mul_ediv_right _ _ (by decide)]
        omega
      cases I with
      | true => simp [d1, d2]; omega
      | false => simp [d1]
    · have hh : (if (n - 1) % 2 = 1 then tmI cs n (1 + (n - 1) / 2) else 0) = 0 := if_neg (by omega)
      rw [if_neg q, if_neg q, hh]
      have d1 : (2 * S + 0 + 0) / 2 = S := by omega
      cases I with
      | true => simp
      | false => simp
theorem pow_le {a b : Nat} (h : a ≤ b) : 2 ^ a ≤ 2 ^ b := Nat.pow_le_pow_right (by decide) h
theorem log2_le {x k : Nat} (h : x ≤ 2 ^ k) : x.log2 ≤ k := by
  by_cases z : x = 0
  · subst z; simp
  · have := Nat.log2_self_le z
    have h3 : 2 ^ x.log2 ≤ 2 ^ k := Nat.le_trans this h
    exact (Nat.pow_le_pow_iff_right (by decide)).mp h3
theorem sum_bd (f : Nat → Int) (b : Nat) : ∀ xs : List Nat, (∀ x, x ∈ xs → (f x).natAbs ≤ b) → (sumN f xs).natAbs ≤ xs.length * b
  | [], _ => by simp [sumN]
  | x :: r, h => by
    have ih := sum_bd f b r fun y hy => h y (List.mem_cons_of_mem _ hy)
    have h1 := h x List.mem_cons_self
    have e : sumN f (x :: r) = f x + sumN f r := by simp [sumN]
    rw [e, List.length_cons, Nat.succ_mul]
    have := Int.natAbs_add_le (f x) (sumN f r)
    omega
def Bd (cs : List Int) : Prop := ∀ i, (cs.getD i 0).natAbs ≤ 2 ^ (80 * i - 10)
theorem term_bd {cs : List Int} (h : Bd cs) {n i : Nat} (h1 : 1 ≤ i) (h2 : i < n) : (tmI cs n i).natAbs ≤ 2 ^ (80 * n - 20) := by
  unfold tmI
  rw [Int.natAbs_mul]
  refine Nat.le_trans (Nat.mul_le_mul (h i) (h (n - i))) ?_
  rw [← Nat.pow_add]
  exact pow_le (by omega)
theorem half_bd (x : Int) : (x / 2).natAbs ≤ x.natAbs := by omega
theorem pp_bd {cs : List Int} (h : Bd cs) {n : Nat} (h2 : 2 ≤ n) (h3 : n ≤ 100) : (ppI C I cs n).natAbs ≤ 2 ^ (80 * n - 10) := by
  have s := sum_bd (fun i => if C = false ∨ 2 * i < n then tmI cs n i else 0) (2 ^ (80 * n - 20)) (List.range' 1 (n - 1)) fun x hx => by
    have := List.mem_range'.mp hx
    split
    · exact term_bd h (by omega) (by omega)
    · simp
  rw [List.length_range'] at s
  have m0 : (midI cs n).natAbs ≤ 2 ^ (40 * n - 10) := Nat.le_trans (h (n / 2)) (pow_le (by omega))
  have m1 : (midI cs n * midI cs n).natAbs ≤ 2 ^ (80 * n - 20) := by
    rw [Int.natAbs_mul]
    refine Nat.le_trans (Nat.mul_le_mul m0 m0) ?_
    rw [← Nat.pow_add]
    exact pow_le (by omega)
  have m2 : (midI cs n).natAbs ≤ 2 ^ (80 * n - 20) := Nat.le_trans m0 (pow_le (by omega))
  have q : (if n % 2 = 0 then (if C = true ∧ I = true then midI cs n * (midI cs n - 1) / 2 else if C = true then midI cs n * (midI cs n + 1) / 2 else if I = true then - midI cs n else 0) else 0).natAbs ≤ 2 * 2 ^ (80 * n - 20) := by
    generalize midI cs n = m at *
    split
    · split
      · have := half_bd (m * (m - 1))
        have e : m * (m - 1) = m * m - m := by rw [Int.mul_sub, Int.mul_one]
        rw [e] at this ⊢
        omega
      split
      · have := half_bd (m * (m + 1))
        have e : m * (m + 1) = m * m + m := by rw [Int.mul_add, Int.mul_one]
        rw [e] at this ⊢
        omega
      split <;> simp <;> omega
    · simp
  unfold ppI
  have a := Int.natAbs_add_le (sumN (fun i => if C = false ∨ 2 * i < n then tmI cs n i else 0) (List.range' 1 (n - 1))) (if n % 2 = 0 then (if C = true ∧ I = true then midI cs n * (midI cs n - 1) / 2 else if C = true then midI cs n * (midI cs n + 1) / 2 else if I = true then - midI cs n else 0) else 0)
  have k : (n - 1) * 2 ^ (80 * n - 20) ≤ 100 * 2 ^ (80 * n - 20) := Nat.mul_le_mul_right _ (by omega)
  have e : 2 ^ (80 * n - 10) = 1024 * 2 ^ (80 * n - 20) := by
    rw [show 80 * n - 10 = 10 + (80 * n - 20) by omega, Nat.pow_add]
  omega
end
theorem Bd.snoc {cs : List Int} (h : Bd cs) {x : Int} (hx : x.natAbs ≤ 2 ^ (80 * cs.length - 10)) : Bd (cs ++ [x]) := by
  intro i
  rw [List.getD_eq_getElem?_getD]
  by_cases a : i < cs.length
  · rw [List.getElem?_append_left a]
    have := h i
    rw [List.getD_eq_getElem?_getD] at this
    exact this
  · rw [List.getElem?_append_right (by omega)]
    by_cases b : i = cs.length
    · subst b; simpa using hx
    · rw [List.getElem?_eq_none (by simp; omega)]
      simp
theorem Bd.base {L : Nat} (h : L ≤ 2 ^ 70) : Bd [0, (L : Int)] := by
  intro i
  match i with
  | 0 => simp
  | 1 => simpa using h
  | _ + 2 => simp
theorem fall_bd {n : Nat} (hn : n ≤ 2 ^ 68) : ∀ k : Nat, k ≤ 100 → (fall n k).natAbs ≤ 2 ^ (69 * k)
  | 0, _ => by simp [fall]
  | k + 1, h => by
    have ih := fall_bd hn k (by omega)
    have : ((n : Int) - k).natAbs ≤ 2 ^ 69 := by
      have : (2 : Nat) ^ 69 = 590295810358705651712 := by decide
      have : (2 : Nat) ^ 68 = 295147905179352825856 := by decide
      omega
    show (fall n k * _).natAbs ≤ _
    rw [Int.natAbs_mul]
    refine Nat.le_trans (Nat.mul_le_mul ih this) ?_
    rw [← Nat.pow_add]
    exact pow_le (by omega)
theorem fac_bd : ∀ k : Nat, k ≤ 100 → (facI k).natAbs ≤ 2 ^ (7 * k)
  | 0, _ => by simp [facI]
  | k + 1, h => by
    have ih := fac_bd k (by omega)
    show (facI k * _).natAbs ≤ _
    rw [Int.natAbs_mul]
    refine Nat.le_trans (Nat.mul_le_mul ih (show ((k : Int) + 1).natAbs ≤ 2 ^ 7 by omega)) ?_
    rw [← Nat.pow_add]
    exact pow_le (by omega)
theorem bin_bd {n : Nat} (hn : n ≤ 2 ^ 68) (k : Nat) (hk : k ≤ 100) : binN n k ≤ 2 ^ (69 * k) := by
  refine Nat.le_trans ?_ (fall_bd hn k hk)
  rw [fall_bin, Int.natAbs_mul]
  have := fac_pos k
  exact Nat.le_mul_of_pos_right _ (by omega)
theorem rng (a m : Nat) : rangeN (a : Int) ((a + m : Nat) : Int) = (List.range' a m).map fun k : Nat => (k : Int) := by
  unfold rangeN
  have e : (((a + m : Nat) : Int) - (a : Int)).toNat = m := by omega
  rw [e, List.range'_eq_map_range, List.map_map]
  refine List.map_congr_left fun k _ => ?_
  show (a : Int) + (k : Int) * 1 = ((a + k : Nat) : Int)
  omega
theorem range2_for {g : MG} {body : MST} {sd : SD} {M : MS} {a m : Nat} {i j : Int} {ma mb : ME} (hi : i = (a : Int)) (hj : j = ((a + m : Nat) : Int)) (hs : a + m ≤ 1000000) (h1 : ma sd M = .ok (.int i) M) (h2 : mb sd M = .ok (.int j) M) : forS (range2I (consA ma (consA mb nilA))) g body sd M = forGo (fun _ => True) g body ((List.range' a m).map fun t : Nat => D.int (t : Int)) sd M := by
  subst hi hj
  rw [forS_ap, range2I_ap, cons_arg h1 (one_arg h2), Res.bind_ok, r2K_ap (by omega), SRes.ofE_ok, forK_ap]
  show forGo _ g body ((rangeN (a : Int) ((a + m : Nat) : Int)).map D.int) sd M = _
  rw [rng, List.map_map]
  rfl
theorem range1_for {g : MG} {body : MST} {sd : SD} {M : MS} {m : Nat} {ma : ME} (hs : m ≤ 1000000) (h1 : ma sd M = .ok (.int (m : Int)) M) : forS (range1I (consA ma nilA)) g body sd M = forGo (fun _ => True) g body ((List.range' 0 m).map fun t : Nat => D.int (t : Int)) sd M := by
  rw [forS_ap, range1I_ap, one_arg h1, Res.bind_ok, r1K_ap (by omega), SRes.ofE_ok, forK_ap]
  have e : rangeN 0 (m : Int) = rangeN ((0 : Nat) : Int) ((0 + m : Nat) : Int) := by rw [Nat.zero_add]; rfl
  show forGo _ g body ((rangeN 0 (m : Int)).map D.int) sd M = _
  rw [e, rng, List.map_map]
  rfl
theorem fdiv_ok {M : MS} {x : Int} {j : Nat} (hj : j ≤ 1000) : fdivI (.int x) (.int ((j : Int) + 1)) M = .ok (.int (x / ((j : Int) + 1))) M := fdivI_int ⟨by omega, by omega⟩
theorem mulW_int {M : MS} {i j : Int} (h : i.natAbs.log2 + j.natAbs.log2 < 1000000) : mulW (.int i) (.int j) M = .ok (.int (i * j)) M := if_pos h
theorem mulB {M : MS} {i j : Int} {a b : Nat} (h1 : i.natAbs ≤ 2 ^ a) (h2 : j.natAbs ≤ 2 ^ b) (h : a + b < 1000000) : mulW (.int i) (.int j) M = .ok (.int (i * j)) M := mulW_int (by have := log2_le h1; have := log2_le h2; omega)
theorem e68 : (2 : Nat) ^ 68 = 295147905179352825856 := by decide
theorem e69 : (2 : Nat) ^ 69 = 590295810358705651712 := by decide
theorem ten_bd {i : Int} (h : i.natAbs ≤ 1000) : i.natAbs ≤ 2 ^ 10 := Nat.le_trans h (by decide)
theorem sub69 {n j : Nat} (hn : n ≤ 2 ^ 68) (hj : j ≤ 100) : ((n : Int) - j).natAbs ≤ 2 ^ 69 := by
  rw [e68] at hn; rw [e69]; omega
theorem ch_step {M : MS} {n j : Nat} {sd : SD} {a b c : ME} (hn : n ≤ 2 ^ 68) (hj : j < 100) (h0 : a sd M = .ok (.int (binN n j : Nat)) M) (h1 : b sd M = .ok (.int (n : Int)) M) (h2 : c sd M = .ok (.int (j : Int)) M) : binE fdivI (binE mulW a (binE subI b c)) (binE addD c (constE (.int 1))) sd M = .ok (.int (binN n (j + 1) : Nat)) M := by
  have s1 : binE subI b c sd M = .ok (.int ((n : Int) - j)) M := by rw [bin_to h1 h2]; rfl
  have s2 : binE mulW a (binE subI b c) sd M = .ok (.int ((binN n j : Nat) * ((n : Int) - j))) M := by
    rw [bin_to h0 s1, mulB (a := 69 * j) (b := 69) (by have := bin_bd hn j (by omega); omega) (sub69 hn (by omega)) (by omega)]
  have s3 : binE addD c (constE (.int 1)) sd M = .ok (.int ((j : Int) + 1)) M := by rw [bin_to (y := .int 1) (M2 := M) h2 rfl, addD_int]
  rw [bin_to s2 s3, fdiv_ok (by omega), bin_div]
theorem ch_loop {M : MS} {n : Nat} (hn : n ≤ 2 ^ 68) {o1 : Option D} : ∀ (m j : Nat) (o3 : Option D), j + m ≤ 100 → ∃ o3', forGo (fun _ => True) (nameG 3) b_choices_1 ((List.range' j m).map fun t : Nat => D.int (t : Int)) [some (.int (n : Int)), o1, some (.int (binN n j : Nat)), o3] M = .nx [some (.int (n : Int)), o1, some (.int (binN n (j + m) : Nat)), o3'] M
  | 0, j, o3, _ => ⟨o3, by simp⟩
  | m + 1, j, o3, h => by
    obtain ⟨o3', e⟩ := ch_loop (M := M) hn (o1 := o1) m (j + 1) (some (.int (j : Int))) (by omega)
    refine ⟨o3', ?_⟩
    have hb : b_choices_1 [some (.int (n : Int)), o1, some (.int (binN n j : Nat)), some (.int (j : Int))] M = .nx [some (.int (n : Int)), o1, some (.int (binN n (j + 1) : Nat)), some (.int (j : Int))] M := by
      unfold b_choices_1
      rw [setS_ap, ch_step (j := j) hn (by omega) rfl rfl rfl]
      rfl
    rw [List.range'_succ, List.map_cons, forGo_cons, show ([some (D.int (n : Int)), o1, some (.int (binN n j : Nat)), o3].set 3 (some (.int (j : Int)))) = [some (.int (n : Int)), o1, some (.int (binN n j : Nat)), some (.int (j : Int))] from rfl, hb, SRes.loop_nx, e, show j + 1 + m = j + (m + 1) by omega]
theorem ch_run {M : MS} {n k : Nat} (hn : n ≤ 2 ^ 68) (hk : k ≤ 100) : F_choices [.int (n : Int), .int (k : Int)] M = .ok (.int (binN n k : Nat)) M := by
  obtain ⟨o3, e⟩ := ch_loop (M := M) hn (o1 := some (.int (k : Int))) k 0 none (by omega)
  unfold F_choices
  rw [runD_ap, show startD 4 [D.int (n : Int), .int (k : Int)] = [some (.int (n : Int)), some (.int (k : Int)), none, none] from rfl]
  unfold m_choices
  have z0 : (setS 2 (constE (.int 1))) [some (.int (n : Int)), some (.int (k : Int)), none, none] M = .nx [some (.int (n : Int)), some (.int (k : Int)), some (.int (binN n 0 : Nat)), none] M := by
    rw [show binN n 0 = 1 by cases n <;> rfl]
    rfl
  have z1 : (forS (range1I (consA (nameE 1) nilA)) (nameG 3) b_choices_1) [some (.int (n : Int)), some (.int (k : Int)), some (.int (binN n 0 : Nat)), none] M = .nx [some (.int (n : Int)), some (.int (k : Int)), some (.int (binN n (0 + k) : Nat)), o3] M := by
    rw [range1_for (m := k) (by omega) rfl]
    exact e
  rw [seqS_ap, z0, SRes.seq_nx, seqS_ap, z1, SRes.seq_nx, Nat.zero_add]
  rfl
theorem lch_loop {M : MS} {n : Nat} (hn : n ≤ 2 ^ 68) {o1 : Option D} : ∀ (m j : Nat) (o4 : Option D), j + m ≤ 100 → ∃ o4', forGo (fun _ => True) (nameG 4) b_l_choices_1 ((List.range' j m).map fun t : Nat => D.int (t : Int)) [some (.int (n : Int)), o1, some (.int (fall n j)), some (.int (facI j)), o4] M = .nx [some (.int (n : Int)), o1, some (.int (fall n (j + m))), some (.int (facI (j + m))), o4'] M
  | 0, j, o4, _ => ⟨o4, by simp⟩
  | m + 1, j, o4, h => by
    obtain ⟨o4', e⟩ := lch_loop (M := M) hn (o1 := o1) m (j + 1) (some (.int (j : Int))) (by omega)
    refine ⟨o4', ?_⟩
    have hb : b_l_choices_1 [some (.int (n : Int)), o1, some (.int (fall n j)), some (.int (facI j)), some (.int (j : Int))] M = .nx [some (.int (n : Int)), o1, some (.int (fall n (j + 1))), some (.int (facI (j + 1))), some (.int (j : Int))] M := by
      unfold b_l_choices_1
      have s1 : binE subI (nameE 0) (nameE 4) [some (D.int (n : Int)), o1, some (.int (fall n j)), some (.int (facI j)), some (.int (j : Int))] M = .ok (.int ((n : Int) - j)) M := by rw [bin_to (x := .int (n : Int)) (y := .int (j : Int)) (M1 := M) (M2 := M) rfl rfl]; rfl
      have z0 : (setS 2 (binE mulW (nameE 2) (binE subI (nameE 0) (nameE 4)))) [some (.int (n : Int)), o1, some (.int (fall n j)), some (.int (facI j)), some (.int (j : Int))] M = .nx [some (.int (n : Int)), o1, some (.int (fall n (j + 1))), some (.int (facI j)), some (.int (j : Int))] M := by
        rw [setS_ap, bin_to (x := .int (fall n j)) (M1 := M) rfl s1, mulB (a := 69 * j) (b := 69) (fall_bd hn j (by omega)) (sub69 hn (by omega)) (by omega)]
        rfl
      have s3 : binE addD (nameE 4) (constE (.int 1)) [some (D.int (n : Int)), o1, some (.int (fall n (j + 1))), some (.int (facI j)), some (.int (j : Int))] M = .ok (.int ((j : Int) + 1)) M := by rw [bin_to (x := .int (j : Int)) (y := .int 1) (M1 := M) (M2 := M) rfl rfl, addD_int]
      rw [seqS_ap, z0, SRes.seq_nx, setS_ap, bin_to (x := .int (facI j)) (M1 := M) rfl s3, mulB (a := 7 * j) (b := 10) (fac_bd j (by omega)) (ten_bd (by omega)) (by omega)]
      rfl
    rw [List.range'_succ, List.map_cons, forGo_cons, show ([some (D.int (n : Int)), o1, some (.int (fall n j)), some (.int (facI j)), o4].set 4 (some (.int (j : Int)))) = [some (.int (n : Int)), o1, some (.int (fall n j)), some (.int (facI j)), some (.int (j : Int))] from rfl, hb, SRes.loop_nx, e, show j + 1 + m = j + (m + 1) by omega]
theorem fdivB {M : MS} {i j : Int} {a : Nat} (h : 0 < j) (h1 : j.natAbs ≤ 2 ^ a) (h2 : a < 9000) : fdivW (.int i) (.int j) M = .ok (.int (i / j)) M := if_pos ⟨h, by have := log2_le h1; omega⟩
theorem lch_run {M : MS} {n k : Nat} (hn : n ≤ 2 ^ 68) (hk : k ≤ 100) : F_l_choices [.int (n : Int), .int (k : Int)] M = .ok (.int (binN n k : Nat)) M := by
  obtain ⟨o4, e⟩ := lch_loop (M := M) hn (o1 := some (.int (k : Int))) k 0 none (by omega)
  unfold F_l_choices
  rw [runD_ap, show startD 5 [D.int (n : Int), .int (k : Int)] = [some (.int (n : Int)), some (.int (k : Int)), none, none, none] from rfl]
  unfold m_l_choices
  have z0 : (setS 2 (constE (.int 1))) [some (.int (n : Int)), some (.int (k : Int)), none, none, none] M = .nx [some (.int (n : Int)), some (.int (k : Int)), some (.int (fall n 0)), none, none] M := rfl
  have z1 : (setS 3 (constE (.int 1))) [some (.int (n : Int)), some (.int (k : Int)), some (.int (fall n 0)), none, none] M = .nx [some (.int (n : Int)), some (.int (k : Int)), some (.int (fall n 0)), some (.int (facI 0)), none] M := rfl
  have z2 : (forS (range1I (consA (nameE 1) nilA)) (nameG 4) b_l_choices_1) [some (.int (n : Int)), some (.int (k : Int)), some (.int (fall n 0)), some (.int (facI 0)), none] M = .nx [some (.int (n : Int)), some (.int (k : Int)), some (.int (fall n (0 + k))), some (.int (facI (0 + k))), o4] M := by
    rw [range1_for (m := k) (by omega) rfl]
    exact e
  rw [seqS_ap, z0, SRes.seq_nx, seqS_ap, z1, SRes.seq_nx, seqS_ap, z2, SRes.seq_nx, Nat.zero_add, retS_ap, bin_to (x := .int (fall n k)) (y := .int (facI k)) (M1 := M) (M2 := M) rfl rfl, fdivB (fac_pos k) (fac_bd k hk) (by omega), fall_div]
  rfl
abbrev rO (x : List Nat) : D := .obj "Rules" ["letters"] [.str x]
theorem no1 {M : MS} {x : Lr} {sd : SD} {i c : Nat} {s : String} (hs : sL s = [c]) (h : nameE i sd M = .ok (rO x) M) : valB (binE (inO "Rules" F_RulesD_containsD true) (constE (.str (sL s))) (nameE i)) sd M = .ok (!decide (c ∈ x)) M := by
  have r := has_run (M := M) (x := x) (y := [c]) (by simp)
  have q := inO_obj (neg := true) r
  rw [hs, valB_ap, bin_at (x := .str [c]) (y := rO x) rfl h, q, subIn_one]
  show Res.ok ((decide (1 = 1) && decide (c ∈ x)) != true) M = _
  cases decide (c ∈ x) <;> rfl
theorem not1 {M : MS} {x : Lr} {sd : SD} {i c : Nat} {s : String} (hs : sL s = [c]) (h : nameE i sd M = .ok (.str x) M) : valB (binE (inD true) (constE (.str (sL s))) (nameE i)) sd M = .ok (!decide (c ∈ x)) M := by
  rw [hs, valB_ap, bin_at (x := .str [c]) (y := .str x) rfl h, inD_str, subIn_one]
  show Res.ok (decide (c ∈ x) != true) M = _
  cases decide (c ∈ x) <;> rfl
theorem pow_loop {M : MS} {L : Nat} (hL : L ≤ 2 ^ 68) {o0 o2 : Option D} : ∀ (m j : Nat) (o4 : Option D), j + m ≤ 100 → ∃ o4', forGo (fun _ => True) (nameG 4) b_rows_of_letters_1 ((List.range' j m).map fun t : Nat => D.int (t : Int)) [o0, some (.int (L : Int)), o2, some (.int ((L ^ j : Nat) : Int)), o4] M = .nx [o0, some (.int (L : Int)), o2, some (.int ((L ^ (j + m) : Nat) : Int)), o4'] M
  | 0, j, o4, _ => ⟨o4, by simp⟩
  | m + 1, j, o4, h => by
    obtain ⟨o4', e⟩ := pow_loop (M := M) hL (o0 := o0) (o2 := o2) m (j + 1) (some (.int (j : Int))) (by omega)
    refine ⟨o4', ?_⟩
    have b1 : ((L ^ j : Nat) : Int).natAbs ≤ 2 ^ (68 * j) := by
      rw [Int.natAbs_natCast, Nat.pow_mul]
      exact Nat.pow_le_pow_left hL j
    have hb : b_rows_of_letters_1 [o0, some (.int (L : Int)), o2, some (.int ((L ^ j : Nat) : Int)), some (.int (j : Int))] M = .nx [o0, some (.int (L : Int)), o2, some (.int ((L ^ (j + 1) : Nat) : Int)), some (.int (j : Int))] M := by
      unfold b_rows_of_letters_1
      rw [setS_ap, bin_to (x := .int ((L ^ j : Nat) : Int)) (y := .int (L : Int)) (M1 := M) (M2 := M) rfl rfl, mulB (a := 68 * j) (b := 68) b1 (by rw [Int.natAbs_natCast]; exact hL) (by omega), ← Int.natCast_mul, ← Nat.pow_succ]
      rfl
    rw [List.range'_succ, List.map_cons, forGo_cons, show ([o0, some (D.int (L : Int)), o2, some (.int ((L ^ j : Nat) : Int)), o4].set 4 (some (.int (j : Int)))) = [o0, some (.int (L : Int)), o2, some (.int ((L ^ j : Nat) : Int)), some (.int (j : Int))] from rfl, hb, SRes.loop_nx, e, show j + 1 + m = j + (m + 1) by omega]
/-- with A -/
def rowN (C I : Bool) (L n : Nat) : Int := if C = true then (if I = true then (if L < n then 0 else (binN L n : Nat)) else (binN (L + n - 1) n : Nat)) else (L ^ n : Nat)
theorem rows_run {M : MS} {x : Lr} {L n : Nat} (hL : L ≤ 2 ^ 67) (h1 : 1 ≤ n) (h2 : n ≤ 100) : F_rows_of_letters [.int (n : Int), .int (L : Int), rO x] M = .ok (.int (rowN (decide (67 ∈ x)) (decide (73 ∈ x)) L n)) M := by
  have hL8 : L + 100 ≤ 2 ^ 68 := by
    rw [e68]
    have : (2 : Nat) ^ 67 = 147573952589676412928 := by decide
    omega
  unfold F_rows_of_letters
  rw [runD_ap, show startD 5 [D.int (n : Int), .int (L : Int), rO x] = [some (.int (n : Int)), some (.int (L : Int)), some (rO x), none, none] from rfl]
  unfold m_rows_of_letters
  have t1 := no1 (M := M) (x := x) (sd := [some (.int (n : Int)), some (.int (L : Int)), some (rO x), none, none]) (i := 2) sLC1 rfl
  have t2 := hasr (M := M) (x := x) (sd := [some (.int (n : Int)), some (.int (L : Int)), some (rO x), none, none]) (i := 2) sLI1 rfl
  rw [seqS_ap, ifS_ok t1]
  by_cases hC : 67 ∈ x
  · rw [if_neg (by simp [hC]), passS_ap, SRes.seq_nx, seqS_ap, ifS_ok t2]
    by_cases hI : 73 ∈ x
    · have t3 : valB (binE gtD (nameE 0) (nameE 1)) [some (D.int (n : Int)), some (.int (L : Int)), some (rO x), none, none] M = .ok (decide ((n : Int) > L)) M := by
        rw [valB_ap, bin_to (x := .int (n : Int)) (y := .int (L : Int)) (M1 := M) (M2 := M) rfl rfl]
        simp
      rw [if_pos (by simp [hI]), seqS_ap, ifS_ok t3]
      by_cases hl : L < n
      · rw [show rowN (decide (67 ∈ x)) (decide (73 ∈ x)) L n = 0 by simp [rowN, hC, hI, hl], if_pos (by simp; omega)]
        rfl
      · rw [show rowN (decide (67 ∈ x)) (decide (73 ∈ x)) L n = (binN L n : Nat) by simp [rowN, hC, hI, hl], if_neg (by simp; omega), passS_ap, SRes.seq_nx, retS_ap, callE_at (n := 2) (ds := [.int (L : Int), .int (n : Int)]) (cons_arg (M' := M) rfl (one_arg (M' := M) rfl)) rfl, ch_run (by omega) h2]
        rfl
    · rw [show rowN (decide (67 ∈ x)) (decide (73 ∈ x)) L n = (binN (L + n - 1) n : Nat) by simp [rowN, hC, hI], if_neg (by simp [hI]), passS_ap, SRes.seq_nx, retS_ap]
      have s : binE subI (binE addD (nameE 1) (nameE 0)) (constE (.int 1)) [some (D.int (n : Int)), some (.int (L : Int)), some (rO x), none, none] M = .ok (.int ((L + n - 1 : Nat) : Int)) M := by
        rw [bin_to (x := .int ((L : Int) + n)) (y := .int 1) (M1 := M) (M2 := M) (by rw [bin_to (x := .int (L : Int)) (y := .int (n : Int)) (M1 := M) (M2 := M) rfl rfl, addD_int]) rfl]
        show Res.ok (D.int ((L : Int) + n - 1)) M = _
        congr 2
        omega
      rw [callE_at (n := 2) (cons_arg s (one_arg (x := .int (n : Int)) (M' := M) rfl)) rfl, ch_run (by omega) h2]
      rfl
  · rw [show rowN (decide (67 ∈ x)) (decide (73 ∈ x)) L n = (L ^ n : Nat) by simp [rowN, hC], if_pos (by simp [hC])]
    obtain ⟨o4, e⟩ := pow_loop (M := M) (L := L) (by omega) (o0 := some (.int (n : Int))) (o2 := some (rO x)) n 0 none (by omega)
    rw [Nat.zero_add, Nat.pow_zero] at e
    have z : forS (range1I (consA (nameE 0) nilA)) (nameG 4) b_rows_of_letters_1 [some (D.int (n : Int)), some (.int (L : Int)), some (rO x), some (.int 1), none] M = .nx [some (.int (n : Int)), some (.int (L : Int)), some (rO x), some (.int ((L ^ n : Nat) : Int)), o4] M := by
      rw [range1_for (m := n) (by omega) rfl]
      exact e
    rw [seqS_ap, show setS 3 (constE (.int 1)) [some (D.int (n : Int)), some (.int (L : Int)), some (rO x), none, none] M = .nx [some (.int (n : Int)), some (.int (L : Int)), some (rO x), some (.int 1), none] M from rfl, SRes.seq_nx, seqS_ap, z, SRes.seq_nx]
    rfl
theorem cix {M : MS} {q : Nat} {cs : List Int} {i : Nat} (hq : M[q]? = some (.lst (cs.map D.int))) (hi : i < cs.length) : ixD (.cell q) (.int (i : Int)) M = .ok (.int (cs.getD i 0)) M := by
  refine ixD_cell hq (atI_of ?_)
  rw [List.getElem?_map, List.getD_eq_getElem?_getD, List.getElem?_eq_getElem hi]
  rfl
/-- counts[i] * counts[n - i] -/
theorem prod_at {M : MS} {q n i : Nat} {cs : List Int} {sd : SD} {a b c : ME} (hq : M[q]? = some (.lst (cs.map D.int))) (hl : cs.length = n) (hB : Bd cs) (hn : n ≤ 100) (h1 : 1 ≤ i) (h2 : i < n) (ha : a sd M = .ok (.cell q) M) (hb : b sd M = .ok (.int (i : Int)) M) (hc : c sd M = .ok (.int (n : Int)) M) : binE mulW (binE ixD a b) (binE ixD a (binE subI c b)) sd M = .ok (.int (tmI cs n i)) M := by
  have s1 : binE ixD a b sd M = .ok (.int (cs.getD i 0)) M := by rw [bin_to ha hb, cix hq (by omega)]
  have s2 : binE subI c b sd M = .ok (.int ((n - i : Nat) : Int)) M := by
    rw [bin_to hc hb]
    show Res.ok (D.int ((n : Int) - i)) M = _
    congr 2
    omega
  have s3 : binE ixD a (binE subI c b) sd M = .ok (.int (cs.getD (n - i) 0)) M := by rw [bin_to ha s2, cix hq (by omega)]
  rw [bin_to s1 s3, mulB (hB i) (hB (n - i)) (by omega)]
  rfl
section
variable {M : MS} {q n : Nat} {cs : List Int} {x : Lr}
theorem pairs_loop (hq : M[q]? = some (.lst (cs.map D.int))) (hl : cs.length = n) (hB : Bd cs) (hn : n ≤ 100) {o5 : Option D} : ∀ (m j : Nat) (t : Int) (o4 : Option D), 1 ≤ j → j + m ≤ n → ∃ o4', forGo (fun _ => True) (nameG 4) b_pairs_of_parts_1 ((List.range' j m).map fun t : Nat => D.int (t : Int)) [some (.cell q), some (.int (n : Int)), some (rO x), some (.int t), o4, o5] M = .nx [some (.cell q), some (.int (n : Int)), some (rO x), some (.int (t + sumN (fun i => if (decide (67 ∈ x)) = false ∨ 2 * i < n then tmI cs n i else 0) (List.range' j m))), o4', o5] M
  | 0, j, t, o4, _, _ => ⟨o4, by simp [sumN]⟩
  | m + 1, j, t, o4, h1, h => by
    have e0 : sumN (fun i => if (decide (67 ∈ x)) = false ∨ 2 * i < n then tmI cs n i else 0) (List.range' j (m + 1)) = (if (decide (67 ∈ x)) = false ∨ 2 * j < n then tmI cs n j else 0) + sumN (fun i => if (decide (67 ∈ x)) = false ∨ 2 * i < n then tmI cs n i else 0) (List.range' (j + 1) m) := by
      rw [List.range'_succ]
      simp [sumN]
    obtain ⟨o4', e⟩ := pairs_loop hq hl hB hn (o5 := o5) m (j + 1) (t + (if (decide (67 ∈ x)) = false ∨ 2 * j < n then tmI cs n j else 0)) (some (.int (j : Int))) (by omega) (by omega)
    refine ⟨o4', ?_⟩
    have t1 := no1 (M := M) (x := x) (sd := [some (.cell q), some (.int (n : Int)), some (rO x), some (.int t), some (.int (j : Int)), o5]) (i := 2) sLC1 rfl
    have t2 : valB (binE ltD (binE mulW (constE (.int 2)) (nameE 4)) (nameE 1)) [some (.cell q), some (.int (n : Int)), some (rO x), some (.int t), some (.int (j : Int)), o5] M = .ok (decide (2 * j < n)) M := by
      rw [valB_ap, bin_to (x := .int (2 * (j : Int))) (y := .int (n : Int)) (M1 := M) (M2 := M) (by rw [bin_to (x := .int 2) (y := .int (j : Int)) (M1 := M) (M2 := M) rfl rfl, mulB (a := 10) (b := 10) (by decide) (ten_bd (by omega)) (by omega)]) rfl]
      simp
      omega
    have hb : b_pairs_of_parts_1 [some (.cell q), some (.int (n : Int)), some (rO x), some (.int t), some (.int (j : Int)), o5] M = .nx [some (.cell q), some (.int (n : Int)), some (rO x), some (.int (t + (if (decide (67 ∈ x)) = false ∨ 2 * j < n then tmI cs n j else 0))), some (.int (j : Int)), o5] M := by
      unfold b_pairs_of_parts_1
      rw [ifS_ok (orB_ok t1 t2)]
      by_cases g : (decide (67 ∈ x)) = false ∨ 2 * j < n
      · rw [if_pos g, if_pos (by rcases g with g | g <;> simp [g]), augS_ap, show nameE 3 [some (D.cell q), some (.int (n : Int)), some (rO x), some (.int t), some (.int (j : Int)), o5] M = .ok (.int t) M from rfl, SRes.ofE_ok, augK1_ap, prod_at hq hl hB hn h1 (by omega) rfl rfl rfl]
        rfl
      · rw [if_neg g, if_neg (by simp at g ⊢; exact ⟨g.1, g.2⟩), passS_ap, Int.add_zero]
    rw [List.range'_succ, List.map_cons, forGo_cons, show ([some (D.cell q), some (.int (n : Int)), some (rO x), some (.int t), o4, o5].set 4 (some (.int (j : Int)))) = [some (.cell q), some (.int (n : Int)), some (rO x), some (.int t), some (.int (j : Int)), o5] from rfl, hb, SRes.loop_nx, e, ← List.range'_succ, e0, Int.add_assoc]
theorem mid_at {sd : SD} {a b : ME} (hq : M[q]? = some (.lst (cs.map D.int))) (hl : cs.length = n) (h2 : 2 ≤ n) (ha : a sd M = .ok (.cell q) M) (hb : b sd M = .ok (.int (n : Int)) M) : binE ixD a (binE fdivI b (constE (.int 2))) sd M = .ok (.int (midI cs n)) M := by
  have s : binE fdivI b (constE (.int 2)) sd M = .ok (.int ((n / 2 : Nat) : Int)) M := by
    rw [bin_to (y := .int 2) (M2 := M) hb rfl, fdivI_int ⟨by omega, by omega⟩]
    congr 2
  rw [bin_to ha s, cix hq (by omega)]
  rfl
theorem even_at {sd : SD} {b : ME} (hb : b sd M = .ok (.int (n : Int)) M) : valB (binE (eqD false) (binE modI b (constE (.int 2))) (constE (.int 0))) sd M = .ok (decide (n % 2 = 0)) M := by
  rw [valB_ap, bin_to (x := .int ((n : Int) % 2)) (y := .int 0) (M1 := M) (M2 := M) (by rw [bin_to (y := .int 2) (M2 := M) hb rfl, modI_int (by omega)]) rfl, eqD_int]
  show Res.ok (((n : Int) % 2 == 0) != false) M = _
  congr 1
  rw [Bool.eq_iff_iff]
  simp
  omega
theorem mid_bd (hB : Bd cs) : (midI cs n).natAbs ≤ 2 ^ (40 * n) := Nat.le_trans (hB (n / 2)) (pow_le (by omega))
theorem inc_bd {m : Int} {k : Nat} (h : m.natAbs ≤ 2 ^ k) : (m - 1).natAbs ≤ 2 ^ (k + 1) ∧ (m + 1).natAbs ≤ 2 ^ (k + 1) := by
  have := Nat.one_le_two_pow (n := k)
  rw [Nat.pow_succ]
  omega
theorem pairs_run (hq : M[q]? = some (.lst (cs.map D.int))) (hl : cs.length = n) (hB : Bd cs) (h2 : 2 ≤ n) (hn : n ≤ 100) : F_pairs_of_parts [.cell q, .int (n : Int), rO x] M = .ok (.int (ppI (decide (67 ∈ x)) (decide (73 ∈ x)) cs n)) M := by
  obtain ⟨o4, e⟩ := pairs_loop (x := x) hq hl hB hn (o5 := none) (n - 1) 1 0 none (by omega) (by omega)
  rw [Int.zero_add] at e
  have z1 : (forS (range2I (consA (constE (.int 1)) (consA (nameE 1) nilA))) (nameG 4) b_pairs_of_parts_1) [some (.cell q), some (.int (n : Int)), some (rO x), some (.int 0), none, none] M = .nx [some (.cell q), some (.int (n : Int)), some (rO x), some (.int (sumN (fun i => if (decide (67 ∈ x)) = false ∨ 2 * i < n then tmI cs n i else 0) (List.range' 1 (n - 1)))), o4, none] M := by
    rw [range2_for (a := 1) (m := n - 1) (i := 1) (j := (n : Int)) (by omega) (by omega) (by omega) rfl rfl]
    exact e
  unfold F_pairs_of_parts ppI
  generalize sumN (fun i => if (decide (67 ∈ x)) = false ∨ 2 * i < n then tmI cs n i else 0) (List.range' 1 (n - 1)) = T at z1 ⊢
  rw [runD_ap, show startD 6 [D.cell q, .int (n : Int), rO x] = [some (.cell q), some (.int (n : Int)), some (rO x), none, none, none] from rfl]
  unfold m_pairs_of_parts
  rw [seqS_ap, show setS 3 (constE (.int 0)) [some (D.cell q), some (.int (n : Int)), some (rO x), none, none, none] M = .nx [some (.cell q), some (.int (n : Int)), some (rO x), some (.int 0), none, none] M from rfl, SRes.seq_nx, seqS_ap, z1, SRes.seq_nx, seqS_ap, ifS_ok (even_at (n := n) rfl)]
  by_cases g : n % 2 = 0
  · rw [if_pos (by simp [g]), if_pos g, seqS_ap, setS_ap, mid_at hq hl h2 rfl rfl]
    have mb := mid_bd (n := n) hB
    have ib := inc_bd mb
    generalize midI cs n = m at *
    rw [SRes.ofE_ok]
    have hset : ([some (D.cell q), some (.int (n : Int)), some (rO x), some (.int T), o4, none].set 5 (some (.int m))) = [some (.cell q), some (.int (n : Int)), some (rO x), some (.int T), o4, some (.int m)] := rfl
    rw [setK_ap, hset, SRes.seq_nx]
    have tc := hasr (M := M) (x := x) (sd := [some (.cell q), some (.int (n : Int)), some (rO x), some (.int T), o4, some (.int m)]) (i := 2) sLC1 rfl
    have ti := hasr (M := M) (x := x) (sd := [some (.cell q), some (.int (n : Int)), some (rO x), some (.int T), o4, some (.int m)]) (i := 2) sLI1 rfl
    have aug : ∀ (f : D → D → MS → Res D) (a : ME) (v : Int) (w : Int), a [some (.cell q), some (.int (n : Int)), some (rO x), some (.int T), o4, some (.int m)] M = .ok (.int v) M → f (.int T) (.int v) M = .ok (.int w) M → augS 3 f a [some (.cell q), some (.int (n : Int)), some (rO x), some (.int T), o4, some (.int m)] M = .nx [some (.cell q), some (.int (n : Int)), some (rO x), some (.int w), o4, some (.int m)] M := fun f a v w h hf => by
      rw [augS_ap, show nameE 3 [some (D.cell q), some (.int (n : Int)), some (rO x), some (.int T), o4, some (.int m)] M = .ok (.int T) M from rfl, SRes.ofE_ok, augK1_ap, h, SRes.ofE_ok, augK2_ap, hf]
      rfl
    have p1 : binE fdivI (binE mulW (nameE 5) (binE subI (nameE 5) (constE (.int 1)))) (constE (.int 2)) [some (D.cell q), some (.int (n : Int)), some (rO x), some (.int T), o4, some (.int m)] M = .ok (.int (m * (m - 1) / 2)) M := by
      rw [bin_to (x := .int (m * (m - 1))) (y := .int 2) (M1 := M) (M2 := M) (by rw [bin_to (x := .int m) (y := .int (m - 1)) (M1 := M) (M2 := M) rfl rfl, mulB mb ib.1 (by omega)]) rfl, fdivI_int ⟨by omega, by omega⟩]
    have p2 : binE fdivI (binE mulW (nameE 5) (binE addD (nameE 5) (constE (.int 1)))) (constE (.int 2)) [some (D.cell q), some (.int (n : Int)), some (rO x), some (.int T), o4, some (.int m)] M = .ok (.int (m * (m + 1) / 2)) M := by
      rw [bin_to (x := .int (m * (m + 1))) (y := .int 2) (M1 := M) (M2 := M) (by rw [bin_to (x := .int m) (y := .int (m + 1)) (M1 := M) (M2 := M) rfl (by rw [bin_to (x := .int m) (y := .int 1) (M1 := M) (M2 := M) rfl rfl, addD_int]), mulB mb ib.2 (by omega)]) rfl, fdivI_int ⟨by omega, by omega⟩]
    rw [ifS_ok (andB_r tc ti)]
    by_cases hC : 67 ∈ x
    · by_cases hI : 73 ∈ x
      · rw [if_pos (by simp [hC, hI]), aug _ _ _ _ p1 rfl, if_pos (by simp [hC, hI])]
        rfl
      · rw [if_neg (by simp [hI]), ifS_ok tc, if_pos (by simp [hC]), aug _ _ _ _ p2 rfl, if_neg (by simp [hI]), if_pos (by simp [hC])]
        rfl
    · by_cases hI : 73 ∈ x
      · rw [if_neg (by simp [hC]), ifS_ok tc, if_neg (by simp [hC]), ifS_ok ti, if_pos (by simp [hI]), aug isubX (nameE 5) m (T - m) rfl rfl, if_neg (by simp [hC]), if_neg (by simp [hC]), if_pos (by simp [hI])]
        rfl
      · rw [if_neg (by simp [hC]), ifS_ok tc, if_neg (by simp [hC]), ifS_ok ti, if_neg (by simp [hI]), if_neg (by simp [hC]), if_neg (by simp [hC]), if_neg (by simp [hI]), Int.add_zero]
        rfl
  · rw [if_neg (by simp [g]), if_neg g, Int.add_zero]
    rfl
end
theorem callKE_at {n np nk : Nat} {F : FM} {g : List D → List D → List D} {ms mk : MA} {sd : SD} {M M1 M2 : MS} {ds es : List D} (h1 : ms sd M = .ok ds M1) (h2 : mk sd M1 = .ok es M2) (h : ds.length = np ∧ es.length = nk ∧ (g ds es).length = n) : callKE n np nk F g ms mk sd M = F (g ds es) M2 := by
  rw [callKE_ap, h1, Res.bind_ok, callKK_ap, h2, Res.bind_ok, callKK2_ap h]
def cntL (f : List Int → Nat → Int) (L : Int) : Nat → List Int
  | 0 => [0, L]
  | k + 1 => cntL f L k ++ [f (cntL f L k) (k + 2)]
theorem cntL_len (f : List Int → Nat → Int) (L : Int) : ∀ k, (cntL f L k).length = k + 2
  | 0 => rfl
  | k + 1 => by simp [cntL, cntL_len f L k]
theorem cntL_bd {f : List Int → Nat → Int} {L : Nat} (hL : L ≤ 2 ^ 68) (hf : ∀ (cs : List Int) (n : Nat), Bd cs → cs.length = n → 2 ≤ n → n ≤ 100 → (f cs n).natAbs ≤ 2 ^ (80 * n - 10)) : ∀ k, k ≤ 99 → Bd (cntL f (L : Int) k)
  | 0, _ => Bd.base (by have := pow_le (show 68 ≤ 70 by decide); omega)
  | k + 1, h => by
    have ih := cntL_bd hL hf k (by omega)
    have := hf _ (k + 2) ih (cntL_len _ _ k) (by omega) (by omega)
    exact ih.snoc (by rw [cntL_len]; exact this)
theorem append_at {M : MS} {q : Nat} {sd : SD} {a b : ME} {M' : MS} {ds : List D} {v : D} (ha : a sd M = .ok (.cell q) M) (hb : b sd M = .ok v M') (hm : M[q]? = some (.lst ds)) (hm' : M'[q]? = some (.lst ds)) (hl : ds.length < 1000) : exprS (bmE "list" appendF a (consA b nilA)) sd M = .nx sd (M'.set q (.lst (ds ++ [v]))) := by
  have ty : tyvD M "list" (.cell q) = true := by unfold tyvD; simp [hm]
  have ap : appendF (.cell q) [v] M' = .ok .non (M'.set q (.lst (ds ++ [v]))) := by
    unfold appendF
    simp only [hm']
    rw [if_pos (by omega)]
  rw [exprS_ap, bmE_ap, ha, Res.bind_ok, bmK_ap ty, one_arg hb, Res.bind_ok]
  show SRes.ofE (appendF (.cell q) [v] M') sd (exprK sd) = _
  rw [ap]
  rfl
theorem form_loop {M : MS} {q : Nat} {x : Lr} {L : Nat} (hL : L ≤ 2 ^ 68) (hl : q < M.length) {o0 o1 o3 : Option D} : ∀ (m k : Nat) (o5 : Option D), k + m ≤ 99 → ∃ o5', forGo (fun _ => True) (nameG 5) b_form_count_1 ((List.range' (k + 2) m).map fun t : Nat => D.int (t : Int)) [o0, o1, some (rO x), o3, some (.cell q), o5] (M.set q (.lst ((cntL (ppI (decide (67 ∈ x)) (decide (73 ∈ x))) (L : Int) k).map D.int))) = .nx [o0, o1, some (rO x), o3, some (.cell q), o5'] (M.set q (.lst ((cntL (ppI (decide (67 ∈ x)) (decide (73 ∈ x))) (L : Int) (k + m)).map D.int)))
  | 0, k, o5, _ => ⟨o5, by simp⟩
  | m + 1, k, o5, h => by
    obtain ⟨o5', e⟩ := form_loop hL hl (x := x) (o0 := o0) (o1 := o1) (o3 := o3) m (k + 1) (some (.int ((k + 2 : Nat) : Int))) (by omega)
    refine ⟨o5', ?_⟩
    have hB := cntL_bd (f := ppI (decide (67 ∈ x)) (decide (73 ∈ x))) hL (fun cs n a _ b c => pp_bd _ _ a b c) k (by omega)
    have hn := cntL_len (ppI (decide (67 ∈ x)) (decide (73 ∈ x))) (L : Int) k
    have hc : cntL (ppI (decide (67 ∈ x)) (decide (73 ∈ x))) (L : Int) (k + 1) = cntL (ppI (decide (67 ∈ x)) (decide (73 ∈ x))) (L : Int) k ++ [ppI (decide (67 ∈ x)) (decide (73 ∈ x)) (cntL (ppI (decide (67 ∈ x)) (decide (73 ∈ x))) (L : Int) k) (k + 2)] := rfl
    rw [hc] at e
    generalize cntL (ppI (decide (67 ∈ x)) (decide (73 ∈ x))) (L : Int) k = cs at *
    have gq : (M.set q (.lst (cs.map D.int)))[q]? = some (.lst (cs.map D.int)) := List.getElem?_set_self hl
    have hb : b_form_count_1 [o0, o1, some (rO x), o3, some (.cell q), some (.int ((k + 2 : Nat) : Int))] (M.set q (.lst (cs.map D.int))) = .nx [o0, o1, some (rO x), o3, some (.cell q), some (.int ((k + 2 : Nat) : Int))] (M.set q (.lst ((cs ++ [ppI (decide (67 ∈ x)) (decide (73 ∈ x)) cs (k + 2)]).map D.int))) := by
      unfold b_form_count_1
      have c : callE 3 F_pairs_of_parts (· ++ []) (consA (nameE 4) (consA (nameE 5) (consA (nameE 2) nilA))) [o0, o1, some (rO x), o3, some (.cell q), some (.int ((k + 2 : Nat) : Int))] (M.set q (.lst (cs.map D.int))) = .ok (.int (ppI (decide (67 ∈ x)) (decide (73 ∈ x)) cs (k + 2))) (M.set q (.lst (cs.map D.int))) := by
        rw [callE_at (n := 3) (ds := [.cell q, .int ((k + 2 : Nat) : Int), rO x]) (cons_arg (M' := M.set q (.lst (cs.map D.int))) rfl (cons_arg (M' := M.set q (.lst (cs.map D.int))) rfl (one_arg (M' := M.set q (.lst (cs.map D.int))) rfl))) rfl]
        exact pairs_run gq hn hB (by omega) (by omega)
      rw [append_at rfl c gq gq (by simp; omega), List.set_set, List.map_append]
      rfl
    rw [List.range'_succ, List.map_cons, forGo_cons, show ([o0, o1, some (rO x), o3, some (D.cell q), o5].set 5 (some (.int ((k + 2 : Nat) : Int)))) = [o0, o1, some (rO x), o3, some (.cell q), some (.int ((k + 2 : Nat) : Int))] from rfl, hb, SRes.loop_nx, show k + 2 + 1 = k + 1 + 2 by omega, e, show k + 1 + m = k + (m + 1) by omega]
/-- the number of letters that count -/
def ltN (x : Lr) (m : Nat) : Nat := m + (if 85 ∈ x then 0 else 1) + (if 90 ∈ x then 0 else 1)
theorem noE1 {M : MS} {x : Lr} {sd : SD} {i c : Nat} {s : String} (hs : sL s = [c]) (h : nameE i sd M = .ok (rO x) M) : appE intF (consA (binE (inO "Rules" F_RulesD_containsD true) (constE (.str (sL s))) (nameE i)) nilA) sd M = .ok (.int ((if c ∈ x then 0 else 1 : Nat) : Int)) M := by
  have r := has_run (M := M) (x := x) (y := [c]) (by simp)
  have q := inO_obj (neg := true) r
  have e : binE (inO "Rules" F_RulesD_containsD true) (constE (.str (sL s))) (nameE i) sd M = .ok (.bl (!decide (c ∈ x))) M := by
    rw [hs, bin_at (x := .str [c]) (y := rO x) rfl h, q, subIn_one]
    show Res.ok (D.bl ((decide (1 = 1) && decide (c ∈ x)) != true)) M = _
    cases decide (c ∈ x) <;> rfl
  rw [appE_ap, one_arg e, Res.bind_ok, intF_bl]
  by_cases hc : c ∈ x <;> simp [hc]
theorem inE1 {M : MS} {x : Lr} {sd : SD} {i c : Nat} {s : String} (hs : sL s = [c]) (h : nameE i sd M = .ok (.str x) M) : appE intF (consA (binE (inD false) (constE (.str (sL s))) (nameE i)) nilA) sd M = .ok (.int ((if c ∈ x then 1 else 0 : Nat) : Int)) M := by
  have e : binE (inD false) (constE (.str (sL s))) (nameE i) sd M = .ok (.bl (decide (c ∈ x))) M := by
    rw [hs, bin_at (x := .str [c]) (y := .str x) rfl h, inD_str, subIn_one]
    show Res.ok (D.bl (decide (c ∈ x) != false)) M = _
    cases decide (c ∈ x) <;> rfl
  rw [appE_ap, one_arg e, Res.bind_ok, intF_bl]
  by_cases hc : c ∈ x <;> simp [hc]
/-- what both tell -/
def formV (x : Lr) (L n : Nat) : Int := if 65 ∈ x then rowN (decide (67 ∈ x)) (decide (73 ∈ x)) L n else (cntL (ppI (decide (67 ∈ x)) (decide (73 ∈ x))) (L : Int) (n - 1)).getD n 0
theorem form_run {M : MS} {x : Lr} {m n : Nat} (hx : ¬ (65 ∈ x ∧ 73 ∈ x ∧ 67 ∉ x)) (hm : m ≤ 2 ^ 67 - 2) (h1 : 1 ≤ n) (h2 : n ≤ 100) : ∃ M', F_form_count [.int (n : Int), .int (m : Int), rO x] M = .ok (.int (if n = 1 then (m : Int) + 2 else formV x (ltN x m) n)) M' ∧ Ext M M' := by
  have hL : ltN x m ≤ 2 ^ 67 := by
    have : (2 : Nat) ^ 67 = 147573952589676412928 := by decide
    unfold ltN
    split <;> split <;> omega
  have hL8 : ltN x m ≤ 2 ^ 68 := Nat.le_trans hL (pow_le (by decide))
  unfold F_form_count
  rw [runD_ap, show startD 6 [D.int (n : Int), .int (m : Int), rO x] = [some (.int (n : Int)), some (.int (m : Int)), some (rO x), none, none, none] from rfl]
  unfold m_form_count
  have tA := hasr (M := M) (x := x) (sd := [some (.int (n : Int)), some (.int (m : Int)), some (rO x), none, none, none]) (i := 2) sLA1 rfl
  have tI := hasr (M := M) (x := x) (sd := [some (.int (n : Int)), some (.int (m : Int)), some (rO x), none, none, none]) (i := 2) sLI1 rfl
  have tC := no1 (M := M) (x := x) (sd := [some (.int (n : Int)), some (.int (m : Int)), some (rO x), none, none, none]) (i := 2) sLC1 rfl
  rw [seqS_ap, ifS_ok (andB_ok tA (andB_ok tI tC)), if_neg (by simpa using hx), passS_ap, SRes.seq_nx]
  have t1 : valB (binE (eqD false) (nameE 0) (constE (.int 1))) [some (D.int (n : Int)), some (.int (m : Int)), some (rO x), none, none, none] M = .ok (decide (n = 1)) M := by
    rw [valB_ap, bin_to (x := .int (n : Int)) (y := .int 1) (M1 := M) (M2 := M) rfl rfl, eqD_int]
    show Res.ok (((n : Int) == 1) != false) M = _
    congr 1
    rw [Bool.eq_iff_iff]
    simp
    omega
  rw [seqS_ap, ifS_ok t1]
  by_cases hn : n = 1
  · refine ⟨M, ?_, Ext.refl M⟩
    rw [if_pos (by simp [hn]), if_pos hn, retS_ap, bin_to (x := .int (m : Int)) (y := .int 2) (M1 := M) (M2 := M) rfl rfl, addD_int]
    rfl
  rw [if_neg (by simp [hn]), passS_ap, SRes.seq_nx]
  have z3 : (setS 3 (binE addD (binE addD (nameE 1) (appE intF (consA (binE (inO "Rules" F_RulesD_containsD true) (constE (.str (sL "U"))) (nameE 2)) nilA))) (appE intF (consA (binE (inO "Rules" F_RulesD_containsD true) (constE (.str (sL "Z"))) (nameE 2)) nilA)))) [some (.int (n : Int)), some (.int (m : Int)), some (rO x), none, none, none] M = .nx [some (.int (n : Int)), some (.int (m : Int)), some (rO x), some (.int (ltN x m : Nat)), none, none] M := by
    rw [setS_ap, bin_to (x := .int ((m : Int) + ((if 85 ∈ x then 0 else 1 : Nat) : Int))) (M1 := M) (by rw [bin_to (x := .int (m : Int)) (M1 := M) rfl (noE1 (x := x) (i := 2) sLU1 rfl), addD_int]) (noE1 (x := x) (i := 2) sLZ1 rfl), addD_int]
    unfold ltN
    rw [SRes.ofE_ok]
    simp only [Int.natCast_add]
    rfl
  rw [seqS_ap, z3, SRes.seq_nx]
  have tA' := hasr (M := M) (x := x) (sd := [some (.int (n : Int)), some (.int (m : Int)), some (rO x), some (.int (ltN x m : Nat)), none, none]) (i := 2) sLA1 rfl
  generalize ltN x m = L at *
  rw [seqS_ap, ifS_ok tA']
  by_cases hA : 65 ∈ x
  · refine ⟨M, ?_, Ext.refl M⟩
    rw [if_pos (by simp [hA]), retS_ap, callE_at (n := 3) (ds := [.int (n : Int), .int (L : Int), rO x]) (cons_arg (M' := M) rfl (cons_arg (M' := M) rfl (one_arg (M' := M) rfl))) rfl, rows_run hL h1 h2, show (if n = 1 then (m : Int) + 2 else formV x L n) = rowN (decide (67 ∈ x)) (decide (73 ∈ x)) L n by simp [hn, formV, hA]]
    rfl
  · rw [if_neg (by simp [hA]), passS_ap, SRes.seq_nx, show (if n = 1 then (m : Int) + 2 else formV x L n) = (cntL (ppI (decide (67 ∈ x)) (decide (73 ∈ x))) (L : Int) (n - 1)).getD n 0 by simp [hn, formV, hA]]
    obtain ⟨o5, e⟩ := form_loop (M := M ++ [.lst [.int 0, .int (L : Int)]]) (q := M.length) (x := x) hL8 (by simp) (o0 := some (.int (n : Int))) (o1 := some (.int (m : Int))) (o3 := some (.int (L : Int))) (n - 1) 0 none (by omega)
    have e0 : (M ++ [MO.lst [.int 0, .int (L : Int)]]).set M.length (.lst ((cntL (ppI (decide (67 ∈ x)) (decide (73 ∈ x))) (L : Int) 0).map D.int)) = M ++ [.lst [.int 0, .int (L : Int)]] := by
      rw [set_last]
      rfl
    rw [e0, set_last, Nat.zero_add, Nat.zero_add] at e
    have hlen := cntL_len (ppI (decide (67 ∈ x)) (decide (73 ∈ x))) (L : Int) (n - 1)
    refine ⟨M ++ [.lst ((cntL (ppI (decide (67 ∈ x)) (decide (73 ∈ x))) (L : Int) (n - 1)).map D.int)], ?_, Ext.app _ _⟩
    generalize cntL (ppI (decide (67 ∈ x)) (decide (73 ∈ x))) (L : Int) (n - 1) = cs at *
    have z4 : (setS 4 (celE (consA (constE (.int 0)) (consA (nameE 3) nilA)))) [some (.int (n : Int)), some (.int (m : Int)), some (rO x), some (.int (L : Int)), none, none] M = .nx [some (.int (n : Int)), some (.int (m : Int)), some (rO x), some (.int (L : Int)), some (.cell M.length), none] (M ++ [.lst [.int 0, .int (L : Int)]]) := rfl
    have z5 : (forS (range2I (consA (constE (.int 2)) (consA (binE addD (nameE 0) (constE (.int 1))) nilA))) (nameG 5) b_form_count_1) [some (.int (n : Int)), some (.int (m : Int)), some (rO x), some (.int (L : Int)), some (.cell M.length), none] (M ++ [.lst [.int 0, .int (L : Int)]]) = .nx [some (.int (n : Int)), some (.int (m : Int)), some (rO x), some (.int (L : Int)), some (.cell M.length), o5] (M ++ [.lst (cs.map D.int)]) := by
      rw [range2_for (a := 2) (m := n - 1) (i := 2) (j := (n : Int) + 1) (by omega) (by omega) (by omega) rfl (by rw [bin_to (x := .int (n : Int)) (y := .int 1) (M1 := M ++ [.lst [.int 0, .int (L : Int)]]) (M2 := M ++ [.lst [.int 0, .int (L : Int)]]) rfl rfl, addD_int])]
      exact e
    rw [seqS_ap, z4, SRes.seq_nx, seqS_ap, z5, SRes.seq_nx, retS_ap, bin_to (x := .cell M.length) (y := .int (n : Int)) (M1 := M ++ [.lst (cs.map D.int)]) (M2 := M ++ [.lst (cs.map D.int)]) rfl rfl, cix get_last (by omega)]
    rfl
theorem sum_at {M : MS} {xs : List Int} : sumF [.lst (xs.map D.int)] M = .ok (.int xs.sum) M := by
  unfold sumF
  rw [show lst1 [.lst (xs.map D.int)] M = some (xs.map D.int) from rfl, Option.bind_some, intsOf_map]
theorem lc_rng2 {ma : MA} {s : Nat} {te : ME} {sd : SD} {M : MS} {a m : Nat} {i j : Int} {g : Nat → D} (hi : i = (a : Int)) (hj : j = ((a + m : Nat) : Int)) (hn : a + m ≤ 1000000) (h : ma sd M = .ok [.int i, .int j] M) (ht : ∀ i, a ≤ i → i < a + m → te ((wipeD sd [s]).set s (some (.int (i : Int)))) M = .ok (g i) M) : lcE (range2I ma) (nameG s) yesB te [s] sd M = .ok (.lst ((List.range' a m).map g)) M := by
  subst hi hj
  have lc := lc_map (te := te) (i := s) (w := wipeD sd [s]) (M := M) (g := fun j : Nat => D.int (j : Int)) (f := g) (xs := List.range' a m) (by simp; omega) (fun j hj => by
    have := List.mem_range'.mp hj
    exact ht j (by omega) (by omega))
  have e : ((rangeN (a : Int) ((a + m : Nat) : Int)).map D.int) = (List.range' a m).map fun k : Nat => D.int (k : Int) := by
    rw [rng, List.map_map]
    rfl
  rw [lcE_ap, range2I_ap, h, Res.bind_ok, r2K_ap (by omega), Res.bind_ok, lcK_ap]
  show (Res.bind (Res.ne (lcGo (fun _ => True) _ _ _ _ ((rangeN (a : Int) ((a + m : Nat) : Int)).map D.int) _ _)) _) = _
  rw [e, lc]
  rfl
/-- the next number of the law's list -/
def dueF (x : Lr) (L : Nat) (cs : List Int) (n : Nat) : Int := if 65 ∈ x then (L : Int) * cs.getD (n - 1) 0 else ddI (decide (67 ∈ x)) (decide (73 ∈ x)) cs n
theorem due_bd {x : Lr} {L : Nat} (hL : L ≤ 2 ^ 68) {cs : List Int} {n : Nat} (h : Bd cs) (h2 : 2 ≤ n) (h3 : n ≤ 100) : (dueF x L cs n).natAbs ≤ 2 ^ (80 * n - 10) := by
  unfold dueF
  split
  · rw [Int.natAbs_mul, Int.natAbs_natCast]
    refine Nat.le_trans (Nat.mul_le_mul hL (h (n - 1))) ?_
    rw [← Nat.pow_add]
    exact pow_le (by omega)
  · rw [← pp_dd _ _ _ _ h2]
    exact pp_bd _ _ h h2 h3
theorem due_loop {M : MS} {q : Nat} {x : Lr} {L : Nat} (hL : L ≤ 2 ^ 68) (hl : q < M.length) {o0 o1 : Option D} : ∀ (m k : Nat) (o5 o6 o7 o8 : Option D), k + m ≤ 99 → ∃ o5' o6' o7' o8', forGo (fun _ => True) (nameG 5) b_l_due_1 ((List.range' (k + 2) m).map fun t : Nat => D.int (t : Int)) [o0, o1, some (.str x), some (.int (L : Int)), some (.cell q), o5, o6, o7, o8] (M.set q (.lst ((cntL (dueF x L) (L : Int) k).map D.int))) = .nx [o0, o1, some (.str x), some (.int (L : Int)), some (.cell q), o5', o6', o7', o8'] (M.set q (.lst ((cntL (dueF x L) (L : Int) (k + m)).map D.int)))
  | 0, k, o5, o6, o7, o8, _ => ⟨o5, o6, o7, o8, by simp⟩
  | m + 1, k, o5, o6, o7, o8, h => by
    have hB := cntL_bd (f := dueF x L) hL (fun cs n a _ b c => due_bd hL a b c) k (by omega)
    have hn := cntL_len (dueF x L) (L : Int) k
    have hc : cntL (dueF x L) (L : Int) (k + 1) = cntL (dueF x L) (L : Int) k ++ [dueF x L (cntL (dueF x L) (L : Int) k) (k + 2)] := rfl
    have ih := fun o6 o7 => due_loop hL hl (x := x) (o0 := o0) (o1 := o1) m (k + 1) (some (.int ((k + 2 : Nat) : Int))) o6 o7 o8 (by omega)
    rw [hc] at ih
    generalize cntL (dueF x L) (L : Int) k = cs at *
    generalize hnn : k + 2 = n at *
    have gq : (M.set q (.lst (cs.map D.int)))[q]? = some (.lst (cs.map D.int)) := List.getElem?_set_self hl
    have st2 : ∀ y, (M.set q (.lst (cs.map D.int))).set q y = M.set q y := fun y => List.set_set ..
    have hb : ∃ o6' o7', b_l_due_1 [o0, o1, some (.str x), some (.int (L : Int)), some (.cell q), some (.int (n : Int)), o6, o7, o8] (M.set q (.lst (cs.map D.int))) = .nx [o0, o1, some (.str x), some (.int (L : Int)), some (.cell q), some (.int (n : Int)), o6', o7', o8] (M.set q (.lst ((cs ++ [dueF x L cs n]).map D.int))) := by
      generalize M.set q (.lst (cs.map D.int)) = N at *
      unfold b_l_due_1
      have lc := lc_rng2 (ma := consA (constE (.int 1)) (consA (nameE 5) nilA)) (s := 8) (te := e_l_due_1) (sd := [o0, o1, some (.str x), some (.int (L : Int)), some (.cell q), some (.int (n : Int)), o6, o7, o8]) (M := N) (a := 1) (m := n - 1) (i := 1) (j := (n : Int)) (g := fun i => .int (tmI cs n i)) (by omega) (by omega) (by omega) (cons_arg (M' := N) rfl (one_arg (M' := N) rfl)) (fun i h1 h2 => by
        unfold e_l_due_1
        exact prod_at gq hn hB (by omega) h1 (by omega) rfl rfl rfl)
      have z0 : (setS 6 (appE sumF (consA (lcE (range2I (consA (constE (.int 1)) (consA (nameE 5) nilA))) (nameG 8) yesB e_l_due_1 [8]) nilA))) [o0, o1, some (.str x), some (.int (L : Int)), some (.cell q), some (.int (n : Int)), o6, o7, o8] N = .nx [o0, o1, some (.str x), some (.int (L : Int)), some (.cell q), some (.int (n : Int)), some (.int (sumN (tmI cs n) (List.range' 1 (n - 1)))), o7, o8] N := by
        rw [setS_ap, appE_ap, one_arg lc, Res.bind_ok, show ((List.range' 1 (n - 1)).map fun i => D.int (tmI cs n i)) = ((List.range' 1 (n - 1)).map (tmI cs n)).map D.int by rw [List.map_map]; rfl, sum_at]
        rfl
      rw [seqS_ap, z0, SRes.seq_nx]
      unfold dueF ddI
      generalize sumN (tmI cs n) (List.range' 1 (n - 1)) = T
      rw [seqS_ap, show setS 7 (constE (.int 0)) [o0, o1, some (D.str x), some (.int (L : Int)), some (.cell q), some (.int (n : Int)), some (.int T), o7, o8] N = .nx [o0, o1, some (.str x), some (.int (L : Int)), some (.cell q), some (.int (n : Int)), some (.int T), some (.int 0), o8] N from rfl, SRes.seq_nx]
      have ev := even_at (n := n) (sd := [o0, o1, some (.str x), some (.int (L : Int)), some (.cell q), some (.int (n : Int)), some (.int T), some (.int 0), o8]) (b := nameE 5) (M := N) rfl
      have z2 : (ifS (valB (binE (eqD false) (binE modI (nameE 5) (constE (.int 2))) (constE (.int 0)))) (setS 7 (binE ixD (nameE 4) (binE fdivI (nameE 5) (constE (.int 2))))) passS) [o0, o1, some (.str x), some (.int (L : Int)), some (.cell q), some (.int (n : Int)), some (.int T), some (.int 0), o8] N = .nx [o0, o1, some (.str x), some (.int (L : Int)), some (.cell q), some (.int (n : Int)), some (.int T), some (.int (if n % 2 = 0 then midI cs n else 0)), o8] N := by
        rw [ifS_ok ev]
        by_cases g : n % 2 = 0
        · rw [if_pos (by simp [g]), if_pos g, setS_ap, mid_at gq hn (by omega) rfl rfl]
          rfl
        · rw [if_neg (by simp [g]), if_neg g]
          rfl
      rw [seqS_ap, z2, SRes.seq_nx]
      have qb : (if n % 2 = 0 then midI cs n else 0).natAbs ≤ 2 ^ (40 * n) := by
        split
        · exact mid_bd hB
        · simp
      dsimp only
      generalize (if n % 2 = 0 then midI cs n else 0) = e at *
      have tA := hast (M := N) (x := x) (sd := [o0, o1, some (.str x), some (.int (L : Int)), some (.cell q), some (.int (n : Int)), some (.int T), some (.int e), o8]) (i := 2) sLA1 rfl
      have tC := hast (M := N) (x := x) (sd := [o0, o1, some (.str x), some (.int (L : Int)), some (.cell q), some (.int (n : Int)), some (.int T), some (.int e), o8]) (i := 2) sLC1 rfl
      have tI := hast (M := N) (x := x) (sd := [o0, o1, some (.str x), some (.int (L : Int)), some (.cell q), some (.int (n : Int)), some (.int T), some (.int e), o8]) (i := 2) sLI1 rfl
      have iI := inE1 (M := N) (x := x) (sd := [o0, o1, some (.str x), some (.int (L : Int)), some (.cell q), some (.int (n : Int)), some (.int T), some (.int e), o8]) (i := 2) sLI1 rfl
      have fin : ∀ v : Int, exprS (bmE "list" appendF (nameE 4) (consA (nameE 6) nilA)) [o0, o1, some (D.str x), some (.int (L : Int)), some (.cell q), some (.int (n : Int)), some (.int v), some (.int e), o8] N = .nx [o0, o1, some (.str x), some (.int (L : Int)), some (.cell q), some (.int (n : Int)), some (.int v), some (.int e), o8] (M.set q (.lst ((cs ++ [v]).map D.int))) := fun v => by
        rw [append_at (q := q) (v := .int v) (M' := N) rfl rfl gq gq (by simp; omega), st2, List.map_append]
        rfl
      rw [seqS_ap, ifS_ok tA]
      by_cases hA : 65 ∈ x
      · have s1 : binE subI (nameE 5) (constE (.int 1)) [o0, o1, some (D.str x), some (.int (L : Int)), some (.cell q), some (.int (n : Int)), some (.int T), some (.int e), o8] N = .ok (.int ((n - 1 : Nat) : Int)) N := by
          rw [bin_to (x := .int (n : Int)) (y := .int 1) (M1 := N) (M2 := N) rfl rfl]
          show Res.ok (D.int ((n : Int) - 1)) N = _
          congr 2
          omega
        have s2 : binE ixD (nameE 4) (binE subI (nameE 5) (constE (.int 1))) [o0, o1, some (D.str x), some (.int (L : Int)), some (.cell q), some (.int (n : Int)), some (.int T), some (.int e), o8] N = .ok (.int (cs.getD (n - 1) 0)) N := by
          rw [bin_to (x := .cell q) (M1 := N) rfl s1, cix gq (by omega)]
        refine ⟨some (.int ((L : Int) * cs.getD (n - 1) 0)), some (.int e), ?_⟩
        rw [if_pos (by simp [hA]), setS_ap, bin_to (x := .int (L : Int)) (M1 := N) rfl s2, mulB (a := 68) (by rw [Int.natAbs_natCast]; exact hL) (hB (n - 1)) (by omega), SRes.ofE_ok]
        rw [if_pos hA]
        exact fin _
      rw [if_neg (by simp [hA]), ifS_ok tC]
      simp only [if_neg hA]
      by_cases hC : 67 ∈ x
      · refine ⟨some (.int ((T + e) / 2 - e * (if decide (73 ∈ x) = true then 1 else 0))), some (.int e), ?_⟩
        have s1 : binE fdivI (binE addD (nameE 6) (nameE 7)) (constE (.int 2)) [o0, o1, some (D.str x), some (.int (L : Int)), some (.cell q), some (.int (n : Int)), some (.int T), some (.int e), o8] N = .ok (.int ((T + e) / 2)) N := by
          rw [bin_to (x := .int (T + e)) (y := .int 2) (M1 := N) (M2 := N) (by rw [bin_to (x := .int T) (y := .int e) (M1 := N) (M2 := N) rfl rfl, addD_int]) rfl, fdivI_int ⟨by omega, by omega⟩]
        have s2 : binE mulW (nameE 7) (appE intF (consA (binE (inD false) (constE (.str (sL "I"))) (nameE 2)) nilA)) [o0, o1, some (D.str x), some (.int (L : Int)), some (.cell q), some (.int (n : Int)), some (.int T), some (.int e), o8] N = .ok (.int (e * (if decide (73 ∈ x) = true then 1 else 0))) N := by
          rw [bin_to (x := .int e) (M1 := N) rfl iI, mulB (b := 10) qb (ten_bd (by split <;> simp)) (by omega)]
          congr 3
          by_cases hI : 73 ∈ x <;> simp [hI]
        rw [if_pos (by simp [hC]), setS_ap, bin_to s1 s2]
        simp only [hC, decide_true, if_true]
        exact fin _
      rw [if_neg (by simp [hC]), ifS_ok tI]
      have hCf : ¬ (decide (67 ∈ x) = true) := by simp [hC]
      simp only [if_neg hCf]
      by_cases hI : 73 ∈ x
      · refine ⟨some (.int (T - e)), some (.int e), ?_⟩
        rw [if_pos (by simp [hI]), if_pos (by simp [hI])]
        exact fin _
      · refine ⟨some (.int T), some (.int e), ?_⟩
        rw [if_neg (by simp [hI]), if_neg (by simp [hI])]
        exact fin _
    obtain ⟨o6', o7', hb⟩ := hb
    obtain ⟨p5, p6, p7, p8, e⟩ := ih o6' o7'
    refine ⟨p5, p6, p7, p8, ?_⟩
    rw [List.range'_succ, List.map_cons, forGo_cons, show ([o0, o1, some (D.str x), some (.int (L : Int)), some (.cell q), o5, o6, o7, o8].set 5 (some (.int (n : Int)))) = [o0, o1, some (.str x), some (.int (L : Int)), some (.cell q), some (.int (n : Int)), o6, o7, o8] from rfl, hb, SRes.loop_nx, show n + 1 = k + 1 + 2 by omega, e, show k + 1 + m = k + (m + 1) by omega]
theorem cntL_eq {x : Lr} {L : Nat} (hA : 65 ∉ x) : ∀ k, cntL (dueF x L) (L : Int) k = cntL (ppI (decide (67 ∈ x)) (decide (73 ∈ x))) (L : Int) k
  | 0 => rfl
  | k + 1 => by
    show cntL _ _ k ++ [_] = cntL _ _ k ++ [_]
    rw [cntL_eq hA k]
    congr 2
    unfold dueF
    rw [if_neg hA, pp_dd _ _ _ _ (by omega)]
theorem cntL_A {x : Lr} {L : Nat} (hA : 65 ∈ x) : ∀ k, (cntL (dueF x L) (L : Int) k).getD (k + 1) 0 = ((L ^ (k + 1) : Nat) : Int)
  | 0 => by simp [cntL]
  | k + 1 => by
    have hl := cntL_len (dueF x L) (L : Int) k
    show (cntL _ _ k ++ [_]).getD (k + 1 + 1) 0 = _
    rw [List.getD_eq_getElem?_getD, List.getElem?_append_right (by omega), hl, show k + 1 + 1 - (k + 2) = 0 by omega]
    show dueF x L (cntL (dueF x L) (L : Int) k) (k + 2) = _
    unfold dueF
    rw [if_pos hA, show k + 2 - 1 = k + 1 by omega]
    have ih := cntL_A hA (L := L) k
    unfold dueF at ih
    rw [ih, ← Int.natCast_mul, Nat.mul_comm, ← Nat.pow_succ]
theorem due_run {M : MS} {x : Lr} {m n : Nat} (hx : ¬ (65 ∈ x ∧ 73 ∈ x ∧ 67 ∉ x)) (hm : m ≤ 2 ^ 67 - 2) (h1 : 1 ≤ n) (h2 : n ≤ 100) : ∃ M', F_l_due [.int (n : Int), .int (m : Int), .str x] M = .ok (.int (if n = 1 then (m : Int) + 2 else formV x (ltN x m) n)) M' ∧ Ext M M' := by
  have hL : ltN x m ≤ 2 ^ 67 := by
    have : (2 : Nat) ^ 67 = 147573952589676412928 := by decide
    unfold ltN
    split <;> split <;> omega
  have hL8 : ltN x m + 100 ≤ 2 ^ 68 := by
    rw [e68]
    have : (2 : Nat) ^ 67 = 147573952589676412928 := by decide
    omega
  unfold F_l_due
  rw [runD_ap, show startD 9 [D.int (n : Int), .int (m : Int), .str x] = [some (.int (n : Int)), some (.int (m : Int)), some (.str x), none, none, none, none, none, none] from rfl]
  unfold m_l_due
  have t1 : valB (binE (eqD false) (nameE 0) (constE (.int 1))) [some (D.int (n : Int)), some (.int (m : Int)), some (.str x), none, none, none, none, none, none] M = .ok (decide (n = 1)) M := by
    rw [valB_ap, bin_to (x := .int (n : Int)) (y := .int 1) (M1 := M) (M2 := M) rfl rfl, eqD_int]
    show Res.ok (((n : Int) == 1) != false) M = _
    congr 1
    rw [Bool.eq_iff_iff]
    simp
    omega
  rw [seqS_ap, ifS_ok t1]
  by_cases hn : n = 1
  · refine ⟨M, ?_, Ext.refl M⟩
    rw [if_pos (by simp [hn]), if_pos hn, retS_ap, bin_to (x := .int (m : Int)) (y := .int 2) (M1 := M) (M2 := M) rfl rfl, addD_int]
    rfl
  rw [if_neg (by simp [hn]), passS_ap, SRes.seq_nx]
  have z3 : (setS 3 (binE subI (binE subI (binE addD (nameE 1) (constE (.int 2))) (appE intF (consA (binE (inD false) (constE (.str (sL "U"))) (nameE 2)) nilA))) (appE intF (consA (binE (inD false) (constE (.str (sL "Z"))) (nameE 2)) nilA)))) [some (.int (n : Int)), some (.int (m : Int)), some (.str x), none, none, none, none, none, none] M = .nx [some (.int (n : Int)), some (.int (m : Int)), some (.str x), some (.int (ltN x m : Nat)), none, none, none, none, none] M := by
    have a0 : binE addD (nameE 1) (constE (.int 2)) [some (D.int (n : Int)), some (.int (m : Int)), some (.str x), none, none, none, none, none, none] M = .ok (.int ((m : Int) + 2)) M := by
      rw [bin_to (x := .int (m : Int)) (y := .int 2) (M1 := M) (M2 := M) rfl rfl, addD_int]
    have a1 := bin_to (o := subI) a0 (inE1 (M := M) (x := x) (sd := [some (D.int (n : Int)), some (.int (m : Int)), some (.str x), none, none, none, none, none, none]) (i := 2) sLU1 rfl)
    have a2 := bin_to (o := subI) (a1.trans rfl) (inE1 (M := M) (x := x) (sd := [some (D.int (n : Int)), some (.int (m : Int)), some (.str x), none, none, none, none, none, none]) (i := 2) sLZ1 rfl)
    rw [setS_ap, a2]
    have e : (m : Int) + 2 - ((if 85 ∈ x then 1 else 0 : Nat) : Int) - ((if 90 ∈ x then 1 else 0 : Nat) : Int) = ((ltN x m : Nat) : Int) := by
      unfold ltN
      split <;> split <;> omega
    rw [← e]
    rfl
  rw [seqS_ap, z3, SRes.seq_nx]
  have tA := hast (M := M) (x := x) (sd := [some (.int (n : Int)), some (.int (m : Int)), some (.str x), some (.int (ltN x m : Nat)), none, none, none, none, none]) (i := 2) sLA1 rfl
  have tC := hast (M := M) (x := x) (sd := [some (.int (n : Int)), some (.int (m : Int)), some (.str x), some (.int (ltN x m : Nat)), none, none, none, none, none]) (i := 2) sLC1 rfl
  have tI := hast (M := M) (x := x) (sd := [some (.int (n : Int)), some (.int (m : Int)), some (.str x), some (.int (ltN x m : Nat)), none, none, none, none, none]) (i := 2) sLI1 rfl
  generalize ltN x m = L at *
  rw [seqS_ap, ifS_ok (andB_ok tA (andB_ok tC tI))]
  by_cases hACI : 65 ∈ x ∧ 67 ∈ x ∧ 73 ∈ x
  · refine ⟨M, ?_, Ext.refl M⟩
    rw [if_pos (by simp [hACI]), show (if n = 1 then (m : Int) + 2 else formV x L n) = (if L < n then (0 : Int) else ((binN L n : Nat) : Int)) by simp [hn, formV, rowN, hACI]]
    have c : callE 2 F_l_choices (· ++ []) (consA (nameE 3) (consA (nameE 0) nilA)) [some (D.int (n : Int)), some (.int (m : Int)), some (.str x), some (.int (L : Int)), none, none, none, none, none] M = .ok (.int (binN L n : Nat)) M := by
      rw [callE_at (n := 2) (ds := [.int (L : Int), .int (n : Int)]) (cons_arg (M' := M) rfl (one_arg (M' := M) rfl)) rfl, lch_run (by omega) h2]
    have g : appE intF (consA (binE geD (nameE 3) (nameE 0)) nilA) [some (D.int (n : Int)), some (.int (m : Int)), some (.str x), some (.int (L : Int)), none, none, none, none, none] M = .ok (.int (if n ≤ L then 1 else 0)) M := by
      have e : binE geD (nameE 3) (nameE 0) [some (D.int (n : Int)), some (.int (m : Int)), some (.str x), some (.int (L : Int)), none, none, none, none, none] M = .ok (.bl (decide (n ≤ L))) M := by
        rw [bin_to (x := .int (L : Int)) (y := .int (n : Int)) (M1 := M) (M2 := M) rfl rfl]
        simp
      rw [appE_ap, one_arg e, Res.bind_ok, intF_bl]
      by_cases q : n ≤ L <;> simp [q]
    rw [retS_ap, bin_to c g, mulB (a := 69 * n) (b := 10) (by have := bin_bd (n := L) (by omega) n h2; omega) (ten_bd (by split <;> simp)) (by omega)]
    by_cases q : L < n
    · rw [if_pos q, if_neg (by omega), Int.mul_zero]
      rfl
    · rw [if_neg q, if_pos (by omega), Int.mul_one]
      rfl
  rw [if_neg (by simpa using hACI), passS_ap, SRes.seq_nx, seqS_ap, ifS_ok (andB_ok tA tC)]
  by_cases hAC : 65 ∈ x ∧ 67 ∈ x
  · refine ⟨M, ?_, Ext.refl M⟩
    have hI : 73 ∉ x := fun h => hACI ⟨hAC.1, hAC.2, h⟩
    rw [if_pos (by simp [hAC]), show (if n = 1 then (m : Int) + 2 else formV x L n) = (binN (L + n - 1) n : Nat) by simp [hn, formV, rowN, hAC, hI]]
    have s : binE subI (binE addD (nameE 3) (nameE 0)) (constE (.int 1)) [some (D.int (n : Int)), some (.int (m : Int)), some (.str x), some (.int (L : Int)), none, none, none, none, none] M = .ok (.int ((L + n - 1 : Nat) : Int)) M := by
      rw [bin_to (x := .int ((L : Int) + n)) (y := .int 1) (M1 := M) (M2 := M) (by rw [bin_to (x := .int (L : Int)) (y := .int (n : Int)) (M1 := M) (M2 := M) rfl rfl, addD_int]) rfl]
      show Res.ok (D.int ((L : Int) + n - 1)) M = _
      congr 2
      omega
    rw [retS_ap, callE_at (n := 2) (cons_arg s (one_arg (x := .int (n : Int)) (M' := M) rfl)) rfl, lch_run (by omega) h2]
    rfl
  rw [if_neg (by simpa using hAC), passS_ap, SRes.seq_nx]
  obtain ⟨o5, o6, o7, o8, e⟩ := due_loop (M := M ++ [.lst [.int 0, .int (L : Int)]]) (q := M.length) (x := x) (L := L) (by omega) (by simp) (o0 := some (.int (n : Int))) (o1 := some (.int (m : Int))) (n - 1) 0 none none none none (by omega)
  have e0 : (M ++ [MO.lst [.int 0, .int (L : Int)]]).set M.length (.lst ((cntL (dueF x L) (L : Int) 0).map D.int)) = M ++ [.lst [.int 0, .int (L : Int)]] := by
    rw [set_last]
    rfl
  rw [e0, set_last, Nat.zero_add, Nat.zero_add] at e
  have hlen := cntL_len (dueF x L) (L : Int) (n - 1)
  have hv : (if n = 1 then (m : Int) + 2 else formV x L n) = (cntL (dueF x L) (L : Int) (n - 1)).getD n 0 := by
    rw [if_neg hn]
    unfold formV
    by_cases hA : 65 ∈ x
    · have hC : 67 ∉ x := fun h => hAC ⟨hA, h⟩
      have := cntL_A (L := L) hA (n - 1)
      rw [show n - 1 + 1 = n by omega] at this
      rw [if_pos hA, this]
      simp [rowN, hC]
    · rw [if_neg hA, cntL_eq hA]
  rw [hv]
  refine ⟨M ++ [.lst ((cntL (dueF x L) (L : Int) (n - 1)).map D.int)], ?_, Ext.app _ _⟩
  generalize cntL (dueF x L) (L : Int) (n - 1) = cs at *
  have z4 : (setS 4 (celE (consA (constE (.int 0)) (consA (nameE 3) nilA)))) [some (.int (n : Int)), some (.int (m : Int)), some (.str x), some (.int (L : Int)), none, none, none, none, none] M = .nx [some (.int (n : Int)), some (.int (m : Int)), some (.str x), some (.int (L : Int)), some (.cell M.length), none, none, none, none] (M ++ [.lst [.int 0, .int (L : Int)]]) := rfl
  have z5 : (forS (range2I (consA (constE (.int 2)) (consA (binE addD (nameE 0) (constE (.int 1))) nilA))) (nameG 5) b_l_due_1) [some (.int (n : Int)), some (.int (m : Int)), some (.str x), some (.int (L : Int)), some (.cell M.length), none, none, none, none] (M ++ [.lst [.int 0, .int (L : Int)]]) = .nx [some (.int (n : Int)), some (.int (m : Int)), some (.str x), some (.int (L : Int)), some (.cell M.length), o5, o6, o7, o8] (M ++ [.lst (cs.map D.int)]) := by
    rw [range2_for (a := 2) (m := n - 1) (i := 2) (j := (n : Int) + 1) (by omega) (by omega) (by omega) rfl (by rw [bin_to (x := .int (n : Int)) (y := .int 1) (M1 := M ++ [.lst [.int 0, .int (L : Int)]]) (M2 := M ++ [.lst [.int 0, .int (L : Int)]]) rfl rfl, addD_int])]
    exact e
  rw [seqS_ap, z4, SRes.seq_nx, seqS_ap, z5, SRes.seq_nx, retS_ap, bin_to (x := .cell M.length) (y := .int (n : Int)) (M1 := M ++ [.lst (cs.map D.int)]) (M2 := M ++ [.lst (cs.map D.int)]) rfl rfl, cix get_last (by omega)]
  rfl
def trs (ls : Wd) : Nat → Nat → List T
  | 0, _ => []
  | d + 1, n => if n = 1 then ls.map T.leaf else (List.range' 1 (n - 1)).flatMap fun a => (trs ls d a).flatMap fun l => (trs ls d (n - a)).map (T.node l)
theorem pairs_len {L R : List T} : (L.flatMap fun l => R.map (T.node l)).length = L.length * R.length := by
  induction L with
  | nil => simp
  | cons x r ih => rw [List.flatMap_cons, List.length_append, List.length_map, ih, List.length_cons, Nat.succ_mul, Nat.add_comm]
theorem trs_len {ls : Wd} (h4 : ls.length ≤ 4) : ∀ d, (trs ls d 1).length ≤ 4 ∧ (trs ls d 2).length ≤ 16 ∧ (trs ls d 3).length ≤ 128 ∧ (trs ls d 4).length ≤ 1280
  | 0 => by simp [trs]
  | d + 1 => by
    obtain ⟨a, b, c, _⟩ := trs_len h4 d
    have m11 := Nat.mul_le_mul a a
    have m12 := Nat.mul_le_mul a b
    have m21 := Nat.mul_le_mul b a
    have m13 := Nat.mul_le_mul a c
    have m31 := Nat.mul_le_mul c a
    have m22 := Nat.mul_le_mul b b
    refine ⟨?_, ?_, ?_, ?_⟩
    · simpa [trs] using h4
    · conv => lhs; unfold trs
      rw [if_neg (by decide)]
      show (List.flatMap _ [1]).length ≤ 16
      simp only [List.flatMap_cons, List.flatMap_nil, List.append_nil, List.length_append, pairs_len]
      exact m11
    · conv => lhs; unfold trs
      rw [if_neg (by decide)]
      show (List.flatMap _ [1, 2]).length ≤ 128
      simp only [List.flatMap_cons, List.flatMap_nil, List.append_nil, List.length_append, pairs_len]
      show (trs ls d 1).length * (trs ls d 2).length + (trs ls d 2).length * (trs ls d 1).length ≤ 128
      omega
    · conv => lhs; unfold trs
      rw [if_neg (by decide)]
      show (List.flatMap _ [1, 2, 3]).length ≤ 1280
      simp only [List.flatMap_cons, List.flatMap_nil, List.append_nil, List.length_append, pairs_len]
      show (trs ls d 1).length * (trs ls d 3).length + ((trs ls d 2).length * (trs ls d 2).length + (trs ls d 3).length * (trs ls d 1).length) ≤ 1280
      omega
theorem trs_len' {ls : Wd} (h4 : ls.length ≤ 4) (d : Nat) {n : Nat} (h1 : 1 ≤ n) (h2 : n ≤ 4) : (trs ls d n).length ≤ 1280 := by
  obtain ⟨a, b, c, e⟩ := trs_len h4 d
  rcases (by omega : n = 1 ∨ n = 2 ∨ n = 3 ∨ n = 4) with rfl | rfl | rfl | rfl <;> omega
theorem trs_mem {ls : Wd} (hk : ∀ w, w ∈ ls → okW w) : ∀ (d n : Nat) (t : T), 1 ≤ n → t ∈ trs ls d n → t.ok ∧ t.ws.length = n
  | 0, _, _, _, h => by simp [trs] at h
  | d + 1, n, t, h1, h => by
    unfold trs at h
    split at h
    · rename_i hn
      obtain ⟨w, hw, rfl⟩ := List.mem_map.mp h
      exact ⟨hk w hw, by simp [T.ws, hn]⟩
    · obtain ⟨a, ha, h⟩ := List.mem_flatMap.mp h
      obtain ⟨l, hl, h⟩ := List.mem_flatMap.mp h
      obtain ⟨r, hr, rfl⟩ := List.mem_map.mp h
      have := List.mem_range'.mp ha
      obtain ⟨o1, e1⟩ := trs_mem hk d a l (by omega) hl
      obtain ⟨o2, e2⟩ := trs_mem hk d (n - a) r (by omega) hr
      exact ⟨⟨o1, o2⟩, by simp [T.ws, e1, e2]; omega⟩
abbrev txD (ts : List T) : List D := ts.map fun t => D.str t.txt
theorem txt_small {t : T} (h : t.ok) (hl : t.ws.length ≤ 4) : t.txt.length ≤ 36 := by have := (t.txt_len h).1; omega
theorem e_texts {M : MS} {G : FM} {sd : SD} {l r : T} (hl : l.txt.length ≤ 36) (hr : r.txt.length ≤ 36) (h4 : nameE 4 sd M = .ok (.str l.txt) M) (h5 : nameE 5 sd M = .ok (.str r.txt) M) : e_l_texts_1 G sd M = .ok (.str (T.node l r).txt) M := by
  unfold e_l_texts_1
  rw [sLo, sLs, sLc]
  have s1 : binE addD (constE (.str [40])) (nameE 4) sd M = .ok (.str ([40] ++ l.txt)) M := by
    rw [bin_to (x := .str [40]) (M1 := M) rfl h4, addD_str (by simp; omega)]
  have s2 : binE addD (binE addD (constE (.str [40])) (nameE 4)) (constE (.str [32])) sd M = .ok (.str ([40] ++ l.txt ++ [32])) M := by
    rw [bin_to (y := .str [32]) (M2 := M) s1 rfl, addD_str (by simp; omega)]
  have s3 : binE addD (binE addD (binE addD (constE (.str [40])) (nameE 4)) (constE (.str [32]))) (nameE 5) sd M = .ok (.str ([40] ++ l.txt ++ [32] ++ r.txt)) M := by
    rw [bin_to s2 h5, addD_str (by simp; omega)]
  rw [bin_to (y := .str [41]) (M2 := M) s3 rfl, addD_str (by simp; omega)]
  simp [T.txt]
theorem forS_lst {a : ME} {g : MG} {body : MST} {sd : SD} {M M' : MS} {ds : List D} (h : a sd M = .ok (.lst ds) M') : forS (anyI a) g body sd M = forGo (fun _ => True) g body ds sd M' := by
  rw [forS_ap, anyI_ap, h, Res.bind_ok]
  rfl
theorem lcE_lst {a : ME} {s : Nat} {te : ME} {sd : SD} {M M' : MS} {α : Type} {g f : α → D} {xs : List α} (h : a sd M = .ok (.lst (xs.map g)) M') (hl : xs.length ≤ 1000000) (ht : ∀ x, x ∈ xs → te ((wipeD sd [s]).set s (some (g x))) M' = .ok (f x) M') : lcE (anyI a) (nameG s) yesB te [s] sd M = .ok (.lst (xs.map f)) M' := by
  have lc := lc_map (te := te) (i := s) (w := wipeD sd [s]) (M := M') (g := g) (f := f) (xs := xs) hl ht
  rw [lcE_ap, anyI_ap, h, Res.bind_ok, show itK (.lst (xs.map g)) M' = .ok ⟨xs.map g, fun _ => True⟩ M' from rfl, Res.bind_ok, lcK_ap]
  show (Res.bind (Res.ne (lcGo (fun _ => True) _ _ _ _ (xs.map g) _ _)) _) = _
  rw [lc]
  rfl
section
variable {M : MS} {G : FM} {n a : Nat} {o1 : Option D} {R : List T}
abbrev sd6 (n : Nat) (o1 : Option D) (acc : List T) (a o4 : Option D) : SD := [some (.int (n : Int)), o1, some (.lst (txD acc)), a, o4, none]
theorem left_loop (hR : ∀ t, t ∈ R → t.txt.length ≤ 36) (hRl : R.length ≤ 1280) (hG : ∀ acc o4, callE 2 G (· ++ []) (consA (binE subI (nameE 0) (nameE 3)) (consA (nameE 1) nilA)) (sd6 n o1 acc (some (.int (a : Int))) o4) M = .ok (.lst (txD R)) M) :
    ∀ (L acc : List T) (o4 : Option D), (∀ t, t ∈ L → t.txt.length ≤ 36) → acc.length + L.length * R.length ≤ 900000 → ∃ o4', forGo (fun _ => True) (nameG 4) (b_l_texts_1 G) (txD L) (sd6 n o1 acc (some (.int (a : Int))) o4) M = .nx (sd6 n o1 (acc ++ L.flatMap fun l => R.map (T.node l)) (some (.int (a : Int))) o4') M
  | [], acc, o4, _, _ => ⟨o4, by simp [txD]⟩
  | l :: L, acc, o4, hL, hb => by
    rw [List.length_cons, Nat.succ_mul] at hb
    obtain ⟨o4', e⟩ := left_loop hR hRl hG L (acc ++ R.map (T.node l)) (some (.str l.txt)) (fun t ht => hL t (List.mem_cons_of_mem _ ht)) (by rw [List.length_append, List.length_map]; omega)
    refine ⟨o4', ?_⟩
    have lc : lcE (anyI (callE 2 G (· ++ []) (consA (binE subI (nameE 0) (nameE 3)) (consA (nameE 1) nilA)))) (nameG 5) yesB (e_l_texts_1 G) [5] (sd6 n o1 acc (some (.int (a : Int))) (some (.str l.txt))) M = .ok (.lst (R.map fun r => D.str (T.node l r).txt)) M :=
      lcE_lst (g := fun t => D.str t.txt) (f := fun r => D.str (T.node l r).txt) (hG acc _) (by omega) fun r hr => e_texts (hL l List.mem_cons_self) (hR r hr) rfl rfl
    have hb1 : b_l_texts_1 G (sd6 n o1 acc (some (.int (a : Int))) (some (.str l.txt))) M = .nx (sd6 n o1 (acc ++ R.map (T.node l)) (some (.int (a : Int))) (some (.str l.txt))) M := by
      unfold b_l_texts_1
      rw [setS_ap, bin_to (x := .lst (txD acc)) (M1 := M) rfl lc, addD_lst (by simp [txD]; omega)]
      have : txD acc ++ (R.map fun r => D.str (T.node l r).txt) = txD (acc ++ R.map (T.node l)) := by simp [txD, List.map_map, Function.comp_def]
      rw [this]
      rfl
    rw [show txD (l :: L) = D.str l.txt :: txD L from rfl, forGo_cons, show (sd6 n o1 acc (some (.int (a : Int))) o4).set 4 (some (.str l.txt)) = sd6 n o1 acc (some (.int (a : Int))) (some (.str l.txt)) from rfl]
    rw [hb1, SRes.loop_nx, e, List.flatMap_cons, List.append_assoc]
end
theorem texts_run {M : MS} {ls : Wd} (hk : ∀ w, w ∈ ls → okW w) (h4 : ls.length ≤ 4) : ∀ (d n : Nat), 1 ≤ n → n ≤ 4 → n ≤ d → R_l_texts d [.int (n : Int), wD ls] M = .ok (.lst (txD (trs ls d n))) M
  | 0, n, h1, _, h => by omega
  | d + 1, n, h1, hn4, h => by
    unfold R_l_texts
    rw [runD_ap, show startD 6 [D.int (n : Int), wD ls] = [some (.int (n : Int)), some (wD ls), none, none, none, none] from rfl]
    unfold m_l_texts
    have t1 : valB (binE (eqD false) (nameE 0) (constE (.int 1))) [some (D.int (n : Int)), some (wD ls), none, none, none, none] M = .ok (decide (n = 1)) M := by
      rw [valB_ap, bin_to (x := .int (n : Int)) (y := .int 1) (M1 := M) (M2 := M) rfl rfl, eqD_int]
      show Res.ok (((n : Int) == 1) != false) M = _
      congr 1
      rw [Bool.eq_iff_iff]
      simp
      omega
    rw [seqS_ap, ifS_ok t1]
    by_cases hn : n = 1
    · rw [if_pos (by simp [hn])]
      have e : trs ls (d + 1) n = ls.map T.leaf := by unfold trs; rw [if_pos hn]
      rw [e, retS_ap, appE_ap, one_arg (x := wD ls) (M' := M) rfl, Res.bind_ok]
      have : txD (ls.map T.leaf) = ls.map D.str := by simp [txD, List.map_map, Function.comp_def, T.txt]
      rw [this]
      rfl
    rw [if_neg (by simp [hn]), passS_ap, SRes.seq_nx]
    have z1 : setS 2 (lstE nilA) [some (D.int (n : Int)), some (wD ls), none, none, none, none] M = .nx (sd6 n (some (wD ls)) [] none none) M := rfl
    rw [seqS_ap, z1, SRes.seq_nx]
    -- the loop over the left part's leaves
    have loop : ∀ (m j : Nat) (acc : List T) (o3 o4 : Option D), 1 ≤ j → j + m ≤ n → acc.length + m * 1700000 ≤ 5200000 ∧ acc.length ≤ 1300 * j → ∃ o3' o4', forGo (fun _ => True) (nameG 3) (b_l_texts_2 (R_l_texts d)) ((List.range' j m).map fun t : Nat => D.int (t : Int)) (sd6 n (some (wD ls)) acc o3 o4) M = .nx (sd6 n (some (wD ls)) (acc ++ (List.range' j m).flatMap fun a => (trs ls d a).flatMap fun l => (trs ls d (n - a)).map (T.node l)) o3' o4') M := by
      intro m
      induction m with
      | zero => intro j acc o3 o4 _ _ _; exact ⟨o3, o4, by simp⟩
      | succ m ih =>
        intro j acc o3 o4 hj1 hjm hacc
        have hR : ∀ t, t ∈ trs ls d (n - j) → t.txt.length ≤ 36 := fun t ht => by
          obtain ⟨o, e⟩ := trs_mem hk d (n - j) t (by omega) ht
          exact txt_small o (by omega)
        have hLm : ∀ t, t ∈ trs ls d j → t.txt.length ≤ 36 := fun t ht => by
          obtain ⟨o, e⟩ := trs_mem hk d j t hj1 ht
          exact txt_small o (by omega)
        have l1 := trs_len' h4 d (n := n - j) (by omega) (by omega)
        have l2 := trs_len' h4 d (n := j) (by omega) (by omega)
        have hall : (trs ls d j).length * (trs ls d (n - j)).length ≤ 1280 := by
          obtain ⟨a, b, c, e⟩ := trs_len h4 d
          have m11 := Nat.mul_le_mul a a
          have m12 := Nat.mul_le_mul a b
          have m21 := Nat.mul_le_mul b a
          have m13 := Nat.mul_le_mul a c
          have m31 := Nat.mul_le_mul c a
          have m22 := Nat.mul_le_mul b b
          have : (n = 2 ∧ j = 1) ∨ (n = 3 ∧ j = 1) ∨ (n = 3 ∧ j = 2) ∨ (n = 4 ∧ j = 1) ∨ (n = 4 ∧ j = 2) ∨ (n = 4 ∧ j = 3) := by omega
          rcases this with ⟨rfl, rfl⟩ | ⟨rfl, rfl⟩ | ⟨rfl, rfl⟩ | ⟨rfl, rfl⟩ | ⟨rfl, rfl⟩ | ⟨rfl, rfl⟩ <;> (simp only [Nat.reduceSub] at *; omega)
        have hG : ∀ acc o4, callE 2 (R_l_texts d) (· ++ []) (consA (binE subI (nameE 0) (nameE 3)) (consA (nameE 1) nilA)) (sd6 n (some (wD ls)) acc (some (.int (j : Int))) o4) M = .ok (.lst (txD (trs ls d (n - j)))) M := fun acc o4 => by
          have s : binE subI (nameE 0) (nameE 3) (sd6 n (some (wD ls)) acc (some (.int (j : Int))) o4) M = .ok (.int ((n - j : Nat) : Int)) M := by
            rw [bin_to (x := .int (n : Int)) (y := .int (j : Int)) (M1 := M) (M2 := M) rfl rfl]
            show Res.ok (D.int ((n : Int) - j)) M = _
            congr 2
            omega
          rw [callE_at (n := 2) (cons_arg s (one_arg (x := wD ls) (M' := M) rfl)) rfl]
          exact texts_run hk h4 d (n - j) (by omega) (by omega) (by omega)
        obtain ⟨o4', e⟩ := left_loop (M := M) (o1 := some (wD ls)) hR l1 hG (trs ls d j) acc o4 hLm (by omega)
        obtain ⟨o3'', o4'', e2⟩ := ih (j + 1) (acc ++ (trs ls d j).flatMap fun l => (trs ls d (n - j)).map (T.node l)) (some (.int (j : Int))) o4' (by omega) (by omega) (by rw [List.length_append, pairs_len]; omega)
        refine ⟨o3'', o4'', ?_⟩
        have hc : callE 2 (R_l_texts d) (· ++ []) (consA (nameE 3) (consA (nameE 1) nilA)) (sd6 n (some (wD ls)) acc (some (.int (j : Int))) o4) M = .ok (.lst (txD (trs ls d j))) M := by
          rw [callE_at (n := 2) (ds := [.int (j : Int), wD ls]) (cons_arg (M' := M) rfl (one_arg (M' := M) rfl)) rfl]
          exact texts_run hk h4 d j hj1 (by omega) (by omega)
        have hb : b_l_texts_2 (R_l_texts d) (sd6 n (some (wD ls)) acc (some (.int (j : Int))) o4) M = .nx (sd6 n (some (wD ls)) (acc ++ (trs ls d j).flatMap fun l => (trs ls d (n - j)).map (T.node l)) (some (.int (j : Int))) o4') M := by
          unfold b_l_texts_2
          rw [forS_lst hc, e]
        rw [List.range'_succ, List.map_cons, forGo_cons, show (sd6 n (some (wD ls)) acc o3 o4).set 3 (some (.int (j : Int))) = sd6 n (some (wD ls)) acc (some (.int (j : Int))) o4 from rfl]
        rw [hb, SRes.loop_nx, e2, List.flatMap_cons, List.append_assoc]
    obtain ⟨o3, o4, e⟩ := loop (n - 1) 1 [] none none (by omega) (by omega) (by simp; omega)
    have z2 : forS (range2I (consA (constE (.int 1)) (consA (nameE 0) nilA))) (nameG 3) (b_l_texts_2 (R_l_texts d)) (sd6 n (some (wD ls)) [] none none) M = .nx (sd6 n (some (wD ls)) (trs ls (d + 1) n) o3 o4) M := by
      rw [range2_for (a := 1) (m := n - 1) (i := 1) (j := (n : Int)) (by omega) (by omega) (by omega) rfl rfl, e]
      have : trs ls (d + 1) n = (List.range' 1 (n - 1)).flatMap fun a => (trs ls d a).flatMap fun l => (trs ls d (n - a)).map (T.node l) := by
        conv => lhs; unfold trs
        rw [if_neg hn]
      rw [this, List.nil_append]
    rw [seqS_ap, z2, SRes.seq_nx]
    rfl
theorem mem_noE {w : Wd} {l : Lr} : l ∈ noE w ↔ l ∈ w ∧ l ≠ [101] := by simp [noE, List.mem_filter]
theorem fm_app (f : Lr → Wd) (u v : Wd) : (u ++ v).flatMap f = u.flatMap f ++ v.flatMap f := List.flatMap_append ..
theorem fm_same {f : Lr → Wd} {u v : Wd} (h : SameC u v) : SameC (u.flatMap f) (v.flatMap f) := fun l => by
  simp only [List.mem_flatMap]
  exact ⟨fun ⟨a, ha, hl⟩ => ⟨a, (h a).mp ha, hl⟩, fun ⟨a, ha, hl⟩ => ⟨a, (h a).mpr ha, hl⟩⟩
theorem fm_parts (f : Lr → Wd) {w : Wd} (hw : w ≠ []) : Al (w.flatMap f) ((bP w ++ [(begF w).2]).flatMap f ++ ((endF w).1 :: eS w).flatMap f) := by
  obtain ⟨⟨r1, e1⟩, _, m1⟩ := beg_ex hw
  obtain ⟨⟨r2, e2⟩, _, m2⟩ := end_ex hw
  have f1 : w = (bP w ++ [(begF w).2]) ++ r1 := by
    rw [List.append_assoc]; exact e1
  have mem1 : SameC w (bP w ++ [(begF w).2]) := fun l => by
    constructor
    · intro h
      rcases m1 l h with z | z
      · exact List.mem_append_left _ z
      · exact List.mem_append_right _ (List.mem_singleton.mpr z)
    · intro h
      rw [f1]; exact List.mem_append_left _ h
  have mem2 : SameC w ((endF w).1 :: eS w) := fun l => by
    constructor
    · intro h
      rcases m2 l h with z | z
      · exact List.mem_cons_of_mem _ z
      · rw [z]; exact List.mem_cons_self
    · intro h
      rw [e2]; exact List.mem_append_right _ h
  have tw := (Al.twice (w.flatMap f)).symm
  have eq : w.flatMap f ++ w.flatMap f = (bP w ++ [(begF w).2]).flatMap f ++ (r1 ++ r2).flatMap f ++ ((endF w).1 :: eS w).flatMap f := by
    rw [← fm_app, ← fm_app, ← fm_app]
    congr 1
    conv => lhs; lhs; rw [f1]
    conv => lhs; rhs; rw [e2]
    simp
  rw [eq] at tw
  refine tw.trans (Al.between (fm_same (mem1.symm.trans mem2)) ?_).symm
  intro l hl
  obtain ⟨a, ha, hal⟩ := List.mem_flatMap.mp hl
  refine List.mem_flatMap.mpr ⟨a, (mem1 a).mp ?_, hal⟩
  rcases List.mem_append.mp ha with h | h
  · rw [f1]; exact List.mem_append_right _ h
  · rw [e2]; exact List.mem_append_left _ h
theorem Al.hom (f : Lr → Wd) : ∀ (n : Nat) {u v : Wd}, (dedT u).length ≤ n → Al u v → Al (u.flatMap f) (v.flatMap f)
  | n, u, v, hl, h => by
    by_cases hu : u = []
    · subst hu
      have : v = [] := h.c.nil rfl
      subst this
      exact Al.refl _
    have hv : v ≠ [] := fun e => hu (h.c.symm.nil e)
    obtain ⟨ea, eb⟩ := h.lost hu
    have p1 := fm_parts f hu
    have p2 := fm_parts f hv
    match n, hl with
    | 0, hl => have := cnt_pos hu; omega
    | n + 1, hl =>
      have ih1 : Al ((bP u).flatMap f) ((bP v).flatMap f) := by
        refine Al.hom f n ?_ (h.mv true)
        have b := beg_ex hu
        have := cnt_lt (s := bP u) (w := u) b.2.1 b.mem.1 b.mem.2
        omega
      have ih2 : Al ((eS u).flatMap f) ((eS v).flatMap f) := by
        refine Al.hom f n ?_ (h.mv false)
        have b := end_ex hu
        have := cnt_lt (s := eS u) (w := u) b.2.1 b.mem.1 b.mem.2
        omega
      rw [← ea, ← eb] at p2
      refine p1.trans (Al.trans ?_ p2.symm)
      have c2 : ∀ z : Wd, ((endF u).1 :: z).flatMap f = f (endF u).1 ++ z.flatMap f := fun z => List.flatMap_cons ..
      rw [fm_app, fm_app, c2, c2]
      exact Al.trans ((ih1.behind _).behind _) ((ih2.ahead _).ahead _)
theorem noE_fm (w : Wd) : noE w = w.flatMap fun l => if l = [101] then [] else [l] := by
  unfold noE
  induction w with
  | nil => rfl
  | cons l w ih =>
    rw [List.flatMap_cons, ← ih, List.filter_cons]
    by_cases h : l = [101]
    · simp [h]
    · simp [h]
theorem Al.noE {u v : Wd} (h : Al u v) : Al (Lk91.noE u) (Lk91.noE v) := by
  rw [noE_fm, noE_fm]
  exact Al.hom _ _ (Nat.le_refl _) h
theorem Q.fe {x : Lr} {s : Lr} (hs : ∀ c, c ∈ s → c ∈ x) {v : Wd} (hv : v ≠ []) : Q x (Lk91.fe x (Lk91.core s v)) (Lk91.fe x v) := by
  have al : Al (bandW v) v := (al_band hv).symm
  have memS : ∀ l, l ∈ sortT v ↔ l ∈ v := fun l => mem_sortT
  have memD : ∀ l, l ∈ sortT (dedT v) ↔ l ∈ v := fun l => by rw [mem_sortT, mem_dedT]
  have fm : ∀ (a b : Wd), (∀ l, l ∈ a ↔ l ∈ b) → ∀ l, l ∈ Lk91.fe x a ↔ l ∈ Lk91.fe x b := fun a b h l => by
    unfold Lk91.fe
    split
    · rw [mem_noE, mem_noE, h l]
    · exact h l
  unfold Lk91.core
  by_cases c1 : 67 ∈ s ∧ 73 ∈ s
  · rw [if_pos c1]
    unfold Q
    rw [if_pos ⟨hs _ c1.1, hs _ c1.2⟩]
    exact fm _ _ memD
  rw [if_neg c1]
  by_cases c2 : 67 ∈ s
  · rw [if_pos c2]
    unfold Q
    by_cases c3 : 67 ∈ x ∧ 73 ∈ x
    · rw [if_pos c3]; exact fm _ _ memS
    · rw [if_neg c3, if_pos (hs _ c2)]
      have p : (sortT v).Perm v := List.mergeSort_perm _ _
      unfold Lk91.fe
      split
      · exact p.filter _
      · exact p
  rw [if_neg c2]
  by_cases c3 : 73 ∈ s
  · rw [if_pos c3]
    have af : Al (Lk91.fe x (bandW v)) (Lk91.fe x v) := by
      unfold Lk91.fe
      split
      · exact Al.noE al
      · exact al
    unfold Q
    by_cases d1 : 67 ∈ x ∧ 73 ∈ x
    · rw [if_pos d1]; exact af.c
    · rw [if_neg d1, if_neg fun z => d1 ⟨z, hs _ c3⟩, if_pos (hs _ c3)]
      exact af
  · rw [if_neg c3]; exact Q.refl _ _
theorem core_has {s : Lr} {v : Wd} (hv : v ≠ []) (l : Lr) : l ∈ core s v ↔ l ∈ v := by
  unfold core
  split
  · rw [mem_sortT, mem_dedT]
  · split
    · exact mem_sortT
    · split
      · exact ((al_band hv).c l).symm
      · exact Iff.rfl
theorem wf_words {x : Lr} {t : T} (h : t.ok) : ∀ v, v ∈ wf x t.ws → 32 ∉ v ∧ v ≠ [] := fun v hv => by
  have hn : t.ws ≠ [] := fun e => by have := t.ws_pos; rw [e] at this; simp at this
  rcases wf_mem hn v hv with h' | rfl | rfl
  · have := T.ok_ws t h v h'
    refine ⟨fun z => ?_, fun z => ?_⟩
    · have := this.2.2 32 z; omega
    · rw [z] at this; have := this.1; simp at this
  · simp
  · simp
theorem spl_words {ws : List Lr} (hne : ws ≠ []) (hg : ∀ w, w ∈ ws → ¬ 32 ∈ w) (hl : (TL.joinL [32] ws).length ≤ 900000) (M : MS) : splF (.str (TL.joinL [32] ws)) [.str [32]] M = .ok (.lst (ws.map D.str)) M := by
  unfold splF
  show (if 0 < [32].length ∧ (TL.joinL [32] ws).length ≤ 900000 then _ else _) = _
  rw [if_pos ⟨by decide, hl⟩]
  have e := TL.split_spl (tx (TL.joinL [32] ws)) (tx [32]) (by simp [TL.tl]) (TL.kind_ok (by decide +kernel))
  have e2 : TL.spl (TL.tl (tx [32])) 0 [] (TL.tl (tx (TL.joinL [32] ws))) = ws := TL.spl_join hne hg
  rw [e2] at e
  have : (Txt.split (tx (TL.joinL [32] ws)) (tx [32])).map (fun z => D.str z.cps.toList) = ((Txt.split (tx (TL.joinL [32] ws)) (tx [32])).map TL.tl).map D.str := by
    rw [List.map_map]; rfl
  rw [this, e]
theorem joinL_len (x : Lr) : ∀ ws : List Lr, (TL.joinL x ws).length ≤ (ws.map List.length).sum + ws.length * x.length
  | [] => by simp [TL.joinL]
  | [w] => by simp [TL.joinL]
  | w :: v :: r => by
    have := joinL_len x (v :: r)
    simp only [TL.joinL, List.length_append, List.map_cons, List.sum_cons, List.length_cons] at this ⊢
    simp only [Nat.succ_mul] at this ⊢
    omega
theorem joinL_app (s : Lr) : ∀ {a b : Wd}, a ≠ [] → b ≠ [] → TL.joinL s (a ++ b) = TL.joinL s a ++ s ++ TL.joinL s b
  | [], _, h, _ => absurd rfl h
  | [x], b, _, hb => by
    cases b with
    | nil => exact absurd rfl hb
    | cons y r => simp [TL.joinL]
  | x :: y :: r, b, _, hb => by
    have ih := joinL_app s (a := y :: r) (b := b) (by simp) hb
    simp only [List.cons_append, TL.joinL] at ih ⊢
    rw [ih]
    simp [List.append_assoc]
def sz (s : Lr) : Nat := (s.filter fun c => decide (c = 32)).length + 1
def cut1 (k : Nat) (s : Lr) : Lr := s.flatMap fun d => if d = k then [] else [d]
def unb (s : Lr) : Lr := cut1 41 (cut1 40 s)
theorem unb_app (x y : Lr) : unb (x ++ y) = unb x ++ unb y := by simp [unb, cut1, List.flatMap_append]
theorem cut1_free {k : Nat} {x : Lr} (h : ∀ c, c ∈ x → c ≠ k) : cut1 k x = x := by
  induction x with
  | nil => rfl
  | cons c r ih =>
    have h1 := h c List.mem_cons_self
    show (if c = k then [] else [c]) ++ cut1 k r = _
    rw [ih fun d hd => h d (List.mem_cons_of_mem _ hd), if_neg h1]
    rfl
theorem unb_free {x : Lr} (h : ∀ c, c ∈ x → c ≠ 40 ∧ c ≠ 41) : unb x = x := by
  unfold unb
  rw [cut1_free fun c hc => (h c hc).1, cut1_free fun c hc => (h c hc).2]
theorem cut1_len (k : Nat) (x : Lr) : (cut1 k x).length ≤ x.length := by
  induction x with
  | nil => exact Nat.le_refl _
  | cons c r ih =>
    show ((if c = k then [] else [c]) ++ cut1 k r).length ≤ _
    rw [List.length_append, List.length_cons]
    have : (if c = k then [] else [c] : Lr).length ≤ 1 := by split <;> simp
    omega
theorem cut1_32 {k : Nat} (hk : k ≠ 32) (x : Lr) : ((cut1 k x).filter fun c => decide (c = 32)).length = (x.filter fun c => decide (c = 32)).length := by
  induction x with
  | nil => rfl
  | cons c r ih =>
    show (((if c = k then [] else [c]) ++ cut1 k r).filter _).length = _
    rw [List.filter_append, List.length_append, ih]
    by_cases h : c = k
    · subst h
      rw [if_pos rfl, List.filter_cons_of_neg (by simpa using hk)]
      simp
    · rw [if_neg h]
      by_cases g : c = 32 <;> simp [g]
      omega
theorem unb_32 (x : Lr) : ((unb x).filter fun c => decide (c = 32)).length = (x.filter fun c => decide (c = 32)).length := by
  unfold unb
  rw [cut1_32 (by decide), cut1_32 (by decide)]
theorem f32_none {w : Lr} (h : 32 ∉ w) : (w.filter fun c => decide (c = 32)) = [] := by
  rw [List.filter_eq_nil_iff]
  intro c hc e
  exact h (by simpa [of_decide_eq_true e] using hc)
theorem join_32 : ∀ ws : Wd, ws ≠ [] → (∀ w, w ∈ ws → 32 ∉ w) → ((TL.joinL [32] ws).filter fun c => decide (c = 32)).length + 1 = ws.length
  | [], h, _ => absurd rfl h
  | [w], _, h => by simp [TL.joinL, f32_none (h w List.mem_cons_self)]
  | w :: v :: r, _, h => by
    have ih := join_32 (v :: r) (by simp) fun u hu => h u (List.mem_cons_of_mem _ hu)
    have e : TL.joinL [32] (w :: v :: r) = w ++ [32] ++ TL.joinL [32] (v :: r) := by simp [TL.joinL]
    rw [e, List.filter_append, List.filter_append, List.length_append, List.length_append, f32_none (h w List.mem_cons_self), List.length_cons, ← ih]
    simp
    omega
theorem unb_txt : ∀ t : T, t.ok → unb t.txt = TL.joinL [32] t.ws
  | .leaf w, h => by
    rw [show (T.leaf w).txt = w from rfl, unb_free fun c hc => by have := h.2.2 c hc; omega]
    simp [T.ws, TL.joinL]
  | .node l r, h => by
    have i1 := unb_txt l h.1
    have i2 := unb_txt r h.2
    have e : (T.node l r).txt = [40] ++ l.txt ++ [32] ++ r.txt ++ [41] := by simp [T.txt]
    rw [e, unb_app, unb_app, unb_app, unb_app, i1, i2, show unb [40] = [] by decide, show unb [32] = [32] by decide, show unb [41] = [] by decide]
    have n1 : l.ws ≠ [] := fun e => by have := l.ws_pos; rw [e] at this; simp at this
    have n2 : r.ws ≠ [] := fun e => by have := r.ws_pos; rw [e] at this; simp at this
    show _ = TL.joinL [32] (l.ws ++ r.ws)
    rw [joinL_app _ n1 n2]
    simp
theorem sPar : sL "(" = [40] ∧ sL ")" = [41] ∧ sL "" = [] := by decide +kernel
theorem repE_cut {M : MS} {sd : SD} {m : ME} {a : String} {c : Nat} {x : Lr} (ha : sL a = [c]) (hx : x.length ≤ 1000000) (h : m sd M = .ok (.str x) M) : repE a "" m sd M = .ok (.str (cut1 c x)) M := by
  unfold repE
  rw [h, Res.bind_ok]
  simp only
  have e0 : (Str.ofString "").length = 0 := by decide +kernel
  rw [e0, Nat.mul_zero, if_pos (by omega), repT_one ha, sPar.2.2]
  rfl
theorem size_run {M : MS} {s : Lr} {ws : Wd} (hs : s.length ≤ 900000) (hu : unb s = TL.joinL [32] ws) (hne : ws ≠ []) (hw : ∀ w, w ∈ ws → 32 ∉ w) : F_l_size [.str s] M = .ok (.int (sz s : Nat)) M := by
  unfold F_l_size
  rw [runD_ap, show startD 1 [D.str s] = [some (.str s)] from rfl]
  unfold m_l_size
  have r1 := repE_cut (M := M) (sd := [some (.str s)]) (m := nameE 0) (x := s) sPar.1 (by omega) rfl
  have l1 := cut1_len 40 s
  have r2 := repE_cut sPar.2.1 (by omega) r1
  have l2 := cut1_len 41 (cut1 40 s)
  have sp : splF (.str (unb s)) [.str [32]] M = .ok (.lst (ws.map D.str)) M := by
    have l3 : (unb s).length ≤ 900000 := by unfold unb; omega
    rw [hu] at l3 ⊢
    exact spl_words hne hw l3 M
  have b : bmE "str" splF (repE ")" "" (repE "(" "" (nameE 0))) (consA (constE (.str (sL " "))) nilA) [some (.str s)] M = .ok (.lst (ws.map D.str)) M := by
    rw [bmE_ap, r2, Res.bind_ok, bmK_ap rfl, one_arg (x := .str [32]) (M' := M) (by rw [sLs]; rfl), Res.bind_ok, bmK2_ap]
    exact sp
  have e : sz s = ws.length := by
    rw [← join_32 ws hne hw, ← hu, unb_32]
    rfl
  rw [seqS_ap, retS_ap, appE_ap, one_arg b, Res.bind_ok, lenF_lst, e, List.length_map]
  rfl
theorem wf_ne {x : Lr} {u : Wd} (hu : u ≠ []) : wf x u ≠ [] := by
  unfold wf
  split
  · simp
  split
  · simp
  · rename_i h
    intro e
    obtain ⟨a, r, ha⟩ : ∃ a r, fe x u = a :: r := by
      cases q : fe x u with
      | nil => exact absurd q h
      | cons a r => exact ⟨a, r, rfl⟩
    have := (core_has (s := x) h a).mpr (by rw [ha]; exact List.mem_cons_self)
    rw [e] at this
    exact nomatch this
theorem join_az : ∀ ws : Wd, (∀ w, w ∈ ws → okW w) → ∀ c, c ∈ TL.joinL [32] ws → c = 32 ∨ (97 ≤ c ∧ c ≤ 122)
  | [], _, c, hc => by simp [TL.joinL] at hc
  | [w], hk, c, hc => .inr ((hk w List.mem_cons_self).2.2 c (by simpa [TL.joinL] using hc))
  | w :: v :: s, hk, c, hc => by
    have e : TL.joinL [32] (w :: v :: s) = w ++ [32] ++ TL.joinL [32] (v :: s) := by simp [TL.joinL]
    rw [e] at hc
    rcases List.mem_append.mp hc with hc | hc
    · rcases List.mem_append.mp hc with hc | hc
      · exact .inr ((hk w List.mem_cons_self).2.2 c hc)
      · exact .inl (by simpa using hc)
    · exact join_az (v :: s) (fun u hu => hk u (List.mem_cons_of_mem _ hu)) c hc
theorem txt_128 : ∀ t : T, t.ok → ∀ c, c ∈ t.txt → c < 128
  | .leaf w, h, c, hc => by have := h.2.2 c hc; omega
  | .node l r, h, c, hc => by
    simp only [T.txt, List.mem_cons, List.mem_append, List.not_mem_nil, or_false] at hc
    rcases hc with rfl | hc | rfl | hc | rfl
    · omega
    · exact txt_128 l h.1 c hc
    · omega
    · exact txt_128 r h.2 c hc
    · omega
theorem wf_okW {x : Lr} {t : T} (h : t.ok) : ∀ w, w ∈ wf x t.ws → okW w := fun w hw => by
  have tne : t.ws ≠ [] := fun e => by have := t.ws_pos; rw [e] at this; simp at this
  rcases wf_mem tne w hw with q | q | q
  · exact T.ok_ws t h w q
  · subst q; unfold okW; decide
  · subst q; unfold okW; decide
theorem pln_128 {x : Lr} {t : T} (h : t.ok) : ∀ c, c ∈ pln x t → c < 128 := fun c hc => by
  by_cases hA : 65 ∈ x
  · have e : pln x t = TL.joinL [32] (wf x t.ws) := by unfold pln; rw [if_pos hA]
    rw [e] at hc
    have := join_az _ (wf_okW h) c hc
    omega
  · have e : pln x t = (nf x t).txt := by unfold pln; rw [if_neg hA, nf_txt]
    rw [e] at hc
    exact txt_128 _ (nf_ok x t h).1 c hc
theorem pln_words {x : Lr} {t : T} (h : t.ok) : ∃ ws : Wd, ws ≠ [] ∧ (∀ w, w ∈ ws → 32 ∉ w) ∧ unb (pln x t) = TL.joinL [32] ws := by
  have tne : t.ws ≠ [] := fun e => by have := t.ws_pos; rw [e] at this; simp at this
  by_cases hA : 65 ∈ x
  · refine ⟨wf x t.ws, wf_ne tne, fun w hw => (wf_words h w hw).1, ?_⟩
    have e : pln x t = TL.joinL [32] (wf x t.ws) := by unfold pln; rw [if_pos hA]
    rw [e]
    refine unb_free fun c hc => ?_
    have := join_az (wf x t.ws) (fun w hw => by
      rcases wf_mem tne w hw with q | q | q
      · exact T.ok_ws t h w q
      · subst q; unfold okW; decide
      · subst q; unfold okW; decide) c hc
    omega
  · have e : pln x t = (nf x t).txt := by unfold pln; rw [if_neg hA, nf_txt]
    have o := (nf_ok x t h).1
    refine ⟨(nf x t).ws, fun e => by have := (nf x t).ws_pos; rw [e] at this; simp at this, fun w hw q => ?_, by rw [e]; exact unb_txt _ o⟩
    have := (T.ok_ws _ o w hw).2.2 32 q
    omega
def ins1 (x : Lr) : Wd → Wd
  | [] => [x]
  | y :: r => if leS x y = true then x :: y :: r else y :: ins1 x r
def isrt : Wd → Wd
  | [] => []
  | x :: r => ins1 x (isrt r)
theorem ins1_perm (x : Lr) : ∀ l, (ins1 x l).Perm (x :: l)
  | [] => List.Perm.refl _
  | y :: r => by
    unfold ins1
    split
    · exact List.Perm.refl _
    · exact ((ins1_perm x r).cons y).trans (List.Perm.swap x y r)
theorem isrt_perm : ∀ l, (isrt l).Perm l
  | [] => List.Perm.refl _
  | x :: r => (ins1_perm x _).trans ((isrt_perm r).cons x)
theorem ins1_le {x : Lr} : ∀ {l : Wd}, l.Pairwise (fun a b => leS a b = true) → (ins1 x l).Pairwise (fun a b => leS a b = true)
  | [], _ => by simp [ins1]
  | y :: r, h => by
    unfold ins1
    have h' := List.pairwise_cons.mp h
    split
    · rename_i hxy
      refine List.pairwise_cons.mpr ⟨fun z hz => ?_, h⟩
      rcases List.mem_cons.mp hz with rfl | hz
      · exact hxy
      · exact leS_trans _ _ _ hxy (h'.1 z hz)
    · rename_i hxy
      have hyx : leS y x = true := by
        have := leS_total x y
        cases q : leS x y with
        | true => exact absurd q hxy
        | false => simpa [q] using this
      refine List.pairwise_cons.mpr ⟨fun z hz => ?_, ins1_le h'.2⟩
      rcases List.mem_cons.mp ((ins1_perm x r).mem_iff.mp hz) with rfl | hz
      · exact hyx
      · exact h'.1 z hz
theorem isrt_le : ∀ l, (isrt l).Pairwise (fun a b => leS a b = true)
  | [] => List.Pairwise.nil
  | x :: r => ins1_le (isrt_le r)
theorem sortT_isrt (l : Wd) : sortT l = isrt l := (sortT_eq (isrt_perm l) (isrt_le l)).symm
def coreK (x : Lr) (w : Wd) : Wd := if 67 ∈ x ∧ 73 ∈ x then isrt (dedT w) else if 67 ∈ x then isrt w else w
def wfK (x : Lr) (w : Wd) : Wd := if 90 ∈ x ∧ [122] ∈ w then [[122]] else if fe x w = [] then [[101]] else coreK x (fe x w)
def plK (x : Lr) (t : T) : Lr := if 65 ∈ x then TL.joinL [32] (wfK x t.ws) else tf x t
theorem plK_eq {x : Lr} (hx : ¬ (65 ∈ x ∧ 73 ∈ x ∧ 67 ∉ x)) (t : T) : pln x t = plK x t := by
  unfold pln plK
  by_cases hA : 65 ∈ x
  · rw [if_pos hA, if_pos hA]
    congr 1
    unfold wf wfK
    split
    · rfl
    split
    · rfl
    unfold core coreK
    split
    · exact sortT_isrt _
    split
    · exact sortT_isrt _
    · rename_i h1 h2
      rw [if_neg fun h3 => hx ⟨hA, h3, h2⟩]
  · rw [if_neg hA, if_neg hA]
def codeN : Lr → Nat
  | [] => 1
  | c :: r => codeN r * 128 + c
theorem codeN_pos : ∀ s, 1 ≤ codeN s
  | [] => Nat.le_refl _
  | c :: r => by have := codeN_pos r; show 1 ≤ codeN r * 128 + c; omega
theorem codeN_inj : ∀ {s t : Lr}, (∀ c, c ∈ s → c < 128) → (∀ c, c ∈ t → c < 128) → codeN s = codeN t → s = t
  | [], [], _, _, _ => rfl
  | [], c :: r, _, _, h => by have := codeN_pos r; have h : 1 = codeN r * 128 + c := h; omega
  | c :: r, [], _, _, h => by have := codeN_pos r; have h : codeN r * 128 + c = 1 := h; omega
  | c :: r, d :: q, h1, h2, h => by
    have a := h1 c List.mem_cons_self
    have b := h2 d List.mem_cons_self
    have h : codeN r * 128 + c = codeN q * 128 + d := h
    have e : codeN r = codeN q := by omega
    rw [codeN_inj (fun x hx => h1 x (List.mem_cons_of_mem _ hx)) (fun x hx => h2 x (List.mem_cons_of_mem _ hx)) e, show c = d by omega]
theorem nbeq {x y : Nat} : (Nat.beq x y = true) ↔ x = y := ⟨Nat.eq_of_beq_eq_true, fun h => h ▸ Nat.beq_refl x⟩
def memN (x : Nat) : List Nat → Bool
  | [] => false
  | y :: r => Nat.beq x y || memN x r
theorem memN_iff {x : Nat} : ∀ {l : List Nat}, memN x l = true ↔ x ∈ l
  | [] => by simp [memN]
  | y :: r => by
    show (Nat.beq x y || memN x r) = true ↔ _
    rw [Bool.or_eq_true, memN_iff, List.mem_cons, nbeq]
def dedA : List Nat → List Nat → List Nat
  | [], acc => acc
  | x :: r, acc => if memN x acc = true then dedA r acc else dedA r (x :: acc)
theorem dedA_spec : ∀ (xs acc : List Nat), acc.Nodup → (dedA xs acc).Nodup ∧ ∀ y, y ∈ dedA xs acc ↔ y ∈ xs ∨ y ∈ acc
  | [], acc, h => ⟨h, fun y => by simp [dedA]⟩
  | x :: r, acc, h => by
    unfold dedA
    split
    · rename_i m
      obtain ⟨a, b⟩ := dedA_spec r acc h
      refine ⟨a, fun y => ?_⟩
      rw [b, List.mem_cons]
      constructor
      · rintro (q | q)
        · exact .inl (.inr q)
        · exact .inr q
      · rintro ((q | q) | q)
        · exact .inr (q ▸ memN_iff.mp m)
        · exact .inl q
        · exact .inr q
    · rename_i m
      obtain ⟨a, b⟩ := dedA_spec r (x :: acc) (List.nodup_cons.mpr ⟨fun q => m (memN_iff.mpr q), h⟩)
      refine ⟨a, fun y => ?_⟩
      rw [b, List.mem_cons, List.mem_cons]
      constructor
      · rintro (q | q | q)
        · exact .inl (.inr q)
        · exact .inl (.inl q)
        · exact .inr q
      · rintro ((q | q) | q)
        · exact .inr (.inl q)
        · exact .inl q
        · exact .inr (.inr q)
/-- the different forms of so many leaves among those of some ways -/
def cntK (x : Lr) (ts : List T) (n : Nat) : Nat := (dedA ((ts.map fun t => (codeN (plK x t), sz (plK x t))).filterMap fun p => if Nat.beq p.2 n = true then some p.1 else none) []).length
theorem cnt_eq {x : Lr} (hx : ¬ (65 ∈ x ∧ 73 ∈ x ∧ 67 ∉ x)) {ts : List T} {n : Nat} (hk : ∀ t, t ∈ ts → t.ok) : ((sortT (dedT (ts.map (pln x)))).filter fun s => decide (sz s = n)).length = cntK x ts n := by
  have hc : ∀ s, s ∈ ts.map (pln x) → ∀ c, c ∈ s → c < 128 := fun s hs c hc => by
    obtain ⟨t, ht, rfl⟩ := List.mem_map.mp hs
    exact pln_128 (hk t ht) c hc
  have e1 : ((sortT (dedT (ts.map (pln x)))).filter fun s => decide (sz s = n)).length = (((dedT (ts.map (pln x))).filter fun s => decide (sz s = n)).map codeN).length := by
    rw [List.length_map]
    exact ((List.mergeSort_perm _ _).filter _).length_eq
  rw [e1]
  unfold cntK
  obtain ⟨nd, mem⟩ := dedA_spec ((ts.map fun t => (codeN (plK x t), sz (plK x t))).filterMap fun p => if Nat.beq p.2 n = true then some p.1 else none) [] List.nodup_nil
  refine List.Perm.length_eq ((List.perm_ext_iff_of_nodup ?_ nd).mpr fun y => ?_)
  · show List.Pairwise _ _
    rw [List.pairwise_map]
    refine List.Pairwise.imp_of_mem (fun {a b} ha hb hab e => ?_) (((dedT_nodup (ts.map (pln x)))).filter _)
    have ma := mem_dedT.mp (List.mem_filter.mp ha).1
    have mb := mem_dedT.mp (List.mem_filter.mp hb).1
    exact hab (codeN_inj (hc a ma) (hc b mb) e)
  · rw [mem, List.mem_map, List.mem_filterMap]
    constructor
    · rintro ⟨s, hs, rfl⟩
      obtain ⟨h1, h2⟩ := List.mem_filter.mp hs
      obtain ⟨t, ht, rfl⟩ := List.mem_map.mp (mem_dedT.mp h1)
      refine .inl ⟨(codeN (plK x t), sz (plK x t)), List.mem_map.mpr ⟨t, ht, rfl⟩, ?_⟩
      rw [← plK_eq hx, if_pos (by rw [nbeq]; exact of_decide_eq_true h2)]
    · rintro (⟨p, hp, e⟩ | h)
      · obtain ⟨t, ht, rfl⟩ := List.mem_map.mp hp
        rw [← plK_eq hx] at e
        split at e
        · rename_i q
          cases e
          exact ⟨pln x t, List.mem_filter.mpr ⟨mem_dedT.mpr (List.mem_map.mpr ⟨t, ht, rfl⟩), decide_eq_true (by rw [← nbeq]; exact q)⟩, rfl⟩
        · cases e
      · cases h
def lsN (m : Nat) : Wd := [[97], [98]].take m ++ [[101], [122]]
def S5 : List Lr := [[], [65], [67], [65, 67], [73], [65, 73], [67, 73], [65, 67, 73], [85], [65, 85], [67, 85], [65, 67, 85], [73, 85], [65, 73, 85], [67, 73, 85], [65, 67, 73, 85], [90], [65, 90], [67, 90], [65, 67, 90], [73, 90], [65, 73, 90], [67, 73, 90], [65, 67, 73, 90], [85, 90], [65, 85, 90], [67, 85, 90], [65, 67, 85, 90], [73, 85, 90], [65, 73, 85, 90], [67, 73, 85, 90], [65, 67, 73, 85, 90]]
theorem five_in (x : Lr) : five x ∈ S5 := by
  unfold five
  rw [sL5]
  simp only [List.filter_cons, List.filter_nil]
  split <;> split <;> split <;> split <;> split <;> decide
def okK (x : Lr) : Bool := !(decide (65 ∈ x) && (decide (73 ∈ x) && !decide (67 ∈ x)))
def valK (x : Lr) (m n : Nat) : Int := if n = 1 then (m : Int) + 2 else formV x (ltN x m) n
def allK (m n : Nat) : Bool := S5.all fun x => !okK x || decide ((cntK x (trs (lsN m) 4 n) n : Int) = valK x m n)
theorem k01 : allK 0 1 = true := by decide +kernel
theorem k11 : allK 1 1 = true := by decide +kernel
theorem k21 : allK 2 1 = true := by decide +kernel
theorem k02 : allK 0 2 = true := by decide +kernel
theorem k12 : allK 1 2 = true := by decide +kernel
theorem k22 : allK 2 2 = true := by decide +kernel
theorem k03 : allK 0 3 = true := by decide +kernel
theorem k13 : allK 1 3 = true := by decide +kernel
theorem k23 : allK 2 3 = true := by decide +kernel
theorem k04 : allK 0 4 = true := by decide +kernel
theorem k14 : allK 1 4 = true := by decide +kernel
theorem mf {x : Lr} {c : Nat} (hc : c ∈ sL "ACIUZ") : c ∈ five x ↔ c ∈ x := by
  rw [mem_five]
  exact ⟨fun h => h.2, fun h => ⟨hc, h⟩⟩
theorem in5 : (65 ∈ sL "ACIUZ") ∧ (67 ∈ sL "ACIUZ") ∧ (73 ∈ sL "ACIUZ") ∧ (85 ∈ sL "ACIUZ") ∧ (90 ∈ sL "ACIUZ") := by rw [sL5]; decide
theorem form_five (x : Lr) (m n : Nat) : formV (five x) (ltN (five x) m) n = formV x (ltN x m) n := by
  obtain ⟨a, b, c, d, e⟩ := in5
  have hl : ltN (five x) m = ltN x m := by
    unfold ltN
    simp only [mf d, mf e]
  rw [hl]
  unfold formV
  simp only [mf a, mf b, mf c]
theorem count_due {x : Lr} (hx : ¬ (65 ∈ x ∧ 73 ∈ x ∧ 67 ∉ x)) {m n : Nat} (hm : m ≤ 2) (h1 : 1 ≤ n) (h4 : n ≤ 4) (h41 : n = 4 → m ≤ 1) : ((cntK (five x) (trs (lsN m) 4 n) n : Nat) : Int) = if n = 1 then (m : Int) + 2 else formV x (ltN x m) n := by
  have key : allK m n = true := by
    rcases (by omega : m = 0 ∨ m = 1 ∨ m = 2) with rfl | rfl | rfl
    · rcases (by omega : n = 1 ∨ n = 2 ∨ n = 3 ∨ n = 4) with rfl | rfl | rfl | rfl
      · exact k01
      · exact k02
      · exact k03
      · exact k04
    · rcases (by omega : n = 1 ∨ n = 2 ∨ n = 3 ∨ n = 4) with rfl | rfl | rfl | rfl
      · exact k11
      · exact k12
      · exact k13
      · exact k14
    · rcases (by omega : n = 1 ∨ n = 2 ∨ n = 3 ∨ n = 4) with rfl | rfl | rfl | rfl
      · exact k21
      · exact k22
      · exact k23
      · exact absurd (h41 rfl) (by decide)
  unfold allK at key
  have h := List.all_eq_true.mp key (five x) (five_in x)
  obtain ⟨a, b, c, d, e⟩ := in5
  have ok : okK (five x) = true := by
    unfold okK
    simp only [mf a, mf b, mf c]
    by_cases h1 : 65 ∈ x <;> by_cases h2 : 73 ∈ x <;> by_cases h3 : 67 ∈ x <;> simp_all
  rw [ok, Bool.not_true, Bool.false_or] at h
  rw [of_decide_eq_true h]
  unfold valK
  rw [form_five]
theorem lsN_ok {m : Nat} (hm : m ≤ 2) : (∀ w, w ∈ lsN m → okW w) ∧ (lsN m).length ≤ 4 := by
  rcases (by omega : m = 0 ∨ m = 1 ∨ m = 2) with rfl | rfl | rfl <;> (unfold okW lsN; decide)
/-- fuel more than the leaves changes nothing -/
theorem trs_fuel {ls : Wd} : ∀ (d n : Nat), 1 ≤ n → n ≤ d → trs ls (d + 1) n = trs ls d n
  | 0, n, h1, h => by omega
  | d + 1, n, h1, h => by
    conv => lhs; unfold trs
    conv => rhs; unfold trs
    split
    · rfl
    · rename_i hn
      have e : ∀ a, a ∈ List.range' 1 (n - 1) → ((trs ls (d + 1) a).flatMap fun l => (trs ls (d + 1) (n - a)).map (T.node l)) = (trs ls d a).flatMap fun l => (trs ls d (n - a)).map (T.node l) := fun a ha => by
        have := List.mem_range'.mp ha
        rw [trs_fuel d a (by omega) (by omega), trs_fuel d (n - a) (by omega) (by omega)]
      rw [List.flatMap_def, List.flatMap_def, List.map_congr_left e]
theorem trs_more {ls : Wd} {n : Nat} (h1 : 1 ≤ n) : ∀ (k d : Nat), n ≤ d → trs ls (d + k) n = trs ls d n
  | 0, d, _ => rfl
  | k + 1, d, h => by rw [show d + (k + 1) = (d + k) + 1 by omega, trs_fuel _ _ h1 (by omega), trs_more h1 k d h]
theorem form_exc {M : MS} {x : Lr} {m n : Int} (hx : 65 ∈ x ∧ 73 ∈ x ∧ 67 ∉ x) : F_form_count [.int n, .int m, rO x] M = .exc "BadRule" ["letter"] [.str [73]] M := by
  unfold F_form_count
  rw [runD_ap, show startD 6 [D.int n, .int m, rO x] = [some (.int n), some (.int m), some (rO x), none, none, none] from rfl]
  unfold m_form_count
  have tA := hasr (M := M) (x := x) (sd := [some (.int n), some (.int m), some (rO x), none, none, none]) (i := 2) sLA1 rfl
  have tI := hasr (M := M) (x := x) (sd := [some (.int n), some (.int m), some (rO x), none, none, none]) (i := 2) sLI1 rfl
  have tC := no1 (M := M) (x := x) (sd := [some (.int n), some (.int m), some (rO x), none, none, none]) (i := 2) sLC1 rfl
  rw [seqS_ap, ifS_ok (andB_ok tA (andB_ok tI tC)), if_pos (by simpa using hx), sLI1]
  rfl
theorem refused_run {M : MS} {x : Lr} {m n : Int} (hx : 65 ∈ x ∧ 73 ∈ x ∧ 67 ∉ x) : F_l_refused [.int n, .int m, rO x] M = .ok (.bl true) M := by
  unfold F_l_refused
  have xm : exm_BadRule "BadRule" = some true := rfl
  have e := form_exc (M := M) (n := n) (m := m) hx
  have c : callKE 3 2 1 F_form_count (· ++ ·) (consA (nameE 0) (consA (nameE 1) nilA)) (consA (nameE 2) nilA) [some (.int n), some (.int m), some (rO x), none] M = .exc "BadRule" ["letter"] [.str [73]] M := by
    exact (callKE_at (n := 3) (np := 2) (nk := 1) (F := F_form_count) (g := (· ++ ·)) (ds := [.int n, .int m]) (es := [rO x]) (M1 := M) (M2 := M) (cons_arg (M' := M) rfl (one_arg (M' := M) rfl)) (one_arg (M' := M) rfl) ⟨rfl, rfl, rfl⟩).trans e
  rw [runD_ap, show startD 4 [D.int n, .int m, rO x] = [some (.int n), some (.int m), some (rO x), none] from rfl]
  unfold m_l_refused
  rw [seqS_ap]
  unfold tryS
  rw [exprS_ap, c]
  simp [SRes.ofE, xm, s_l_refused_1, exSlot, xfE, lookF, finS, sLI1]
theorem cellE {M : MS} {sd : SD} {d : D} {k c : Int} {m : ME} (h0 : nameE 0 sd M = .ok d M) (hm : m sd M = .ok (.int k) M) (h : F_l_cell [d, .int k] M = .ok (.int c) M) : callE 2 F_l_cell (· ++ []) (consA (nameE 0) (consA m nilA)) sd M = .ok (.int c) M := by
  rw [callE_at (n := 2) (cons_arg h0 (one_arg hm)) rfl, h]
section
variable {x : Lr} {M : MS} {sd : SD} {a b c : ME} {m n : Nat}
/-- what both tell -/
def tellV (x : Lr) (m n : Nat) : Int := if n = 1 then (m : Int) + 2 else formV x (ltN x m) n
theorem fc_at (hx : ¬ (65 ∈ x ∧ 73 ∈ x ∧ 67 ∉ x)) (hm : m ≤ 2 ^ 67 - 2) (h1 : 1 ≤ n) (h2 : n ≤ 100) (ha : a sd M = .ok (.int (n : Int)) M) (hb : b sd M = .ok (.int (m : Int)) M) (hc : c sd M = .ok (rO (five x)) M) : ∃ M', callKE 3 2 1 F_form_count (· ++ ·) (consA a (consA b nilA)) (consA c nilA) sd M = .ok (.int (tellV x m n)) M' ∧ Ext M M' := by
  obtain ⟨i1, i2, i3, i4, i5⟩ := in5
  obtain ⟨M', e, k⟩ := form_run (M := M) (x := five x) (m := m) (n := n) (by simp only [mf i1, mf i2, mf i3]; exact hx) hm h1 h2
  refine ⟨M', ?_, k⟩
  rw [form_five] at e
  exact (callKE_at (n := 3) (np := 2) (nk := 1) (F := F_form_count) (g := (· ++ ·)) (ds := [.int (n : Int), .int (m : Int)]) (es := [rO (five x)]) (M1 := M) (M2 := M) (cons_arg ha (one_arg hb)) (one_arg hc) ⟨rfl, rfl, rfl⟩).trans e
theorem du_at (hx : ¬ (65 ∈ x ∧ 73 ∈ x ∧ 67 ∉ x)) (hm : m ≤ 2 ^ 67 - 2) (h1 : 1 ≤ n) (h2 : n ≤ 100) (ha : a sd M = .ok (.int (n : Int)) M) (hb : b sd M = .ok (.int (m : Int)) M) (hc : c sd M = .ok (.str x) M) : ∃ M', callE 3 F_l_due (· ++ []) (consA a (consA b (consA c nilA))) sd M = .ok (.int (tellV x m n)) M' ∧ Ext M M' := by
  obtain ⟨M', e, k⟩ := due_run (M := M) (x := x) (m := m) (n := n) hx hm h1 h2
  refine ⟨M', ?_, k⟩
  rw [callE_at (n := 3) (cons_arg ha (cons_arg hb (one_arg hc))) rfl]
  exact e
end
theorem ne_int {M M1 M2 : MS} {sd : SD} {a b : ME} {i : Int} (h1 : a sd M = .ok (.int i) M1) (h2 : b sd M1 = .ok (.int i) M2) : valB (binE (eqD true) a b) sd M = .ok false M2 := by
  rw [valB_ap, bin_to h1 h2, eqD_int]
  show Res.ok ((i == i) != true) M2 = _
  simp
theorem eq_int {M M1 M2 : MS} {sd : SD} {a b : ME} {i : Int} (h1 : a sd M = .ok (.int i) M1) (h2 : b sd M1 = .ok (.int i) M2) : binE (eqD false) a b sd M = .ok (.bl true) M2 := by
  rw [bin_to h1 h2, eqD_int]
  show Res.ok (D.bl ((i == i) != false)) M2 = _
  simp
theorem orB_to {ta tb : MB} {sd : SD} {M M1 M2 : MS} (h1 : ta sd M = .ok false M1) (h2 : tb sd M1 = .ok false M2) : orB ta tb sd M = .ok false M2 := by
  rw [orB_ap, h1, Res.bind_ok, orBK_f, h2]
abbrev ls13 (d : D) (p : Nat) (x : Lr) (n m : Option D) (l7 l8 l9 l10 l11 : Option D) (lg : Option D) : SD := [some d, some (.cell p), some (.str x), some (rO (five x)), n, m, lg, l7, l8, l9, l10, l11, none]
theorem min_1 {M : MS} {m : Nat} (hm : m ≤ 2) : min2F [.int (m : Int), .int 1] M = .ok (.int ((if m = 0 then 0 else 1 : Nat) : Int)) M := by
  rcases (by omega : m = 0 ∨ m = 1 ∨ m = 2) with rfl | rfl | rfl <;> rfl
theorem lets_run {M : MS} {sd : SD} {m : Nat} (hm : m ≤ 2) (h : nameE 5 sd M = .ok (.int (m : Int)) M) : binE addD (slE (lstE (consA (constE (.str (sL "a"))) (consA (constE (.str (sL "b"))) nilA))) noO (soO (nameE 5))) (lstE (consA (constE (.str (sL "e"))) (consA (constE (.str (sL "z"))) nilA))) sd M = .ok (wD (lsN m)) M := by
  have sa : sL "a" = [97] := by decide +kernel
  have sb : sL "b" = [98] := by decide +kernel
  have l1 : lstE (consA (constE (.str (sL "a"))) (consA (constE (.str (sL "b"))) nilA)) sd M = .ok (.lst [.str [97], .str [98]]) M := by
    rw [sa, sb]
    rfl
  have l2 : lstE (consA (constE (.str (sL "e"))) (consA (constE (.str (sL "z"))) nilA)) sd M = .ok (.lst [.str [101], .str [122]]) M := by
    rw [sLe, sLz]
    rfl
  have s : slE (lstE (consA (constE (.str (sL "a"))) (consA (constE (.str (sL "b"))) nilA))) noO (soO (nameE 5)) sd M = .ok (.lst (([[97], [98]].take m : Wd).map D.str)) M := by
    rw [slE_ap, l1, Res.bind_ok]
    simp only [slK1_ap, slK2_ap, slK3_ap, noO_ap, soO_ap, soK_ap, h, Res.bind_ok, sliceD_lst]
    rcases (by omega : m = 0 ∨ m = 1 ∨ m = 2) with rfl | rfl | rfl <;> rfl
  rw [bin_to s l2, addD_lst (by simp; omega)]
  simp [lsN]
theorem pln_small {x : Lr} (hx : ¬ (65 ∈ x ∧ 73 ∈ x ∧ 67 ∉ x)) {t : T} (h : t.ok) (hl : t.ws.length ≤ 4) : (pln x t).length ≤ 900000 := by
  have tne : t.ws ≠ [] := fun e => by have := t.ws_pos; rw [e] at this; simp at this
  by_cases hA : 65 ∈ x
  · have e : pln x t = TL.joinL [32] (wf x t.ws) := by unfold pln; rw [if_pos hA]
    have lw : (wf x t.ws).length ≤ 4 := by
      have hf : (fe x t.ws).length ≤ 4 := by
        unfold fe
        split
        · exact Nat.le_trans (List.length_filter_le _ _) hl
        · exact hl
      unfold wf
      split
      · simp
      split
      · simp
      unfold core
      split
      · unfold sortT
        rw [List.length_mergeSort]
        exact Nat.le_trans (dedT_len _) hf
      split
      · unfold sortT
        rw [List.length_mergeSort]
        exact hf
      · rename_i h1 h2
        rw [if_neg fun h3 => hx ⟨hA, h3, h2⟩]
        exact hf
    have key : ∀ ws : Wd, (∀ w, w ∈ ws → w.length ≤ 6) → (TL.joinL [32] ws).length ≤ 7 * ws.length
      | [], _ => by simp [TL.joinL]
      | [w], hk => by have := hk w List.mem_cons_self; simp [TL.joinL]; omega
      | w :: v :: r, hk => by
        have ih : (TL.joinL [32] (v :: r)).length ≤ 7 * (v :: r).length := by
          have := joinL_len [32] (v :: r)
          have h2 : ((v :: r).map List.length).sum ≤ 6 * (v :: r).length := by
            have : ∀ l : Wd, (∀ w, w ∈ l → w.length ≤ 6) → (l.map List.length).sum ≤ 6 * l.length := by
              intro l
              induction l with
              | nil => intro _; simp
              | cons a b ih =>
                intro hb
                have h1 := hb a List.mem_cons_self
                have h2 := ih fun w hw => hb w (List.mem_cons_of_mem _ hw)
                rw [List.map_cons, List.sum_cons, List.length_cons]
                omega
            exact this _ fun u hu => hk u (List.mem_cons_of_mem _ hu)
          simp only [List.length_cons, List.length_nil] at this ⊢ h2
          omega
        have e : TL.joinL [32] (w :: v :: r) = w ++ [32] ++ TL.joinL [32] (v :: r) := by simp [TL.joinL]
        have h1 := hk w List.mem_cons_self
        rw [e]
        simp only [List.length_append, List.length_cons, List.length_nil] at ih ⊢
        omega
    have := key (wf x t.ws) fun w hw => (wf_okW h w hw).2.1
    rw [e]
    omega
  · have e : pln x t = tf x t := by unfold pln; rw [if_neg hA]
    have := tf_len x t h
    have := (t.txt_len h).1
    rw [e]
    omega
section
variable {M : MS} {x : Lr} {d0 : D} {p n m : Nat} {lg : Option D}
theorem forms_at (hm : m ≤ 2) (h1 : 1 ≤ n) (h4 : n ≤ 4) : (setS 8 (sortZE (setR (lcE (anyI (nameE 7)) (nameG 12) yesB e_law_1 [12])))) (ls13 d0 p x (some (.int (n : Int))) (some (.int (m : Int))) (some (.lst (txD (trs (lsN m) 4 n)))) none none none none lg) M = .nx (ls13 d0 p x (some (.int (n : Int))) (some (.int (m : Int))) (some (.lst (txD (trs (lsN m) 4 n)))) (some (wD (sortT (dedT ((trs (lsN m) 4 n).map (pln (five x))))))) none none none lg) M := by
  obtain ⟨ok, l4⟩ := lsN_ok hm
  have hl := trs_len' l4 4 h1 h4
  have lc : lcE (anyI (nameE 7)) (nameG 12) yesB e_law_1 [12] (ls13 d0 p x (some (.int (n : Int))) (some (.int (m : Int))) (some (.lst (txD (trs (lsN m) 4 n)))) none none none none lg) M = .ok (.lst ((trs (lsN m) 4 n).map fun t => D.str (pln (five x) t))) M := by
    refine lcE_lst (g := fun t => D.str t.txt) (f := fun t => D.str (pln (five x) t)) (M' := M) rfl (by omega) fun t ht => ?_
    obtain ⟨to, tl⟩ := trs_mem ok 4 n t h1 ht
    have tt := txt_small to (by omega)
    have td := t.depth_lt
    have w := way_init 30 t to (by omega) (by omega) (by omega) (by omega) M
    unfold e_law_1
    have cw : callE 1 (mkT "Way" F_WayD_initD) (· ++ []) (consA (nameE 12) nilA) ((wipeD (ls13 d0 p x (some (.int (n : Int))) (some (.int (m : Int))) (some (.lst (txD (trs (lsN m) 4 n)))) none none none none lg) [12]).set 12 (some (.str t.txt))) M = .ok t.w M := by
      rw [callE_at (n := 1) (one_arg (x := .str t.txt) (M' := M) rfl) rfl]
      exact w
    refine (callKE_at (n := 2) (np := 1) (nk := 1) (F := F_plain) (g := (· ++ ·)) (ds := [t.w]) (es := [rO (five x)]) (M1 := M) (M2 := M) (one_arg cw) (one_arg (M' := M) rfl) ⟨rfl, rfl, rfl⟩).trans ?_
    exact plain_all to (by first | exact ⟨Nat.le_trans (dedT_len _) (by omega), by omega⟩ | omega)
  have lc' : lcE (anyI (nameE 7)) (nameG 12) yesB e_law_1 [12] (ls13 d0 p x (some (.int (n : Int))) (some (.int (m : Int))) (some (.lst (txD (trs (lsN m) 4 n)))) none none none none lg) M = .ok (wD ((trs (lsN m) 4 n).map (pln (five x)))) M := by
    rw [lc]
    simp [wD, List.map_map, Function.comp_def]
  rw [setS_ap, sortZE_ap, setR_w lc' (by rw [List.length_map]; omega)]
  rfl
theorem due_at (hx : ¬ (65 ∈ x ∧ 73 ∈ x ∧ 67 ∉ x)) (hm : m ≤ 2) (h1 : 1 ≤ n) (h4 : n ≤ 4) (h41 : n = 4 → m ≤ 1) {o7 : Option D} : (setS 9 (appE lenF (consA (lcE (anyI (nameE 8)) (nameG 12) t_law_1 (nameE 12) [12]) nilA))) (ls13 d0 p x (some (.int (n : Int))) (some (.int (m : Int))) o7 (some (wD (sortT (dedT ((trs (lsN m) 4 n).map (pln (five x))))))) none none none lg) M = .nx (ls13 d0 p x (some (.int (n : Int))) (some (.int (m : Int))) o7 (some (wD (sortT (dedT ((trs (lsN m) 4 n).map (pln (five x))))))) (some (.int (tellV x m n))) none none lg) M := by
  obtain ⟨ok, l4⟩ := lsN_ok hm
  have hl := trs_len' l4 4 h1 h4
  obtain ⟨i1, i2, i3, i4, i5⟩ := in5
  have hx5 : ¬ (65 ∈ five x ∧ 73 ∈ five x ∧ 67 ∉ five x) := by simp only [mf i1, mf i2, mf i3]; exact hx
  have hc := cnt_eq (x := five x) hx5 (ts := trs (lsN m) 4 n) (n := n) fun t ht => (trs_mem ok 4 n t h1 ht).1
  have hd := count_due hx hm h1 h4 h41
  rw [← hc] at hd
  have mem : ∀ s, s ∈ sortT (dedT ((trs (lsN m) 4 n).map (pln (five x)))) → ∃ t, t ∈ trs (lsN m) 4 n ∧ pln (five x) t = s := fun s hs => by
    have := mem_dedT.mp ((List.mergeSort_perm _ _).mem_iff.mp hs)
    exact List.mem_map.mp this
  have hlen : (sortT (dedT ((trs (lsN m) 4 n).map (pln (five x))))).length ≤ 1280 := by
    unfold sortT
    rw [List.length_mergeSort]
    have := dedT_len ((trs (lsN m) 4 n).map (pln (five x)))
    rw [List.length_map] at this
    omega
  generalize sortT (dedT ((trs (lsN m) 4 n).map (pln (five x)))) = W at *
  have lc := lc_typed (tt := t_law_1) (te := nameE 12) (i := 12) (w := wipeD (ls13 d0 p x (some (.int (n : Int))) (some (.int (m : Int))) o7 (some (wD W)) none none none lg) [12]) (M := M) (g := D.str) (p := fun s => decide (sz s = n)) (f := D.str) (xs := W) (by omega) (fun s hs => by
    refine ⟨?_, fun _ => rfl⟩
    obtain ⟨t, ht, rfl⟩ := mem s hs
    obtain ⟨to, tl⟩ := trs_mem ok 4 n t h1 ht
    obtain ⟨ws, w1, w2, w3⟩ := pln_words (x := five x) to
    unfold t_law_1
    have hs9 : (pln (five x) t).length ≤ 900000 := pln_small hx5 to (by omega)
    have c : callE 1 F_l_size (· ++ []) (consA (nameE 12) nilA) ((wipeD (ls13 d0 p x (some (.int (n : Int))) (some (.int (m : Int))) o7 (some (wD W)) none none none lg) [12]).set 12 (some (.str (pln (five x) t)))) M = .ok (.int (sz (pln (five x) t) : Nat)) M := by
      rw [callE_at (n := 1) (one_arg (x := .str (pln (five x) t)) (M' := M) rfl) rfl]
      exact size_run hs9 w3 w1 w2
    rw [valB_ap, bin_to (y := .int (n : Int)) (M2 := M) c rfl, eqD_int]
    show Res.ok (((sz (pln (five x) t) : Int) == (n : Int)) != false) M = _
    congr 1
    rw [Bool.eq_iff_iff]
    simp
    omega)
  have lc2 : lcE (anyI (nameE 8)) (nameG 12) t_law_1 (nameE 12) [12] (ls13 d0 p x (some (.int (n : Int))) (some (.int (m : Int))) o7 (some (wD W)) none none none lg) M = .ok (.lst ((W.filter fun s => decide (sz s = n)).map D.str)) M := by
    rw [lcE_ap, anyI_ap, show nameE 8 (ls13 d0 p x (some (.int (n : Int))) (some (.int (m : Int))) o7 (some (wD W)) none none none lg) M = .ok (wD W) M from rfl, Res.bind_ok, show itK (wD W) M = .ok ⟨W.map D.str, fun _ => True⟩ M from rfl, Res.bind_ok, lcK_ap]
    show (Res.bind (Res.ne (lcGo (fun _ => True) _ _ _ _ (W.map D.str) _ _)) _) = _
    rw [lc]
    rfl
  rw [setS_ap, appE_ap, one_arg lc2, Res.bind_ok, lenF_lst, List.length_map, hd]
  rfl
end
theorem law_plain (ns : List Int) (hn : ns.length ≤ 63) : ∃ M', F_law [.flst (ns.map D.int)] [] = .ok (.bl true) M' := by
  generalize ([] : MS) = M0
  obtain ⟨c0, e0⟩ := cell_run ns 0 (by omega) M0
  obtain ⟨M1, e1, x1, P1⟩ := pool_run (M := M0) c0
  obtain ⟨p, hp⟩ : ∃ p, p = M0.length := ⟨_, rfl⟩
  rw [← hp] at e1 P1
  unfold F_law
  rw [runD_ap, show startD 13 [D.flst (ns.map D.int)] = [some (.flst (ns.map D.int)), none, none, none, none, none, none, none, none, none, none, none, none] from rfl]
  unfold m_law
  have z0 : (setS 1 (callE 1 F_l_pool (· ++ []) (consA (callE 2 F_l_cell (· ++ []) (consA (nameE 0) (consA (constE (.int 0)) nilA))) nilA))) [some (.flst (ns.map D.int)), none, none, none, none, none, none, none, none, none, none, none, none] M0 = .nx [some (.flst (ns.map D.int)), some (.cell p), none, none, none, none, none, none, none, none, none, none, none] M1 := by
    rw [setS_ap, callE_at (n := 1) (one_arg (cellE (d := .flst (ns.map D.int)) rfl rfl e0)) rfl, e1]
    rfl
  obtain ⟨x, M2, e2, rx, lx, P2, K2⟩ := letters_run P1
  have z1 : (setS 2 (callE 1 F_l_letters (· ++ []) (consA (nameE 1) nilA))) [some (.flst (ns.map D.int)), some (.cell p), none, none, none, none, none, none, none, none, none, none, none] M1 = .nx [some (.flst (ns.map D.int)), some (.cell p), some (.str x), none, none, none, none, none, none, none, none, none, none] M2 := by
    rw [setS_ap, callE_at (n := 1) (one_arg (x := .cell p) (M' := M1) rfl) rfl, e2]
    rfl
  have l5 : Let5 x := fun c hc => by rw [sAll.2.2.2.2.2]; exact rx c hc
  generalize D.flst (ns.map D.int) = d0 at *
  have z2 : (setS 3 (callE 1 (mkT "Rules" F_RulesD_initD) (· ++ []) (consA (nameE 2) nilA))) [some d0, some (.cell p), some (.str x), none, none, none, none, none, none, none, none, none, none] M2 = .nx (ls13 d0 p x none none none none none none none none) M2 := by
    rw [setS_ap, callE_at (n := 1) (one_arg (x := .str x) (M' := M2) rfl) rfl, init_run l5]
    rfl
  obtain ⟨r3, M3, e3, r3l, P3, K3⟩ := takeE (M := M2) (p := p) (l := 3) (s := 1) (sd := ls13 d0 p x none none none none none none none none) (m := constE (.int 3)) P2 (by decide) (by decide) rfl rfl
  have z3 : (setS 4 (binE addD (constE (.int 1)) (callE 2 F_l_take (· ++ []) (consA (nameE 1) (consA (constE (.int 3)) nilA))))) (ls13 d0 p x none none none none none none none none) M2 = .nx (ls13 d0 p x (some (.int ((1 + r3 : Nat) : Int))) none none none none none none none) M3 := by
    rw [setS_ap, bin_to (x := .int 1) (y := .int (r3 : Int)) (M1 := M2) rfl e3, addD_int, show (1 : Int) + (r3 : Int) = ((1 + r3 : Nat) : Int) by omega]
    rfl
  obtain ⟨r4, M4, e4, r4l, P4, K4⟩ := takeE (M := M3) (p := p) (l := 3) (s := 1) (sd := ls13 d0 p x (some (.int ((1 + r3 : Nat) : Int))) none none none none none none none) (m := constE (.int 3)) P3 (by decide) (by decide) rfl rfl
  have z4 : (setS 5 (callE 2 F_l_take (· ++ []) (consA (nameE 1) (consA (constE (.int 3)) nilA)))) (ls13 d0 p x (some (.int ((1 + r3 : Nat) : Int))) none none none none none none none) M3 = .nx (ls13 d0 p x (some (.int ((1 + r3 : Nat) : Int))) (some (.int (r4 : Int))) none none none none none none) M4 := by
    rw [setS_ap, e4]
    rfl
  obtain ⟨r5, M5, e5, r5l, P5, K5⟩ := takeE (M := M4) (p := p) (l := 8) (s := 1) (sd := ls13 d0 p x (some (.int ((1 + r3 : Nat) : Int))) (some (.int (r4 : Int))) none none none none none none) (m := constE (.int 8)) P4 (by decide) (by decide) rfl rfl
  obtain ⟨n, m, hn1, hn4, hm2, h41, z5⟩ : ∃ n m : Nat, 1 ≤ n ∧ n ≤ 4 ∧ m ≤ 2 ∧ (n = 4 → m ≤ 1) ∧ (ifS (valB (binE (eqD false) (callE 2 F_l_take (· ++ []) (consA (nameE 1) (consA (constE (.int 8)) nilA))) (constE (.int 1)))) (seqS (setS 4 (constE (.int 4))) (setS 5 (appE min2F (consA (nameE 5) (consA (constE (.int 1)) nilA))))) passS) (ls13 d0 p x (some (.int ((1 + r3 : Nat) : Int))) (some (.int (r4 : Int))) none none none none none none) M4 = .nx (ls13 d0 p x (some (.int (n : Int))) (some (.int (m : Int))) none none none none none none) M5 := by
    have t := bin_testE (y := 1) e5
    rw [ifS_ap, t, SRes.ofE_ok]
    by_cases h : (r5 : Int) = 1
    · refine ⟨4, if r4 = 0 then 0 else 1, by omega, by omega, by split <;> omega, fun _ => by split <;> omega, ?_⟩
      rw [decide_eq_true h, ifK_t, seqS_ap, show setS 4 (constE (.int 4)) (ls13 d0 p x (some (.int ((1 + r3 : Nat) : Int))) (some (.int (r4 : Int))) none none none none none none) M5 = .nx (ls13 d0 p x (some (.int ((4 : Nat) : Int))) (some (.int (r4 : Int))) none none none none none none) M5 from rfl, SRes.seq_nx, setS_ap, appE_ap, cons_arg (x := .int (r4 : Int)) (M' := M5) rfl (one_arg (x := .int 1) (M' := M5) rfl), Res.bind_ok, min_1 (by omega)]
      rfl
    · refine ⟨1 + r3, r4, by omega, by omega, by omega, fun q => by omega, ?_⟩
      rw [decide_eq_false h, ifK_f]
      rfl
  obtain ⟨r6, M6, e6, r6l, P6, K6⟩ := takeE (M := M5) (p := p) (l := 100) (s := 1) (sd := ls13 d0 p x (some (.int (n : Int))) (some (.int (m : Int))) none none none none none none) (m := constE (.int 100)) P5 (by decide) (by decide) rfl rfl
  have pw : binE powI (constE (.int 10)) (constE (.int 20)) (ls13 d0 p x (some (.int (n : Int))) (some (.int (m : Int))) none none none none none none) M6 = .ok (.int ((100000000000000000000 : Nat) : Int)) M6 := by
    rw [bin_to (x := .int 10) (y := .int 20) (M1 := M6) (M2 := M6) rfl rfl, powI_int ⟨by decide, by decide, by decide⟩]
    rfl
  obtain ⟨r7, M7, e7, r7l, P7, K7⟩ := takeE (M := M6) (p := p) (l := 100000000000000000000) (s := 1) (sd := ls13 d0 p x (some (.int (n : Int))) (some (.int (m : Int))) none none none none none none) (m := binE powI (constE (.int 10)) (constE (.int 20))) P6 (by decide) (by decide) rfl pw
  have hr7 : r7 ≤ 2 ^ 67 - 2 := by
    have : (2 : Nat) ^ 67 = 147573952589676412928 := by decide
    omega
  obtain ⟨lg, hlg⟩ : ∃ lg : D, lg = .lst [.int ((1 + r6 : Nat) : Int), .int (r7 : Int)] := ⟨_, rfl⟩
  have z6 : (setS 6 (lstE (consA (binE addD (constE (.int 1)) (callE 2 F_l_take (· ++ []) (consA (nameE 1) (consA (constE (.int 100)) nilA)))) (consA (callE 2 F_l_take (· ++ []) (consA (nameE 1) (consA (binE powI (constE (.int 10)) (constE (.int 20))) nilA))) nilA)))) (ls13 d0 p x (some (.int (n : Int))) (some (.int (m : Int))) none none none none none none) M5 = .nx (ls13 d0 p x (some (.int (n : Int))) (some (.int (m : Int))) none none none none none (some lg)) M7 := by
    have a1 : binE addD (constE (.int 1)) (callE 2 F_l_take (· ++ []) (consA (nameE 1) (consA (constE (.int 100)) nilA))) (ls13 d0 p x (some (.int (n : Int))) (some (.int (m : Int))) none none none none none none) M5 = .ok (.int ((1 + r6 : Nat) : Int)) M6 := by
      rw [bin_to (x := .int 1) (y := .int (r6 : Int)) (M1 := M5) rfl e6, addD_int, show (1 : Int) + (r6 : Int) = ((1 + r6 : Nat) : Int) by omega]
    rw [setS_ap, lstE_ap, cons_arg a1 (one_arg e7), Res.bind_ok, lstK_ap (by simp), ← hlg]
    rfl
  have g0 : ∀ (M : MS) (s7 s8 s9 s10 s11 : Option D), binE ixD (nameE 6) (constE (.int 0)) (ls13 d0 p x (some (.int (n : Int))) (some (.int (m : Int))) s7 s8 s9 s10 s11 (some lg)) M = .ok (.int ((1 + r6 : Nat) : Int)) M := fun M s7 s8 s9 s10 s11 => by
    rw [bin_to (x := lg) (y := .int 0) (M1 := M) (M2 := M) rfl rfl, hlg]
    exact ixD_lst (atI_of (j := 0) rfl)
  have g1 : ∀ (M : MS) (s7 s8 s9 s10 s11 : Option D), binE ixD (nameE 6) (constE (.int 1)) (ls13 d0 p x (some (.int (n : Int))) (some (.int (m : Int))) s7 s8 s9 s10 s11 (some lg)) M = .ok (.int (r7 : Int)) M := fun M s7 s8 s9 s10 s11 => by
    rw [bin_to (x := lg) (y := .int 1) (M1 := M) (M2 := M) rfl rfl, hlg]
    exact ixD_lst (atI_of (j := 1) rfl)
  rw [seqS_ap, z0, SRes.seq_nx, seqS_ap, z1, SRes.seq_nx, seqS_ap, z2, SRes.seq_nx, seqS_ap, z3, SRes.seq_nx, seqS_ap, z4, SRes.seq_nx, seqS_ap, z5, SRes.seq_nx, seqS_ap, z6, SRes.seq_nx]
  have tA := hast (M := M7) (x := x) (sd := ls13 d0 p x (some (.int (n : Int))) (some (.int (m : Int))) none none none none none (some lg)) (i := 2) sLA1 rfl
  have tI := hast (M := M7) (x := x) (sd := ls13 d0 p x (some (.int (n : Int))) (some (.int (m : Int))) none none none none none (some lg)) (i := 2) sLI1 rfl
  have tC := not1 (M := M7) (x := x) (sd := ls13 d0 p x (some (.int (n : Int))) (some (.int (m : Int))) none none none none none (some lg)) (i := 2) sLC1 rfl
  rw [seqS_ap, ifS_ok (andB_ok tA (andB_ok tI tC))]
  by_cases hx : 65 ∈ x ∧ 73 ∈ x ∧ 67 ∉ x
  · refine ⟨M7, ?_⟩
    obtain ⟨i1, i2, i3, i4, i5⟩ := in5
    have hx5 : 65 ∈ five x ∧ 73 ∈ five x ∧ 67 ∉ five x := by simp only [mf i1, mf i2, mf i3]; exact hx
    have q1 : callE 3 F_l_refused (· ++ []) (consA (nameE 4) (consA (nameE 5) (consA (nameE 3) nilA))) (ls13 d0 p x (some (.int (n : Int))) (some (.int (m : Int))) none none none none none (some lg)) M7 = .ok (.bl true) M7 := by
      rw [callE_at (n := 3) (ds := [.int (n : Int), .int (m : Int), rO (five x)]) (cons_arg (M' := M7) rfl (cons_arg (M' := M7) rfl (one_arg (M' := M7) rfl))) rfl, refused_run hx5]
    have q2 : callE 3 F_l_refused (· ++ []) (consA (binE ixD (nameE 6) (constE (.int 0))) (consA (binE ixD (nameE 6) (constE (.int 1))) (consA (nameE 3) nilA))) (ls13 d0 p x (some (.int (n : Int))) (some (.int (m : Int))) none none none none none (some lg)) M7 = .ok (.bl true) M7 := by
      rw [callE_at (n := 3) (cons_arg (g0 M7 _ _ _ _ _) (cons_arg (g1 M7 _ _ _ _ _) (one_arg (x := rO (five x)) (M' := M7) rfl))) rfl, refused_run hx5]
    rw [if_pos (by simpa using hx), retS_ap, andE_ok q1 fun _ => q2]
    rfl
  rw [if_neg (by simpa using hx), passS_ap, SRes.seq_nx]
  have z8 : (setS 7 (callE 2 F_l_texts (· ++ []) (consA (nameE 4) (consA (binE addD (slE (lstE (consA (constE (.str (sL "a"))) (consA (constE (.str (sL "b"))) nilA))) noO (soO (nameE 5))) (lstE (consA (constE (.str (sL "e"))) (consA (constE (.str (sL "z"))) nilA)))) nilA)))) (ls13 d0 p x (some (.int (n : Int))) (some (.int (m : Int))) none none none none none (some lg)) M7 = .nx (ls13 d0 p x (some (.int (n : Int))) (some (.int (m : Int))) (some (.lst (txD (trs (lsN m) 4 n)))) none none none none (some lg)) M7 := by
    have r := texts_run (M := M7) (lsN_ok hm2).1 (lsN_ok hm2).2 30 n hn1 hn4 (by omega)
    rw [show (30 : Nat) = 4 + 26 from rfl, trs_more hn1 26 4 (by omega)] at r
    have c : callE 2 F_l_texts (· ++ []) (consA (nameE 4) (consA (binE addD (slE (lstE (consA (constE (.str (sL "a"))) (consA (constE (.str (sL "b"))) nilA))) noO (soO (nameE 5))) (lstE (consA (constE (.str (sL "e"))) (consA (constE (.str (sL "z"))) nilA)))) nilA)) (ls13 d0 p x (some (.int (n : Int))) (some (.int (m : Int))) none none none none none (some lg)) M7 = .ok (.lst (txD (trs (lsN m) 4 n))) M7 := by
      rw [callE_at (n := 2) (cons_arg (x := .int (n : Int)) (M' := M7) rfl (one_arg (lets_run hm2 rfl))) rfl]
      exact r
    rw [setS_ap, c]
    rfl
  have z9 := forms_at (M := M7) (x := x) (d0 := d0) (p := p) (lg := some lg) hm2 hn1 hn4
  have z10 := due_at (M := M7) (x := x) (d0 := d0) (p := p) (lg := some lg) hx hm2 hn1 hn4 h41 (o7 := some (.lst (txD (trs (lsN m) 4 n))))
  generalize D.lst (txD (trs (lsN m) 4 n)) = d7 at *
  generalize wD (sortT (dedT ((trs (lsN m) 4 n).map (pln (five x))))) = d8 at *
  rw [seqS_ap, z8, SRes.seq_nx, seqS_ap, z9, SRes.seq_nx, seqS_ap, z10, SRes.seq_nx]
  have hm67 : m ≤ 2 ^ 67 - 2 := Nat.le_trans hm2 (by decide)
  obtain ⟨M8, e8, x8⟩ := fc_at (x := x) (M := M7) (sd := ls13 d0 p x (some (.int (n : Int))) (some (.int (m : Int))) (some d7) (some d8) (some (.int (tellV x m n))) none none (some lg)) (a := nameE 4) (b := nameE 5) (c := nameE 3) hx hm67 hn1 (by omega) rfl rfl rfl
  have z11 : (setS 10 (callKE 3 2 1 F_form_count (· ++ ·) (consA (nameE 4) (consA (nameE 5) nilA)) (consA (nameE 3) nilA))) (ls13 d0 p x (some (.int (n : Int))) (some (.int (m : Int))) (some d7) (some d8) (some (.int (tellV x m n))) none none (some lg)) M7 = .nx (ls13 d0 p x (some (.int (n : Int))) (some (.int (m : Int))) (some d7) (some d8) (some (.int (tellV x m n))) (some (.int (tellV x m n))) none (some lg)) M8 := by
    rw [setS_ap, e8]
    rfl
  obtain ⟨M9, e9, x9⟩ := du_at (x := x) (M := M8) (sd := ls13 d0 p x (some (.int (n : Int))) (some (.int (m : Int))) (some d7) (some d8) (some (.int (tellV x m n))) (some (.int (tellV x m n))) none (some lg)) (a := nameE 4) (b := nameE 5) (c := nameE 2) hx hm67 hn1 (by omega) rfl rfl rfl
  have z12 : (ifS (orB (valB (binE (eqD true) (nameE 10) (nameE 9))) (orB (truB (appE (isiF [] tblB) (consA (nameE 10) (consA (constE (.ty "bool")) nilA)))) (valB (binE (eqD true) (nameE 10) (callE 3 F_l_due (· ++ []) (consA (nameE 4) (consA (nameE 5) (consA (nameE 2) nilA)))))))) (retS (constE (.bl false))) passS) (ls13 d0 p x (some (.int (n : Int))) (some (.int (m : Int))) (some d7) (some d8) (some (.int (tellV x m n))) (some (.int (tellV x m n))) none (some lg)) M8 = .nx (ls13 d0 p x (some (.int (n : Int))) (some (.int (m : Int))) (some d7) (some d8) (some (.int (tellV x m n))) (some (.int (tellV x m n))) none (some lg)) M9 := by
    have t1 : valB (binE (eqD true) (nameE 10) (nameE 9)) (ls13 d0 p x (some (.int (n : Int))) (some (.int (m : Int))) (some d7) (some d8) (some (.int (tellV x m n))) (some (.int (tellV x m n))) none (some lg)) M8 = .ok false M8 := ne_int (i := tellV x m n) (M1 := M8) rfl rfl
    have t2 : truB (appE (isiF [] tblB) (consA (nameE 10) (consA (constE (.ty "bool")) nilA))) (ls13 d0 p x (some (.int (n : Int))) (some (.int (m : Int))) (some d7) (some d8) (some (.int (tellV x m n))) (some (.int (tellV x m n))) none (some lg)) M8 = .ok false M8 := by
      generalize tellV x m n = V
      have : appE (isiF [] tblB) (consA (nameE 10) (consA (constE (.ty "bool")) nilA)) (ls13 d0 p x (some (.int (n : Int))) (some (.int (m : Int))) (some d7) (some d8) (some (.int V)) (some (.int V)) none (some lg)) M8 = .ok (.bl false) M8 := by
        rw [appE_ap, cons_arg (x := .int V) (M' := M8) rfl (one_arg (x := .ty "bool") (M' := M8) rfl), Res.bind_ok]
        rfl
      rw [truB_ap, this]
      rfl
    have t3 := ne_int (a := nameE 10) (i := tellV x m n) (M := M8) (M1 := M8) rfl e9
    rw [ifS_ap, orB_to t1 (orB_to t2 t3)]
    rfl
  have Pk : PoolAt M9 p := (P7.ext x8).ext x9
  obtain ⟨r13, M10, e13, r13l, P10, K10⟩ := takeE (M := M9) (p := p) (l := 20) (s := 1) (sd := ls13 d0 p x (some (.int (n : Int))) (some (.int (m : Int))) (some d7) (some d8) (some (.int (tellV x m n))) (some (.int (tellV x m n))) none (some lg)) (m := constE (.int 20)) Pk (by decide) (by decide) rfl rfl
  have z13 : (setS 11 (binE addD (constE (.int 1)) (callE 2 F_l_take (· ++ []) (consA (nameE 1) (consA (constE (.int 20)) nilA))))) (ls13 d0 p x (some (.int (n : Int))) (some (.int (m : Int))) (some d7) (some d8) (some (.int (tellV x m n))) (some (.int (tellV x m n))) none (some lg)) M9 = .nx (ls13 d0 p x (some (.int (n : Int))) (some (.int (m : Int))) (some d7) (some d8) (some (.int (tellV x m n))) (some (.int (tellV x m n))) (some (.int ((1 + r13 : Nat) : Int))) (some lg)) M10 := by
    rw [setS_ap, bin_to (x := .int 1) (y := .int (r13 : Int)) (M1 := M9) rfl e13, addD_int, show (1 : Int) + (r13 : Int) = ((1 + r13 : Nat) : Int) by omega]
    rfl
  obtain ⟨M11, e14, _⟩ := fc_at (x := x) (M := M10) (n := 1 + r13) (m := m) (sd := ls13 d0 p x (some (.int (n : Int))) (some (.int (m : Int))) (some d7) (some d8) (some (.int (tellV x m n))) (some (.int (tellV x m n))) (some (.int ((1 + r13 : Nat) : Int))) (some lg)) (a := nameE 11) (b := nameE 5) (c := nameE 3) hx hm67 (by omega) (by omega) rfl rfl rfl
  obtain ⟨M12, e15, _⟩ := du_at (x := x) (M := M11) (n := 1 + r13) (m := m) (sd := ls13 d0 p x (some (.int (n : Int))) (some (.int (m : Int))) (some d7) (some d8) (some (.int (tellV x m n))) (some (.int (tellV x m n))) (some (.int ((1 + r13 : Nat) : Int))) (some lg)) (a := nameE 11) (b := nameE 5) (c := nameE 2) hx hm67 (by omega) (by omega) rfl rfl rfl
  have z14 : (ifS (valB (binE (eqD true) (callKE 3 2 1 F_form_count (· ++ ·) (consA (nameE 11) (consA (nameE 5) nilA)) (consA (nameE 3) nilA)) (callE 3 F_l_due (· ++ []) (consA (nameE 11) (consA (nameE 5) (consA (nameE 2) nilA)))))) (retS (constE (.bl false))) passS) (ls13 d0 p x (some (.int (n : Int))) (some (.int (m : Int))) (some d7) (some d8) (some (.int (tellV x m n))) (some (.int (tellV x m n))) (some (.int ((1 + r13 : Nat) : Int))) (some lg)) M10 = .nx (ls13 d0 p x (some (.int (n : Int))) (some (.int (m : Int))) (some d7) (some d8) (some (.int (tellV x m n))) (some (.int (tellV x m n))) (some (.int ((1 + r13 : Nat) : Int))) (some lg)) M12 := by
    rw [ifS_ap, ne_int e14 e15]
    rfl
  obtain ⟨M13, e16, _⟩ := fc_at (x := x) (M := M12) (n := 1 + r6) (m := r7) (sd := ls13 d0 p x (some (.int (n : Int))) (some (.int (m : Int))) (some d7) (some d8) (some (.int (tellV x m n))) (some (.int (tellV x m n))) (some (.int ((1 + r13 : Nat) : Int))) (some lg)) (a := binE ixD (nameE 6) (constE (.int 0))) (b := binE ixD (nameE 6) (constE (.int 1))) (c := nameE 3) hx hr7 (by omega) (by omega) (g0 _ _ _ _ _ _) (g1 _ _ _ _ _ _) rfl
  obtain ⟨M14, e17, _⟩ := du_at (x := x) (M := M13) (n := 1 + r6) (m := r7) (sd := ls13 d0 p x (some (.int (n : Int))) (some (.int (m : Int))) (some d7) (some d8) (some (.int (tellV x m n))) (some (.int (tellV x m n))) (some (.int ((1 + r13 : Nat) : Int))) (some lg)) (a := binE ixD (nameE 6) (constE (.int 0))) (b := binE ixD (nameE 6) (constE (.int 1))) (c := nameE 2) hx hr7 (by omega) (by omega) (g0 _ _ _ _ _ _) (g1 _ _ _ _ _ _) rfl
  refine ⟨M14, ?_⟩
  rw [seqS_ap, z11, SRes.seq_nx, seqS_ap, z12, SRes.seq_nx, seqS_ap, z13, SRes.seq_nx, seqS_ap, z14, SRes.seq_nx, retS_ap, eq_int e16 e17]
  rfl
end Lk91
namespace Lk91
open PySem PySem.Spec L2 DL
open PyProof.Rows hiding St
set_option maxHeartbeats 0 in
theorem facts {l : PySem.W.OpenLaw} {w : World} {K : PySem.W.Frag} {h : Heap} {mg : Str → Option Value} {fa : Addr} (X : K.In h) (G : h.Ns mainGlobals mg) (hfa : mg "law" = some (.ref fa))
    {c_BadRule : Addr}
    {c_NoWay : Addr}
    {c_Rules : Addr}
    {c_Way : Addr}
    {c_WayError : Addr}
    {f_l_pool : Addr}
    {od_l_pool an_l_pool : Option Addr}
    {sl_l_pool : Array (Option Value)}
    {oc_l_pool kV_l_pool dc_l_pool pm_l_pool cd_l_pool ct_l_pool : Value}
    {f_l_take : Addr}
    {od_l_take an_l_take : Option Addr}
    {sl_l_take : Array (Option Value)}
    {oc_l_take kV_l_take dc_l_take pm_l_take cd_l_take ct_l_take : Value}
    {f_l_letters : Addr}
    {od_l_letters an_l_letters : Option Addr}
    {sl_l_letters : Array (Option Value)}
    {oc_l_letters kV_l_letters dc_l_letters pm_l_letters cd_l_letters ct_l_letters : Value}
    {f_BadRuleD_initD : Addr}
    {od_BadRuleD_initD an_BadRuleD_initD : Option Addr}
    {sl_BadRuleD_initD : Array (Option Value)}
    {oc_BadRuleD_initD kV_BadRuleD_initD dc_BadRuleD_initD pm_BadRuleD_initD cd_BadRuleD_initD ct_BadRuleD_initD : Value}
    {f_RulesD_initD : Addr}
    {od_RulesD_initD an_RulesD_initD : Option Addr}
    {sl_RulesD_initD : Array (Option Value)}
    {oc_RulesD_initD kV_RulesD_initD dc_RulesD_initD pm_RulesD_initD cd_RulesD_initD ct_RulesD_initD : Value}
    {T_RulesD_initD : Addr}
    {tk_RulesD_initD_0 : Tok}
    {Toc_RulesD_initD : Value}
    {Tod_RulesD_initD : Option Addr}
    {Tn_RulesD_initD : Nat}
    {Tsl_RulesD_initD : Array (Option Value)}
    {f_l_texts : Addr}
    {od_l_texts an_l_texts : Option Addr}
    {sl_l_texts : Array (Option Value)}
    {oc_l_texts kV_l_texts dc_l_texts pm_l_texts cd_l_texts ct_l_texts : Value}
    {f_RulesD_containsD : Addr}
    {od_RulesD_containsD an_RulesD_containsD : Option Addr}
    {sl_RulesD_containsD : Array (Option Value)}
    {oc_RulesD_containsD kV_RulesD_containsD dc_RulesD_containsD pm_RulesD_containsD cd_RulesD_containsD ct_RulesD_containsD : Value}
    {f_choices : Addr}
    {od_choices an_choices : Option Addr}
    {sl_choices : Array (Option Value)}
    {oc_choices kV_choices dc_choices pm_choices cd_choices ct_choices : Value}
    {f_rows_of_letters : Addr}
    {od_rows_of_letters an_rows_of_letters : Option Addr}
    {sl_rows_of_letters : Array (Option Value)}
    {oc_rows_of_letters kV_rows_of_letters dc_rows_of_letters pm_rows_of_letters cd_rows_of_letters ct_rows_of_letters : Value}
    {f_pairs_of_parts : Addr}
    {od_pairs_of_parts an_pairs_of_parts : Option Addr}
    {sl_pairs_of_parts : Array (Option Value)}
    {oc_pairs_of_parts kV_pairs_of_parts dc_pairs_of_parts pm_pairs_of_parts cd_pairs_of_parts ct_pairs_of_parts : Value}
    {f_form_count : Addr}
    {od_form_count an_form_count : Option Addr}
    {sl_form_count : Array (Option Value)}
    {oc_form_count dc_form_count pm_form_count cd_form_count ct_form_count : Value}
    {f_l_cell : Addr}
    {od_l_cell an_l_cell : Option Addr}
    {sl_l_cell : Array (Option Value)}
    {oc_l_cell kV_l_cell dc_l_cell pm_l_cell cd_l_cell ct_l_cell : Value}
    {f_l_choices : Addr}
    {od_l_choices an_l_choices : Option Addr}
    {sl_l_choices : Array (Option Value)}
    {oc_l_choices kV_l_choices dc_l_choices pm_l_choices cd_l_choices ct_l_choices : Value}
    {f_l_due : Addr}
    {od_l_due an_l_due : Option Addr}
    {sl_l_due : Array (Option Value)}
    {oc_l_due kV_l_due dc_l_due pm_l_due cd_l_due ct_l_due : Value}
    {f_l_refused : Addr}
    {od_l_refused an_l_refused : Option Addr}
    {sl_l_refused : Array (Option Value)}
    {oc_l_refused kV_l_refused dc_l_refused pm_l_refused cd_l_refused ct_l_refused : Value}
    {f_tree_form : Addr}
    {od_tree_form an_tree_form : Option Addr}
    {sl_tree_form : Array (Option Value)}
    {oc_tree_form kV_tree_form dc_tree_form pm_tree_form cd_tree_form ct_tree_form : Value}
    {f_different : Addr}
    {od_different an_different : Option Addr}
    {sl_different : Array (Option Value)}
    {oc_different kV_different dc_different pm_different cd_different ct_different : Value}
    {f_beginning : Addr}
    {od_beginning an_beginning : Option Addr}
    {sl_beginning : Array (Option Value)}
    {oc_beginning kV_beginning dc_beginning pm_beginning cd_beginning ct_beginning : Value}
    {f_ending : Addr}
    {od_ending an_ending : Option Addr}
    {sl_ending : Array (Option Value)}
    {oc_ending kV_ending dc_ending pm_ending cd_ending ct_ending : Value}
    {f_merged : Addr}
    {od_merged an_merged : Option Addr}
    {sl_merged : Array (Option Value)}
    {oc_merged kV_merged dc_merged pm_merged cd_merged ct_merged : Value}
    {f_band_form : Addr}
    {od_band_form an_band_form : Option Addr}
    {sl_band_form : Array (Option Value)}
    {oc_band_form kV_band_form dc_band_form pm_band_form cd_band_form ct_band_form : Value}
    {f_word_form : Addr}
    {od_word_form an_word_form : Option Addr}
    {sl_word_form : Array (Option Value)}
    {oc_word_form kV_word_form dc_word_form pm_word_form cd_word_form ct_word_form : Value}
    {f_plain : Addr}
    {od_plain an_plain : Option Addr}
    {sl_plain : Array (Option Value)}
    {oc_plain dc_plain pm_plain cd_plain ct_plain : Value}
    {f_NoWayD_initD : Addr}
    {od_NoWayD_initD an_NoWayD_initD : Option Addr}
    {sl_NoWayD_initD : Array (Option Value)}
    {oc_NoWayD_initD kV_NoWayD_initD dc_NoWayD_initD pm_NoWayD_initD cd_NoWayD_initD ct_NoWayD_initD : Value}
    {f_expected : Addr}
    {od_expected an_expected : Option Addr}
    {sl_expected : Array (Option Value)}
    {oc_expected kV_expected dc_expected pm_expected cd_expected ct_expected : Value}
    {f_end_of : Addr}
    {od_end_of an_end_of : Option Addr}
    {sl_end_of : Array (Option Value)}
    {oc_end_of kV_end_of dc_end_of pm_end_of cd_end_of ct_end_of : Value}
    {f_WayD_initD : Addr}
    {od_WayD_initD an_WayD_initD : Option Addr}
    {sl_WayD_initD : Array (Option Value)}
    {oc_WayD_initD kV_WayD_initD dc_WayD_initD pm_WayD_initD cd_WayD_initD ct_WayD_initD : Value}
    {f_l_size : Addr}
    {od_l_size an_l_size : Option Addr}
    {sl_l_size : Array (Option Value)}
    {oc_l_size kV_l_size dc_l_size pm_l_size cd_l_size ct_l_size : Value}
    {f_law : Addr}
    {od_law an_law : Option Addr}
    {sl_law : Array (Option Value)}
    {oc_law kV_law dc_law pm_law cd_law ct_law : Value}
    {Xnm_BadRule Xq_BadRule : Str}
    {XN_BadRule : Addr}
    {Xbs_BadRule Xbm_BadRule Xsub_BadRule : List Value}
    {Xsn_BadRule : List Str}
    {Xab_BadRule : Bool}
    {Xcol_BadRule : Option Bool}
    {Xdd_BadRule : Option Addr}
    {X0_BadRule X1_BadRule X2_BadRule X3_BadRule X5_BadRule : Option Value}
    {Xnm_NoWay Xq_NoWay : Str}
    {XN_NoWay : Addr}
    {Xbs_NoWay Xbm_NoWay Xsub_NoWay : List Value}
    {Xsn_NoWay : List Str}
    {Xab_NoWay : Bool}
    {Xcol_NoWay : Option Bool}
    {Xdd_NoWay : Option Addr}
    {X0_NoWay X1_NoWay X2_NoWay X3_NoWay X5_NoWay : Option Value}
    {tk_LETTERS_rules : Tok}
    {tk_LETTERS_ways : Tok}
    {tk_LONGEST_NAME : Tok}
    (aC_BadRule : PySem.W.nsIn K mainGlobals "BadRule" = some (some (.ref c_BadRule)))
    (aC_NoWay : PySem.W.nsIn K mainGlobals "NoWay" = some (some (.ref c_NoWay)))
    (aC_Rules : PySem.W.nsIn K mainGlobals "Rules" = some (some (.ref c_Rules)))
    (aC_Way : PySem.W.nsIn K mainGlobals "Way" = some (some (.ref c_Way)))
    (aC_WayError : PySem.W.nsIn K mainGlobals "WayError" = some (some (.ref c_WayError)))
    (a_l_pool : PySem.W.nsIn K mainGlobals "_law_pool" = some (some (.ref f_l_pool)))
    (l_l_pool : K.lookup f_l_pool = some ⟨oc_l_pool, od_l_pool, .func (PySem.W.fnOf "_law_pool" "_law_pool" (defArgs s_l_pool) (defBody s_l_pool) (defScope s_l_pool) .none kV_l_pool dc_l_pool pm_l_pool an_l_pool cd_l_pool ct_l_pool), sl_l_pool⟩)
    (c_l_pool : PySem.W.codeIn K cd_l_pool "_law_pool" = true)
    (k_l_pool : PySem.W.keepIn K (.ref f_l_pool) = true)
    (a_l_take : PySem.W.nsIn K mainGlobals "_law_take" = some (some (.ref f_l_take)))
    (l_l_take : K.lookup f_l_take = some ⟨oc_l_take, od_l_take, .func (PySem.W.fnOf "_law_take" "_law_take" (defArgs s_l_take) (defBody s_l_take) (defScope s_l_take) .none kV_l_take dc_l_take pm_l_take an_l_take cd_l_take ct_l_take), sl_l_take⟩)
    (c_l_take : PySem.W.codeIn K cd_l_take "_law_take" = true)
    (k_l_take : PySem.W.keepIn K (.ref f_l_take) = true)
    (a_l_letters : PySem.W.nsIn K mainGlobals "_law_letters" = some (some (.ref f_l_letters)))
    (l_l_letters : K.lookup f_l_letters = some ⟨oc_l_letters, od_l_letters, .func (PySem.W.fnOf "_law_letters" "_law_letters" (defArgs s_l_letters) (defBody s_l_letters) (defScope s_l_letters) .none kV_l_letters dc_l_letters pm_l_letters an_l_letters cd_l_letters ct_l_letters), sl_l_letters⟩)
    (c_l_letters : PySem.W.codeIn K cd_l_letters "_law_letters" = true)
    (k_l_letters : PySem.W.keepIn K (.ref f_l_letters) = true)
    (a_BadRuleD_initD : PySem.W.findIn K (.ref c_BadRule) "__init__" = some (some (.ref f_BadRuleD_initD)))
    (i_BadRuleD_initD : PySem.W.isFn K (.ref f_BadRuleD_initD) = true)
    (l_BadRuleD_initD : K.lookup f_BadRuleD_initD = some ⟨oc_BadRuleD_initD, od_BadRuleD_initD, .func (PySem.W.fnOf "__init__" "BadRule.__init__" (defArgs s_BadRuleD_initD) (defBody s_BadRuleD_initD) (defScope s_BadRuleD_initD) .none kV_BadRuleD_initD dc_BadRuleD_initD pm_BadRuleD_initD an_BadRuleD_initD cd_BadRuleD_initD ct_BadRuleD_initD), sl_BadRuleD_initD⟩)
    (c_BadRuleD_initD : PySem.W.codeIn K cd_BadRuleD_initD "BadRule.__init__" = true)
    (k_BadRuleD_initD : PySem.W.keepIn K (.ref f_BadRuleD_initD) = true)
    (a_RulesD_initD : PySem.W.findIn K (.ref c_Rules) "__init__" = some (some (.ref f_RulesD_initD)))
    (i_RulesD_initD : PySem.W.isFn K (.ref f_RulesD_initD) = true)
    (l_RulesD_initD : K.lookup f_RulesD_initD = some ⟨oc_RulesD_initD, od_RulesD_initD, .func (PySem.W.fnOf "__init__" "Rules.__init__" (defArgs s_RulesD_initD) (defBody s_RulesD_initD) (defScope s_RulesD_initD) (.ref T_RulesD_initD) kV_RulesD_initD dc_RulesD_initD pm_RulesD_initD an_RulesD_initD cd_RulesD_initD ct_RulesD_initD), sl_RulesD_initD⟩)
    (c_RulesD_initD : PySem.W.codeIn K cd_RulesD_initD "Rules.__init__" = true)
    (k_RulesD_initD : PySem.W.keepIn K (.ref f_RulesD_initD) = true)
    (lT_RulesD_initD : K.lookup T_RulesD_initD = some ⟨Toc_RulesD_initD, Tod_RulesD_initD, .seq ([.str (Str.ofString "") tk_RulesD_initD_0] : List Value).toArray Tn_RulesD_initD, Tsl_RulesD_initD⟩)
    (a_l_texts : PySem.W.nsIn K mainGlobals "_law_texts" = some (some (.ref f_l_texts)))
    (l_l_texts : K.lookup f_l_texts = some ⟨oc_l_texts, od_l_texts, .func (PySem.W.fnOf "_law_texts" "_law_texts" (defArgs s_l_texts) (defBody s_l_texts) (defScope s_l_texts) .none kV_l_texts dc_l_texts pm_l_texts an_l_texts cd_l_texts ct_l_texts), sl_l_texts⟩)
    (c_l_texts : PySem.W.codeIn K cd_l_texts "_law_texts" = true)
    (k_l_texts : PySem.W.keepIn K (.ref f_l_texts) = true)
    (a_RulesD_containsD : PySem.W.findIn K (.ref c_Rules) "__contains__" = some (some (.ref f_RulesD_containsD)))
    (i_RulesD_containsD : PySem.W.isFn K (.ref f_RulesD_containsD) = true)
    (l_RulesD_containsD : K.lookup f_RulesD_containsD = some ⟨oc_RulesD_containsD, od_RulesD_containsD, .func (PySem.W.fnOf "__contains__" "Rules.__contains__" (defArgs s_RulesD_containsD) (defBody s_RulesD_containsD) (defScope s_RulesD_containsD) .none kV_RulesD_containsD dc_RulesD_containsD pm_RulesD_containsD an_RulesD_containsD cd_RulesD_containsD ct_RulesD_containsD), sl_RulesD_containsD⟩)
    (c_RulesD_containsD : PySem.W.codeIn K cd_RulesD_containsD "Rules.__contains__" = true)
    (k_RulesD_containsD : PySem.W.keepIn K (.ref f_RulesD_containsD) = true)
    (a_choices : PySem.W.nsIn K mainGlobals "choices" = some (some (.ref f_choices)))
    (l_choices : K.lookup f_choices = some ⟨oc_choices, od_choices, .func (PySem.W.fnOf "choices" "choices" (defArgs s_choices) (defBody s_choices) (defScope s_choices) .none kV_choices dc_choices pm_choices an_choices cd_choices ct_choices), sl_choices⟩)
    (c_choices : PySem.W.codeIn K cd_choices "choices" = true)
    (k_choices : PySem.W.keepIn K (.ref f_choices) = true)
    (a_rows_of_letters : PySem.W.nsIn K mainGlobals "rows_of_letters" = some (some (.ref f_rows_of_letters)))
    (l_rows_of_letters : K.lookup f_rows_of_letters = some ⟨oc_rows_of_letters, od_rows_of_letters, .func (PySem.W.fnOf "rows_of_letters" "rows_of_letters" (defArgs s_rows_of_letters) (defBody s_rows_of_letters) (defScope s_rows_of_letters) .none kV_rows_of_letters dc_rows_of_letters pm_rows_of_letters an_rows_of_letters cd_rows_of_letters ct_rows_of_letters), sl_rows_of_letters⟩)
    (c_rows_of_letters : PySem.W.codeIn K cd_rows_of_letters "rows_of_letters" = true)
    (k_rows_of_letters : PySem.W.keepIn K (.ref f_rows_of_letters) = true)
    (a_pairs_of_parts : PySem.W.nsIn K mainGlobals "pairs_of_parts" = some (some (.ref f_pairs_of_parts)))
    (l_pairs_of_parts : K.lookup f_pairs_of_parts = some ⟨oc_pairs_of_parts, od_pairs_of_parts, .func (PySem.W.fnOf "pairs_of_parts" "pairs_of_parts" (defArgs s_pairs_of_parts) (defBody s_pairs_of_parts) (defScope s_pairs_of_parts) .none kV_pairs_of_parts dc_pairs_of_parts pm_pairs_of_parts an_pairs_of_parts cd_pairs_of_parts ct_pairs_of_parts), sl_pairs_of_parts⟩)
    (c_pairs_of_parts : PySem.W.codeIn K cd_pairs_of_parts "pairs_of_parts" = true)
    (k_pairs_of_parts : PySem.W.keepIn K (.ref f_pairs_of_parts) = true)
    (a_form_count : PySem.W.nsIn K mainGlobals "form_count" = some (some (.ref f_form_count)))
    (l_form_count : K.lookup f_form_count = some ⟨oc_form_count, od_form_count, .func (PySem.W.fnOf "form_count" "form_count" (defArgs s_form_count) (defBody s_form_count) (defScope s_form_count) .none kV_form_count dc_form_count pm_form_count an_form_count cd_form_count ct_form_count), sl_form_count⟩)
    (c_form_count : PySem.W.codeIn K cd_form_count "form_count" = true)
    (k_form_count : PySem.W.keepIn K (.ref f_form_count) = true)
    (a_l_cell : PySem.W.nsIn K mainGlobals "_law_cell" = some (some (.ref f_l_cell)))
    (l_l_cell : K.lookup f_l_cell = some ⟨oc_l_cell, od_l_cell, .func (PySem.W.fnOf "_law_cell" "_law_cell" (defArgs s_l_cell) (defBody s_l_cell) (defScope s_l_cell) .none kV_l_cell dc_l_cell pm_l_cell an_l_cell cd_l_cell ct_l_cell), sl_l_cell⟩)
    (c_l_cell : PySem.W.codeIn K cd_l_cell "_law_cell" = true)
    (k_l_cell : PySem.W.keepIn K (.ref f_l_cell) = true)
    (a_l_choices : PySem.W.nsIn K mainGlobals "_law_choices" = some (some (.ref f_l_choices)))
    (l_l_choices : K.lookup f_l_choices = some ⟨oc_l_choices, od_l_choices, .func (PySem.W.fnOf "_law_choices" "_law_choices" (defArgs s_l_choices) (defBody s_l_choices) (defScope s_l_choices) .none kV_l_choices dc_l_choices pm_l_choices an_l_choices cd_l_choices ct_l_choices), sl_l_choices⟩)
    (c_l_choices : PySem.W.codeIn K cd_l_choices "_law_choices" = true)
    (k_l_choices : PySem.W.keepIn K (.ref f_l_choices) = true)
    (a_l_due : PySem.W.nsIn K mainGlobals "_law_due" = some (some (.ref f_l_due)))
    (l_l_due : K.lookup f_l_due = some ⟨oc_l_due, od_l_due, .func (PySem.W.fnOf "_law_due" "_law_due" (defArgs s_l_due) (defBody s_l_due) (defScope s_l_due) .none kV_l_due dc_l_due pm_l_due an_l_due cd_l_due ct_l_due), sl_l_due⟩)
    (c_l_due : PySem.W.codeIn K cd_l_due "_law_due" = true)
    (k_l_due : PySem.W.keepIn K (.ref f_l_due) = true)
    (a_l_refused : PySem.W.nsIn K mainGlobals "_law_refused" = some (some (.ref f_l_refused)))
    (l_l_refused : K.lookup f_l_refused = some ⟨oc_l_refused, od_l_refused, .func (PySem.W.fnOf "_law_refused" "_law_refused" (defArgs s_l_refused) (defBody s_l_refused) (defScope s_l_refused) .none kV_l_refused dc_l_refused pm_l_refused an_l_refused cd_l_refused ct_l_refused), sl_l_refused⟩)
    (c_l_refused : PySem.W.codeIn K cd_l_refused "_law_refused" = true)
    (k_l_refused : PySem.W.keepIn K (.ref f_l_refused) = true)
    (a_tree_form : PySem.W.nsIn K mainGlobals "tree_form" = some (some (.ref f_tree_form)))
    (l_tree_form : K.lookup f_tree_form = some ⟨oc_tree_form, od_tree_form, .func (PySem.W.fnOf "tree_form" "tree_form" (defArgs s_tree_form) (defBody s_tree_form) (defScope s_tree_form) .none kV_tree_form dc_tree_form pm_tree_form an_tree_form cd_tree_form ct_tree_form), sl_tree_form⟩)
    (c_tree_form : PySem.W.codeIn K cd_tree_form "tree_form" = true)
    (k_tree_form : PySem.W.keepIn K (.ref f_tree_form) = true)
    (a_different : PySem.W.nsIn K mainGlobals "different" = some (some (.ref f_different)))
    (l_different : K.lookup f_different = some ⟨oc_different, od_different, .func (PySem.W.fnOf "different" "different" (defArgs s_different) (defBody s_different) (defScope s_different) .none kV_different dc_different pm_different an_different cd_different ct_different), sl_different⟩)
    (c_different : PySem.W.codeIn K cd_different "different" = true)
    (k_different : PySem.W.keepIn K (.ref f_different) = true)
    (a_beginning : PySem.W.nsIn K mainGlobals "beginning" = some (some (.ref f_beginning)))
    (l_beginning : K.lookup f_beginning = some ⟨oc_beginning, od_beginning, .func (PySem.W.fnOf "beginning" "beginning" (defArgs s_beginning) (defBody s_beginning) (defScope s_beginning) .none kV_beginning dc_beginning pm_beginning an_beginning cd_beginning ct_beginning), sl_beginning⟩)
    (c_beginning : PySem.W.codeIn K cd_beginning "beginning" = true)
    (k_beginning : PySem.W.keepIn K (.ref f_beginning) = true)
    (a_ending : PySem.W.nsIn K mainGlobals "ending" = some (some (.ref f_ending)))
    (l_ending : K.lookup f_ending = some ⟨oc_ending, od_ending, .func (PySem.W.fnOf "ending" "ending" (defArgs s_ending) (defBody s_ending) (defScope s_ending) .none kV_ending dc_ending pm_ending an_ending cd_ending ct_ending), sl_ending⟩)
    (c_ending : PySem.W.codeIn K cd_ending "ending" = true)
    (k_ending : PySem.W.keepIn K (.ref f_ending) = true)
    (a_merged : PySem.W.nsIn K mainGlobals "merged" = some (some (.ref f_merged)))
    (l_merged : K.lookup f_merged = some ⟨oc_merged, od_merged, .func (PySem.W.fnOf "merged" "merged" (defArgs s_merged) (defBody s_merged) (defScope s_merged) .none kV_merged dc_merged pm_merged an_merged cd_merged ct_merged), sl_merged⟩)
    (c_merged : PySem.W.codeIn K cd_merged "merged" = true)
    (k_merged : PySem.W.keepIn K (.ref f_merged) = true)
    (a_band_form : PySem.W.nsIn K mainGlobals "band_form" = some (some (.ref f_band_form)))
    (l_band_form : K.lookup f_band_form = some ⟨oc_band_form, od_band_form, .func (PySem.W.fnOf "band_form" "band_form" (defArgs s_band_form) (defBody s_band_form) (defScope s_band_form) .none kV_band_form dc_band_form pm_band_form an_band_form cd_band_form ct_band_form), sl_band_form⟩)
    (c_band_form : PySem.W.codeIn K cd_band_form "band_form" = true)
    (k_band_form : PySem.W.keepIn K (.ref f_band_form) = true)
    (a_word_form : PySem.W.nsIn K mainGlobals "word_form" = some (some (.ref f_word_form)))
    (l_word_form : K.lookup f_word_form = some ⟨oc_word_form, od_word_form, .func (PySem.W.fnOf "word_form" "word_form" (defArgs s_word_form) (defBody s_word_form) (defScope s_word_form) .none kV_word_form dc_word_form pm_word_form an_word_form cd_word_form ct_word_form), sl_word_form⟩)
    (c_word_form : PySem.W.codeIn K cd_word_form "word_form" = true)
    (k_word_form : PySem.W.keepIn K (.ref f_word_form) = true)
    (a_plain : PySem.W.nsIn K mainGlobals "plain" = some (some (.ref f_plain)))
    (l_plain : K.lookup f_plain = some ⟨oc_plain, od_plain, .func (PySem.W.fnOf "plain" "plain" (defArgs s_plain) (defBody s_plain) (defScope s_plain) .none kV_plain dc_plain pm_plain an_plain cd_plain ct_plain), sl_plain⟩)
    (c_plain : PySem.W.codeIn K cd_plain "plain" = true)
    (k_plain : PySem.W.keepIn K (.ref f_plain) = true)
    (a_NoWayD_initD : PySem.W.findIn K (.ref c_NoWay) "__init__" = some (some (.ref f_NoWayD_initD)))
    (i_NoWayD_initD : PySem.W.isFn K (.ref f_NoWayD_initD) = true)
    (l_NoWayD_initD : K.lookup f_NoWayD_initD = some ⟨oc_NoWayD_initD, od_NoWayD_initD, .func (PySem.W.fnOf "__init__" "NoWay.__init__" (defArgs s_NoWayD_initD) (defBody s_NoWayD_initD) (defScope s_NoWayD_initD) .none kV_NoWayD_initD dc_NoWayD_initD pm_NoWayD_initD an_NoWayD_initD cd_NoWayD_initD ct_NoWayD_initD), sl_NoWayD_initD⟩)
    (c_NoWayD_initD : PySem.W.codeIn K cd_NoWayD_initD "NoWay.__init__" = true)
    (k_NoWayD_initD : PySem.W.keepIn K (.ref f_NoWayD_initD) = true)
    (a_expected : PySem.W.nsIn K mainGlobals "expected" = some (some (.ref f_expected)))
    (l_expected : K.lookup f_expected = some ⟨oc_expected, od_expected, .func (PySem.W.fnOf "expected" "expected" (defArgs s_expected) (defBody s_expected) (defScope s_expected) .none kV_expected dc_expected pm_expected an_expected cd_expected ct_expected), sl_expected⟩)
    (c_expected : PySem.W.codeIn K cd_expected "expected" = true)
    (k_expected : PySem.W.keepIn K (.ref f_expected) = true)
    (a_end_of : PySem.W.nsIn K mainGlobals "end_of" = some (some (.ref f_end_of)))
    (l_end_of : K.lookup f_end_of = some ⟨oc_end_of, od_end_of, .func (PySem.W.fnOf "end_of" "end_of" (defArgs s_end_of) (defBody s_end_of) (defScope s_end_of) .none kV_end_of dc_end_of pm_end_of an_end_of cd_end_of ct_end_of), sl_end_of⟩)
    (c_end_of : PySem.W.codeIn K cd_end_of "end_of" = true)
    (k_end_of : PySem.W.keepIn K (.ref f_end_of) = true)
    (a_WayD_initD : PySem.W.findIn K (.ref c_Way) "__init__" = some (some (.ref f_WayD_initD)))
    (i_WayD_initD : PySem.W.isFn K (.ref f_WayD_initD) = true)
    (l_WayD_initD : K.lookup f_WayD_initD = some ⟨oc_WayD_initD, od_WayD_initD, .func (PySem.W.fnOf "__init__" "Way.__init__" (defArgs s_WayD_initD) (defBody s_WayD_initD) (defScope s_WayD_initD) .none kV_WayD_initD dc_WayD_initD pm_WayD_initD an_WayD_initD cd_WayD_initD ct_WayD_initD), sl_WayD_initD⟩)
    (c_WayD_initD : PySem.W.codeIn K cd_WayD_initD "Way.__init__" = true)
    (k_WayD_initD : PySem.W.keepIn K (.ref f_WayD_initD) = true)
    (a_l_size : PySem.W.nsIn K mainGlobals "_law_size" = some (some (.ref f_l_size)))
    (l_l_size : K.lookup f_l_size = some ⟨oc_l_size, od_l_size, .func (PySem.W.fnOf "_law_size" "_law_size" (defArgs s_l_size) (defBody s_l_size) (defScope s_l_size) .none kV_l_size dc_l_size pm_l_size an_l_size cd_l_size ct_l_size), sl_l_size⟩)
    (c_l_size : PySem.W.codeIn K cd_l_size "_law_size" = true)
    (k_l_size : PySem.W.keepIn K (.ref f_l_size) = true)
    (a_law : PySem.W.nsIn K mainGlobals "law" = some (some (.ref f_law)))
    (l_law : K.lookup f_law = some ⟨oc_law, od_law, .func (PySem.W.fnOf "law" "law" (defArgs s_law) (defBody s_law) (defScope s_law) .none kV_law dc_law pm_law an_law cd_law ct_law), sl_law⟩)
    (c_law : PySem.W.codeIn K cd_law "law" = true)
    (k_law : PySem.W.keepIn K (.ref f_law) = true)
    (pg_Rules : PySem.W.plainGet K c_Rules Str.empty = true)
    (hd_Rules : PySem.W.hasDictIn K c_Rules = true)
    (po_Rules : PySem.W.plainOver K c_Rules = true)
    (sa_Rules : PySem.W.findIn K (.ref c_Rules) "__setattr__" = some (some (.builtin "object.__setattr__")))
    (mk_Rules : PySem.W.makesIn K c_Rules = true)
    (kc_Rules : PySem.W.keepIn K (.ref c_Rules) = true)
    (na_Rules_letters : PySem.W.findIn K (.ref c_Rules) "letters" = some none)
    (pg_Way : PySem.W.plainGet K c_Way Str.empty = true)
    (hd_Way : PySem.W.hasDictIn K c_Way = true)
    (po_Way : PySem.W.plainOver K c_Way = true)
    (sa_Way : PySem.W.findIn K (.ref c_Way) "__setattr__" = some (some (.builtin "object.__setattr__")))
    (mk_Way : PySem.W.makesIn K c_Way = true)
    (kc_Way : PySem.W.keepIn K (.ref c_Way) = true)
    (na_Way_leaves : PySem.W.findIn K (.ref c_Way) "leaves" = some none)
    (na_Way_left : PySem.W.findIn K (.ref c_Way) "left" = some none)
    (na_Way_name : PySem.W.findIn K (.ref c_Way) "name" = some none)
    (na_Way_right : PySem.W.findIn K (.ref c_Way) "right" = some none)
    (na_Way_text : PySem.W.findIn K (.ref c_Way) "text" = some none)
    (br_WayError : PySem.W.readsIn K c_WayError (.type "type") = true)
    (bg_WayError : PySem.W.specialIn K (.ref c_WayError) "__getattribute__" = some (some (.builtin "type.__getattribute__")))
    (bv_WayError : PySem.W.findCls K (.ref c_WayError) (.type "type") "__init__" = some (.val (.builtin "ValueError.__init__")))
    (xl_BadRule : K.lookup c_BadRule = some (excClassObj Xnm_BadRule Xq_BadRule c_BadRule XN_BadRule Xbs_BadRule Xbm_BadRule true Xsn_BadRule Xsub_BadRule Xab_BadRule Xcol_BadRule Xdd_BadRule X0_BadRule X1_BadRule X2_BadRule X3_BadRule X5_BadRule "ValueError.__new__"))
    (xr_BadRule : PySem.HandSPX.refsVE Xbm_BadRule = true)
    (xs_BadRule : PySem.W.findIn K (.ref c_BadRule) "__setattr__" = some (some (.builtin "object.__setattr__")))
    (xe_BadRule : PySem.W.subIn K (.ref c_BadRule) (.type "BaseException") = some true)
    (xt_BadRule : PySem.W.typeIn K (.ref c_BadRule) = some (.type "type"))
    (xk_BadRule : PySem.W.keepIn K (.ref c_BadRule) = true)
    (xi_BadRule : PySem.W.typeIn K (.ref f_BadRuleD_initD) = some (.type "function"))
    (xn_BadRule_letter : PySem.W.findIn K (.ref c_BadRule) "letter" = some none)
    (xl_NoWay : K.lookup c_NoWay = some (excClassObj Xnm_NoWay Xq_NoWay c_NoWay XN_NoWay Xbs_NoWay Xbm_NoWay true Xsn_NoWay Xsub_NoWay Xab_NoWay Xcol_NoWay Xdd_NoWay X0_NoWay X1_NoWay X2_NoWay X3_NoWay X5_NoWay "ValueError.__new__"))
    (xr_NoWay : PySem.HandSPX.refsVE Xbm_NoWay = true)
    (xs_NoWay : PySem.W.findIn K (.ref c_NoWay) "__setattr__" = some (some (.builtin "object.__setattr__")))
    (xe_NoWay : PySem.W.subIn K (.ref c_NoWay) (.type "BaseException") = some true)
    (xt_NoWay : PySem.W.typeIn K (.ref c_NoWay) = some (.type "type"))
    (xk_NoWay : PySem.W.keepIn K (.ref c_NoWay) = true)
    (xi_NoWay : PySem.W.typeIn K (.ref f_NoWayD_initD) = some (.type "function"))
    (xn_NoWay_at : PySem.W.findIn K (.ref c_NoWay) "at" = some none)
    (cf_BadRule : PySem.W.isClsIn K c_BadRule = true)
    (ct_BadRule : PySem.W.typeIn K (.ref c_BadRule) = some (.type "type"))
    (xm_BadRule_BadRule : PySem.W.subIn K (.ref c_BadRule) (.ref c_BadRule) = some true)
    (xg_BadRule : PySem.W.findIn K (.ref c_BadRule) "__getattribute__" = some (some (.builtin "BaseException.__getattribute__")))
    (xh_BadRule : PySem.W.findIn K (.ref c_BadRule) "__getattr__" = some none)
    (xd_BadRule : PySem.W.hasDictIn K c_BadRule = true)
    (n_bool : PySem.W.nsIn K mainGlobals "bool" = some none)
    (n_enumerate : PySem.W.nsIn K mainGlobals "enumerate" = some none)
    (n_int : PySem.W.nsIn K mainGlobals "int" = some none)
    (n_isinstance : PySem.W.nsIn K mainGlobals "isinstance" = some none)
    (n_len : PySem.W.nsIn K mainGlobals "len" = some none)
    (n_list : PySem.W.nsIn K mainGlobals "list" = some none)
    (n_min : PySem.W.nsIn K mainGlobals "min" = some none)
    (n_range : PySem.W.nsIn K mainGlobals "range" = some none)
    (n_reversed : PySem.W.nsIn K mainGlobals "reversed" = some none)
    (n_set : PySem.W.nsIn K mainGlobals "set" = some none)
    (n_sorted : PySem.W.nsIn K mainGlobals "sorted" = some none)
    (n_sum : PySem.W.nsIn K mainGlobals "sum" = some none)
    (s_LETTERS_rules : PySem.W.nsIn K mainGlobals "LETTERS_rules" = some (some (.str (Str.ofString "ACIUZ") tk_LETTERS_rules)))
    (s_LETTERS_ways : PySem.W.nsIn K mainGlobals "LETTERS_ways" = some (some (.str (Str.ofString "abcdefghijklmnopqrstuvwxyz") tk_LETTERS_ways)))
    (s_LONGEST_NAME : PySem.W.nsIn K mainGlobals "LONGEST_NAME" = some (some (.int 6 tk_LONGEST_NAME)))
    : ∃ fd : FuncData, (∀ (s : Shared) (v : Value), BindsTo s fd ⟨[v], []⟩ [("_law_script", v)]) ∧ ∀ base : Heap, K.In base → base.Ns mainGlobals mg → FnOk l.prog w K mg base (L2.CX l.prog w) 93 fa fd ["_law_script"] (spLaw K) := by
  have e := hfa.symm.trans (PySem.W.mg_of X G a_law)
  have e2 : f_law = fa := by cases e; rfl
  subst e2
  have F_l_pool : FnP K "_law_pool" "_law_pool" s_l_pool [] [] f_l_pool _ := fnP_mk l_l_pool c_l_pool k_l_pool
  have F_l_take : FnP K "_law_take" "_law_take" s_l_take [] [] f_l_take _ := fnP_mk l_l_take c_l_take k_l_take
  have F_l_letters : FnP K "_law_letters" "_law_letters" s_l_letters [] [] f_l_letters _ := fnP_mk l_l_letters c_l_letters k_l_letters
  have F_BadRuleD_initD : FnP K "__init__" "BadRule.__init__" s_BadRuleD_initD [] [] f_BadRuleD_initD _ := fnP_mk l_BadRuleD_initD c_BadRuleD_initD k_BadRuleD_initD
  have F_RulesD_initD : FnP K "__init__" "Rules.__init__" s_RulesD_initD [(.str (Str.ofString ""))] [] f_RulesD_initD _ := fnP_mkD (its := [.str (Str.ofString "") tk_RulesD_initD_0]) l_RulesD_initD c_RulesD_initD k_RulesD_initD lT_RulesD_initD rfl (.cons ⟨_, rfl⟩ .nil) (List.cons_ne_nil _ _)
  have F_l_texts : FnP K "_law_texts" "_law_texts" s_l_texts [] [] f_l_texts _ := fnP_mk l_l_texts c_l_texts k_l_texts
  have F_RulesD_containsD : FnP K "__contains__" "Rules.__contains__" s_RulesD_containsD [] [] f_RulesD_containsD _ := fnP_mk l_RulesD_containsD c_RulesD_containsD k_RulesD_containsD
  have F_choices : FnP K "choices" "choices" s_choices [] [] f_choices _ := fnP_mk l_choices c_choices k_choices
  have F_rows_of_letters : FnP K "rows_of_letters" "rows_of_letters" s_rows_of_letters [] [] f_rows_of_letters _ := fnP_mk l_rows_of_letters c_rows_of_letters k_rows_of_letters
  have F_pairs_of_parts : FnP K "pairs_of_parts" "pairs_of_parts" s_pairs_of_parts [] [] f_pairs_of_parts _ := fnP_mk l_pairs_of_parts c_pairs_of_parts k_pairs_of_parts
  have F_form_count : FnP K "form_count" "form_count" s_form_count [] [] f_form_count _ := fnP_mk l_form_count c_form_count k_form_count
  have F_l_cell : FnP K "_law_cell" "_law_cell" s_l_cell [] [] f_l_cell _ := fnP_mk l_l_cell c_l_cell k_l_cell
  have F_l_choices : FnP K "_law_choices" "_law_choices" s_l_choices [] [] f_l_choices _ := fnP_mk l_l_choices c_l_choices k_l_choices
  have F_l_due : FnP K "_law_due" "_law_due" s_l_due [] [] f_l_due _ := fnP_mk l_l_due c_l_due k_l_due
  have F_l_refused : FnP K "_law_refused" "_law_refused" s_l_refused [] [] f_l_refused _ := fnP_mk l_l_refused c_l_refused k_l_refused
  have F_tree_form : FnP K "tree_form" "tree_form" s_tree_form [] [] f_tree_form _ := fnP_mk l_tree_form c_tree_form k_tree_form
  have F_different : FnP K "different" "different" s_different [] [] f_different _ := fnP_mk l_different c_different k_different
  have F_beginning : FnP K "beginning" "beginning" s_beginning [] [] f_beginning _ := fnP_mk l_beginning c_beginning k_beginning
  have F_ending : FnP K "ending" "ending" s_ending [] [] f_ending _ := fnP_mk l_ending c_ending k_ending
  have F_merged : FnP K "merged" "merged" s_merged [] [] f_merged _ := fnP_mk l_merged c_merged k_merged
  have F_band_form : FnP K "band_form" "band_form" s_band_form [] [] f_band_form _ := fnP_mk l_band_form c_band_form k_band_form
  have F_word_form : FnP K "word_form" "word_form" s_word_form [] [] f_word_form _ := fnP_mk l_word_form c_word_form k_word_form
  have F_plain : FnP K "plain" "plain" s_plain [] [] f_plain _ := fnP_mk l_plain c_plain k_plain
  have F_NoWayD_initD : FnP K "__init__" "NoWay.__init__" s_NoWayD_initD [] [] f_NoWayD_initD _ := fnP_mk l_NoWayD_initD c_NoWayD_initD k_NoWayD_initD
  have F_expected : FnP K "expected" "expected" s_expected [] [] f_expected _ := fnP_mk l_expected c_expected k_expected
  have F_end_of : FnP K "end_of" "end_of" s_end_of [] [] f_end_of _ := fnP_mk l_end_of c_end_of k_end_of
  have F_WayD_initD : FnP K "__init__" "Way.__init__" s_WayD_initD [] [] f_WayD_initD _ := fnP_mk l_WayD_initD c_WayD_initD k_WayD_initD
  have F_l_size : FnP K "_law_size" "_law_size" s_l_size [] [] f_l_size _ := fnP_mk l_l_size c_l_size k_l_size
  have F_law : FnP K "law" "law" s_law [] [] f_law _ := fnP_mk l_law c_law k_law
  let A : Ad := {f_l_pool := f_l_pool, d_l_pool := (PySem.W.fnOf "_law_pool" "_law_pool" (defArgs s_l_pool) (defBody s_l_pool) (defScope s_l_pool) .none kV_l_pool dc_l_pool pm_l_pool an_l_pool cd_l_pool ct_l_pool), f_l_take := f_l_take, d_l_take := (PySem.W.fnOf "_law_take" "_law_take" (defArgs s_l_take) (defBody s_l_take) (defScope s_l_take) .none kV_l_take dc_l_take pm_l_take an_l_take cd_l_take ct_l_take), f_l_letters := f_l_letters, d_l_letters := (PySem.W.fnOf "_law_letters" "_law_letters" (defArgs s_l_letters) (defBody s_l_letters) (defScope s_l_letters) .none kV_l_letters dc_l_letters pm_l_letters an_l_letters cd_l_letters ct_l_letters), f_BadRuleD_initD := f_BadRuleD_initD, d_BadRuleD_initD := (PySem.W.fnOf "__init__" "BadRule.__init__" (defArgs s_BadRuleD_initD) (defBody s_BadRuleD_initD) (defScope s_BadRuleD_initD) .none kV_BadRuleD_initD dc_BadRuleD_initD pm_BadRuleD_initD an_BadRuleD_initD cd_BadRuleD_initD ct_BadRuleD_initD), f_RulesD_initD := f_RulesD_initD, d_RulesD_initD := (PySem.W.fnOf "__init__" "Rules.__init__" (defArgs s_RulesD_initD) (defBody s_RulesD_initD) (defScope s_RulesD_initD) (.ref T_RulesD_initD) kV_RulesD_initD dc_RulesD_initD pm_RulesD_initD an_RulesD_initD cd_RulesD_initD ct_RulesD_initD), f_l_texts := f_l_texts, d_l_texts := (PySem.W.fnOf "_law_texts" "_law_texts" (defArgs s_l_texts) (defBody s_l_texts) (defScope s_l_texts) .none kV_l_texts dc_l_texts pm_l_texts an_l_texts cd_l_texts ct_l_texts), f_RulesD_containsD := f_RulesD_containsD, d_RulesD_containsD := (PySem.W.fnOf "__contains__" "Rules.__contains__" (defArgs s_RulesD_containsD) (defBody s_RulesD_containsD) (defScope s_RulesD_containsD) .none kV_RulesD_containsD dc_RulesD_containsD pm_RulesD_containsD an_RulesD_containsD cd_RulesD_containsD ct_RulesD_containsD), f_choices := f_choices, d_choices := (PySem.W.fnOf "choices" "choices" (defArgs s_choices) (defBody s_choices) (defScope s_choices) .none kV_choices dc_choices pm_choices an_choices cd_choices ct_choices), f_rows_of_letters := f_rows_of_letters, d_rows_of_letters := (PySem.W.fnOf "rows_of_letters" "rows_of_letters" (defArgs s_rows_of_letters) (defBody s_rows_of_letters) (defScope s_rows_of_letters) .none kV_rows_of_letters dc_rows_of_letters pm_rows_of_letters an_rows_of_letters cd_rows_of_letters ct_rows_of_letters), f_pairs_of_parts := f_pairs_of_parts, d_pairs_of_parts := (PySem.W.fnOf "pairs_of_parts" "pairs_of_parts" (defArgs s_pairs_of_parts) (defBody s_pairs_of_parts) (defScope s_pairs_of_parts) .none kV_pairs_of_parts dc_pairs_of_parts pm_pairs_of_parts an_pairs_of_parts cd_pairs_of_parts ct_pairs_of_parts), f_form_count := f_form_count, d_form_count := (PySem.W.fnOf "form_count" "form_count" (defArgs s_form_count) (defBody s_form_count) (defScope s_form_count) .none kV_form_count dc_form_count pm_form_count an_form_count cd_form_count ct_form_count), f_l_cell := f_l_cell, d_l_cell := (PySem.W.fnOf "_law_cell" "_law_cell" (defArgs s_l_cell) (defBody s_l_cell) (defScope s_l_cell) .none kV_l_cell dc_l_cell pm_l_cell an_l_cell cd_l_cell ct_l_cell), f_l_choices := f_l_choices, d_l_choices := (PySem.W.fnOf "_law_choices" "_law_choices" (defArgs s_l_choices) (defBody s_l_choices) (defScope s_l_choices) .none kV_l_choices dc_l_choices pm_l_choices an_l_choices cd_l_choices ct_l_choices), f_l_due := f_l_due, d_l_due := (PySem.W.fnOf "_law_due" "_law_due" (defArgs s_l_due) (defBody s_l_due) (defScope s_l_due) .none kV_l_due dc_l_due pm_l_due an_l_due cd_l_due ct_l_due), f_l_refused := f_l_refused, d_l_refused := (PySem.W.fnOf "_law_refused" "_law_refused" (defArgs s_l_refused) (defBody s_l_refused) (defScope s_l_refused) .none kV_l_refused dc_l_refused pm_l_refused an_l_refused cd_l_refused ct_l_refused), f_tree_form := f_tree_form, d_tree_form := (PySem.W.fnOf "tree_form" "tree_form" (defArgs s_tree_form) (defBody s_tree_form) (defScope s_tree_form) .none kV_tree_form dc_tree_form pm_tree_form an_tree_form cd_tree_form ct_tree_form), f_different := f_different, d_different := (PySem.W.fnOf "different" "different" (defArgs s_different) (defBody s_different) (defScope s_different) .none kV_different dc_different pm_different an_different cd_different ct_different), f_beginning := f_beginning, d_beginning := (PySem.W.fnOf "beginning" "beginning" (defArgs s_beginning) (defBody s_beginning) (defScope s_beginning) .none kV_beginning dc_beginning pm_beginning an_beginning cd_beginning ct_beginning), f_ending := f_ending, d_ending := (PySem.W.fnOf "ending" "ending" (defArgs s_ending) (defBody s_ending) (defScope s_ending) .none kV_ending dc_ending pm_ending an_ending cd_ending ct_ending), f_merged := f_merged, d_merged := (PySem.W.fnOf "merged" "merged" (defArgs s_merged) (defBody s_merged) (defScope s_merged) .none kV_merged dc_merged pm_merged an_merged cd_merged ct_merged), f_band_form := f_band_form, d_band_form := (PySem.W.fnOf "band_form" "band_form" (defArgs s_band_form) (defBody s_band_form) (defScope s_band_form) .none kV_band_form dc_band_form pm_band_form an_band_form cd_band_form ct_band_form), f_word_form := f_word_form, d_word_form := (PySem.W.fnOf "word_form" "word_form" (defArgs s_word_form) (defBody s_word_form) (defScope s_word_form) .none kV_word_form dc_word_form pm_word_form an_word_form cd_word_form ct_word_form), f_plain := f_plain, d_plain := (PySem.W.fnOf "plain" "plain" (defArgs s_plain) (defBody s_plain) (defScope s_plain) .none kV_plain dc_plain pm_plain an_plain cd_plain ct_plain), f_NoWayD_initD := f_NoWayD_initD, d_NoWayD_initD := (PySem.W.fnOf "__init__" "NoWay.__init__" (defArgs s_NoWayD_initD) (defBody s_NoWayD_initD) (defScope s_NoWayD_initD) .none kV_NoWayD_initD dc_NoWayD_initD pm_NoWayD_initD an_NoWayD_initD cd_NoWayD_initD ct_NoWayD_initD), f_expected := f_expected, d_expected := (PySem.W.fnOf "expected" "expected" (defArgs s_expected) (defBody s_expected) (defScope s_expected) .none kV_expected dc_expected pm_expected an_expected cd_expected ct_expected), f_end_of := f_end_of, d_end_of := (PySem.W.fnOf "end_of" "end_of" (defArgs s_end_of) (defBody s_end_of) (defScope s_end_of) .none kV_end_of dc_end_of pm_end_of an_end_of cd_end_of ct_end_of), f_WayD_initD := f_WayD_initD, d_WayD_initD := (PySem.W.fnOf "__init__" "Way.__init__" (defArgs s_WayD_initD) (defBody s_WayD_initD) (defScope s_WayD_initD) .none kV_WayD_initD dc_WayD_initD pm_WayD_initD an_WayD_initD cd_WayD_initD ct_WayD_initD), f_l_size := f_l_size, d_l_size := (PySem.W.fnOf "_law_size" "_law_size" (defArgs s_l_size) (defBody s_l_size) (defScope s_l_size) .none kV_l_size dc_l_size pm_l_size an_l_size cd_l_size ct_l_size), f_law := f_law, d_law := (PySem.W.fnOf "law" "law" (defArgs s_law) (defBody s_law) (defScope s_law) .none kV_law dc_law pm_law an_law cd_law ct_law), c_BadRule := c_BadRule, c_NoWay := c_NoWay, c_Rules := c_Rules, c_Way := c_Way, c_WayError := c_WayError}
  have g_BadRule : mg "BadRule" = some (.ref c_BadRule) := PySem.W.mg_of X G aC_BadRule
  have g_NoWay : mg "NoWay" = some (.ref c_NoWay) := PySem.W.mg_of X G aC_NoWay
  have g_Rules : mg "Rules" = some (.ref c_Rules) := PySem.W.mg_of X G aC_Rules
  have g_Way : mg "Way" = some (.ref c_Way) := PySem.W.mg_of X G aC_Way
  have g_WayError : mg "WayError" = some (.ref c_WayError) := PySem.W.mg_of X G aC_WayError
  have ci_Rules : CInfo K mg "Rules" c_Rules ["letters"] := ⟨g_Rules, ⟨pg_Rules, hd_Rules, po_Rules, sa_Rules⟩, (na_cons na_Rules_letters na_nil)⟩
  have ci_Way : CInfo K mg "Way" c_Way ["leaves", "left", "name", "right", "text"] := ⟨g_Way, ⟨pg_Way, hd_Way, po_Way, sa_Way⟩, (na_cons na_Way_leaves (na_cons na_Way_left (na_cons na_Way_name (na_cons na_Way_right (na_cons na_Way_text na_nil)))))⟩
  have T : Fx K mg A := {
    n_bool := PySem.W.mg_none_of X G n_bool,
    n_enumerate := PySem.W.mg_none_of X G n_enumerate,
    n_int := PySem.W.mg_none_of X G n_int,
    n_isinstance := PySem.W.mg_none_of X G n_isinstance,
    n_len := PySem.W.mg_none_of X G n_len,
    n_list := PySem.W.mg_none_of X G n_list,
    n_min := PySem.W.mg_none_of X G n_min,
    n_range := PySem.W.mg_none_of X G n_range,
    n_reversed := PySem.W.mg_none_of X G n_reversed,
    n_set := PySem.W.mg_none_of X G n_set,
    n_sorted := PySem.W.mg_none_of X G n_sorted,
    n_sum := PySem.W.mg_none_of X G n_sum,
    s_LETTERS_rules := ⟨_, PySem.W.mg_of X G s_LETTERS_rules⟩,
    s_LETTERS_ways := ⟨_, PySem.W.mg_of X G s_LETTERS_ways⟩,
    s_LONGEST_NAME := ⟨_, PySem.W.mg_of X G s_LONGEST_NAME⟩,
    F_l_pool := F_l_pool,
    g_l_pool := PySem.W.mg_of X G a_l_pool,
    F_l_take := F_l_take,
    g_l_take := PySem.W.mg_of X G a_l_take,
    F_l_letters := F_l_letters,
    g_l_letters := PySem.W.mg_of X G a_l_letters,
    F_BadRuleD_initD := F_BadRuleD_initD,
    F_RulesD_initD := F_RulesD_initD,
    F_l_texts := F_l_texts,
    g_l_texts := PySem.W.mg_of X G a_l_texts,
    F_RulesD_containsD := F_RulesD_containsD,
    F_choices := F_choices,
    g_choices := PySem.W.mg_of X G a_choices,
    F_rows_of_letters := F_rows_of_letters,
    g_rows_of_letters := PySem.W.mg_of X G a_rows_of_letters,
    F_pairs_of_parts := F_pairs_of_parts,
    g_pairs_of_parts := PySem.W.mg_of X G a_pairs_of_parts,
    F_form_count := F_form_count,
    g_form_count := PySem.W.mg_of X G a_form_count,
    F_l_cell := F_l_cell,
    g_l_cell := PySem.W.mg_of X G a_l_cell,
    F_l_choices := F_l_choices,
    g_l_choices := PySem.W.mg_of X G a_l_choices,
    F_l_due := F_l_due,
    g_l_due := PySem.W.mg_of X G a_l_due,
    F_l_refused := F_l_refused,
    g_l_refused := PySem.W.mg_of X G a_l_refused,
    F_tree_form := F_tree_form,
    g_tree_form := PySem.W.mg_of X G a_tree_form,
    F_different := F_different,
    g_different := PySem.W.mg_of X G a_different,
    F_beginning := F_beginning,
    g_beginning := PySem.W.mg_of X G a_beginning,
    F_ending := F_ending,
    g_ending := PySem.W.mg_of X G a_ending,
    F_merged := F_merged,
    g_merged := PySem.W.mg_of X G a_merged,
    F_band_form := F_band_form,
    g_band_form := PySem.W.mg_of X G a_band_form,
    F_word_form := F_word_form,
    g_word_form := PySem.W.mg_of X G a_word_form,
    F_plain := F_plain,
    g_plain := PySem.W.mg_of X G a_plain,
    F_NoWayD_initD := F_NoWayD_initD,
    F_expected := F_expected,
    g_expected := PySem.W.mg_of X G a_expected,
    F_end_of := F_end_of,
    g_end_of := PySem.W.mg_of X G a_end_of,
    F_WayD_initD := F_WayD_initD,
    F_l_size := F_l_size,
    g_l_size := PySem.W.mg_of X G a_l_size,
    F_law := F_law,
    g_law := PySem.W.mg_of X G a_law,
    b_RulesD_initD_2 := dflK_of (F_RulesD_initD.binds1 2 1 (List.cons_ne_nil _ _) rfl fun _ _ _ _ _ _ _ us its h1 h2 => match us, its, h1, h2 with | [_, _], [_], _, _ => ⟨_, rfl, rfl⟩) fun _ _ => rfl,
    b_WayD_initD_2 := dflK_none (F_WayD_initD.bindsN fun _ _ _ _ _ _ us hl => match us, hl with | [_, _], _ => rfl),
    b_l_cell_2 := dflK_none (F_l_cell.bindsN fun _ _ _ _ _ _ us hl => match us, hl with | [_, _], _ => rfl),
    b_l_choices_2 := dflK_none (F_l_choices.bindsN fun _ _ _ _ _ _ us hl => match us, hl with | [_, _], _ => rfl),
    b_l_due_3 := dflK_none (F_l_due.bindsN fun _ _ _ _ _ _ us hl => match us, hl with | [_, _, _], _ => rfl),
    b_l_letters_1 := dflK_none (F_l_letters.bindsN fun _ _ _ _ _ _ us hl => match us, hl with | [_], _ => rfl),
    b_l_pool_1 := dflK_none (F_l_pool.bindsN fun _ _ _ _ _ _ us hl => match us, hl with | [_], _ => rfl),
    b_l_refused_3 := dflK_none (F_l_refused.bindsN fun _ _ _ _ _ _ us hl => match us, hl with | [_, _, _], _ => rfl),
    b_l_size_1 := dflK_none (F_l_size.bindsN fun _ _ _ _ _ _ us hl => match us, hl with | [_], _ => rfl),
    b_l_take_2 := dflK_none (F_l_take.bindsN fun _ _ _ _ _ _ us hl => match us, hl with | [_, _], _ => rfl),
    b_l_texts_2 := dflK_none (F_l_texts.bindsN fun _ _ _ _ _ _ us hl => match us, hl with | [_, _], _ => rfl),
    b_band_form_1 := dflK_none (F_band_form.bindsN fun _ _ _ _ _ _ us hl => match us, hl with | [_], _ => rfl),
    b_beginning_1 := dflK_none (F_beginning.bindsN fun _ _ _ _ _ _ us hl => match us, hl with | [_], _ => rfl),
    b_choices_2 := dflK_none (F_choices.bindsN fun _ _ _ _ _ _ us hl => match us, hl with | [_, _], _ => rfl),
    b_different_1 := dflK_none (F_different.bindsN fun _ _ _ _ _ _ us hl => match us, hl with | [_], _ => rfl),
    b_end_of_2 := dflK_none (F_end_of.bindsN fun _ _ _ _ _ _ us hl => match us, hl with | [_, _], _ => rfl),
    b_ending_1 := dflK_none (F_ending.bindsN fun _ _ _ _ _ _ us hl => match us, hl with | [_], _ => rfl),
    b_expected_3 := dflK_none (F_expected.bindsN fun _ _ _ _ _ _ us hl => match us, hl with | [_, _, _], _ => rfl),
    b_merged_2 := dflK_none (F_merged.bindsN fun _ _ _ _ _ _ us hl => match us, hl with | [_, _], _ => rfl),
    b_pairs_of_parts_3 := dflK_none (F_pairs_of_parts.bindsN fun _ _ _ _ _ _ us hl => match us, hl with | [_, _, _], _ => rfl),
    b_rows_of_letters_3 := dflK_none (F_rows_of_letters.bindsN fun _ _ _ _ _ _ us hl => match us, hl with | [_, _, _], _ => rfl),
    b_tree_form_2 := dflK_none (F_tree_form.bindsN fun _ _ _ _ _ _ us hl => match us, hl with | [_, _], _ => rfl),
    b_word_form_2 := dflK_none (F_word_form.bindsN fun _ _ _ _ _ _ us hl => match us, hl with | [_, _], _ => rfl),
    k_form_count_2_rules := kwB_plain F_form_count 2 ["rules"] fun _ _ _ _ _ _ us ws l1 l2 => match us, ws, l1, l2 with | [_, _], [_], _, _ => rfl,
    k_plain_1_rules := kwB_plain F_plain 1 ["rules"] fun _ _ _ _ _ _ us ws l1 l2 => match us, ws, l1, l2 with | [_], [_], _, _ => rfl,
    bd_BadRuleD_initD := F_BadRuleD_initD.bindsN fun _ _ _ _ _ _ us hl => match us, hl with | [_, _], _ => rfl,
    bd_NoWayD_initD := F_NoWayD_initD.bindsN fun _ _ _ _ _ _ us hl => match us, hl with | [_, _], _ => rfl,
    bd_RulesD_containsD := F_RulesD_containsD.bindsN fun _ _ _ _ _ _ us hl => match us, hl with | [_, _], _ => rfl,
    g_BadRule := g_BadRule,
    g_NoWay := g_NoWay,
    g_Rules := g_Rules,
    g_Way := g_Way,
    g_WayError := g_WayError,
    ci_Rules := ci_Rules,
    ci_Way := ci_Way,
    mk_Rules := ⟨mk_Rules, a_RulesD_initD, i_RulesD_initD, kc_Rules⟩,
    mk_Way := ⟨mk_Way, a_WayD_initD, i_WayD_initD, kc_Way⟩,
    m_RulesD_containsD := ⟨a_RulesD_containsD, i_RulesD_containsD, k_RulesD_containsD⟩,
    fs_Rules__letters := (fs_cons ci_Rules (by decide) fs_nil),
    fs_Way__leaves := (fs_cons ci_Way (by decide) fs_nil),
    fs_Way__left := (fs_cons ci_Way (by decide) fs_nil),
    fs_Way__name := (fs_cons ci_Way (by decide) fs_nil),
    fs_Way__right := (fs_cons ci_Way (by decide) fs_nil),
    fs_Way__text := (fs_cons ci_Way (by decide) fs_nil),
    bx_WayError := ⟨br_WayError, bg_WayError, bv_WayError⟩,
    ex_BadRule := ⟨g_BadRule, oexC_mk xl_BadRule xr_BadRule xs_BadRule xe_BadRule xt_BadRule xk_BadRule, a_BadRuleD_initD, xi_BadRule, (na_cons xn_BadRule_letter na_nil)⟩,
    ex_NoWay := ⟨g_NoWay, oexC_mk xl_NoWay xr_NoWay xs_NoWay xe_NoWay xt_NoWay xk_NoWay, a_NoWayD_initD, xi_NoWay, (na_cons xn_NoWay_at na_nil)⟩,
    xm_BadRule := (exmL_cons g_BadRule (exm_own xe_BadRule cf_BadRule ct_BadRule xm_BadRule_BadRule) exmL_nil),
    xf_BadRule_letter := (xfT_yes g_BadRule ⟨xg_BadRule, xh_BadRule, xe_BadRule, xd_BadRule⟩ xn_BadRule_letter xfT_nil) }
  have b := FunD.bindsA (ps := ["_law_script"]) F_law fun _ _ _ _ _ _ us hl => match us, hl with | [_], _ => rfl
  exact ⟨_, fun s v => b s [v] rfl, fun base _ _ => dok_law (ok_law T) law_plain⟩
end Lk91
open PySem PySem.W PyProof.Rows
set_option maxRecDepth 100000 in
set_option maxHeartbeats 0 in
theorem PySem.Challenge.cw_neededlaws_k91_forms_counted_holds : PySem.Challenge.rw_neededlaws_k91_forms_counted.Holds := by
  w_on; o_law; k_head; (case hw => w_witness2)
  k_fill
  refine DL.walkD (l := PySem.Challenge.rw_neededlaws_k91_forms_counted) "_law_script" 93 rfl rfl ⟨rfl, by decide, by decide⟩ (fun w h Y => by first | exact PySem.W.kIn_of Y | exact PySem.W.km_in_of Y) ?F
  case F =>
    intro w mg fa h KX G hmg
    refine' Lk91.facts KX G hmg ?aC_BadRule ?aC_NoWay ?aC_Rules ?aC_Way ?aC_WayError ?a_l_pool ?l_l_pool ?c_l_pool ?k_l_pool ?a_l_take ?l_l_take ?c_l_take ?k_l_take ?a_l_letters ?l_l_letters ?c_l_letters ?k_l_letters ?a_BadRuleD_initD ?i_BadRuleD_initD ?l_BadRuleD_initD ?c_BadRuleD_initD ?k_BadRuleD_initD ?a_RulesD_initD ?i_RulesD_initD ?l_RulesD_initD ?c_RulesD_initD ?k_RulesD_initD ?lT_RulesD_initD ?a_l_texts ?l_l_texts ?c_l_texts ?k_l_texts ?a_RulesD_containsD ?i_RulesD_containsD ?l_RulesD_containsD ?c_RulesD_containsD ?k_RulesD_containsD ?a_choices ?l_choices ?c_choices ?k_choices ?a_rows_of_letters ?l_rows_of_letters ?c_rows_of_letters ?k_rows_of_letters ?a_pairs_of_parts ?l_pairs_of_parts ?c_pairs_of_parts ?k_pairs_of_parts ?a_form_count ?l_form_count ?c_form_count ?k_form_count ?a_l_cell ?l_l_cell ?c_l_cell ?k_l_cell ?a_l_choices ?l_l_choices ?c_l_choices ?k_l_choices ?a_l_due ?l_l_due ?c_l_due ?k_l_due ?a_l_refused ?l_l_refused ?c_l_refused ?k_l_refused ?a_tree_form ?l_tree_form ?c_tree_form ?k_tree_form ?a_different ?l_different ?c_different ?k_different ?a_beginning ?l_beginning ?c_beginning ?k_beginning ?a_ending ?l_ending ?c_ending ?k_ending ?a_merged ?l_merged ?c_merged ?k_merged ?a_band_form ?l_band_form ?c_band_form ?k_band_form ?a_word_form ?l_word_form ?c_word_form ?k_word_form ?a_plain ?l_plain ?c_plain ?k_plain ?a_NoWayD_initD ?i_NoWayD_initD ?l_NoWayD_initD ?c_NoWayD_initD ?k_NoWayD_initD ?a_expected ?l_expected ?c_expected ?k_expected ?a_end_of ?l_end_of ?c_end_of ?k_end_of ?a_WayD_initD ?i_WayD_initD ?l_WayD_initD ?c_WayD_initD ?k_WayD_initD ?a_l_size ?l_l_size ?c_l_size ?k_l_size ?a_law ?l_law ?c_law ?k_law ?pg_Rules ?hd_Rules ?po_Rules ?sa_Rules ?mk_Rules ?kc_Rules ?na_Rules_letters ?pg_Way ?hd_Way ?po_Way ?sa_Way ?mk_Way ?kc_Way ?na_Way_leaves ?na_Way_left ?na_Way_name ?na_Way_right ?na_Way_text ?br_WayError ?bg_WayError ?bv_WayError ?xl_BadRule ?xr_BadRule ?xs_BadRule ?xe_BadRule ?xt_BadRule ?xk_BadRule ?xi_BadRule ?xn_BadRule_letter ?xl_NoWay ?xr_NoWay ?xs_NoWay ?xe_NoWay ?xt_NoWay ?xk_NoWay ?xi_NoWay ?xn_NoWay_at ?cf_BadRule ?ct_BadRule ?xm_BadRule_BadRule ?xg_BadRule ?xh_BadRule ?xd_BadRule ?n_bool ?n_enumerate ?n_int ?n_isinstance ?n_len ?n_list ?n_min ?n_range ?n_reversed ?n_set ?n_sorted ?n_sum ?s_LETTERS_rules ?s_LETTERS_ways ?s_LONGEST_NAME
    (case aC_BadRule => k_is)
    (case aC_NoWay => k_is)
    (case aC_Rules => k_is)
    (case aC_Way => k_is)
    (case aC_WayError => k_is)
    (case a_l_pool => k_is)
    (case l_l_pool => k_is)
    (case c_l_pool => k_is)
    (case k_l_pool => k_is)
    (case a_l_take => k_is)
    (case l_l_take => k_is)
    (case c_l_take => k_is)
    (case k_l_take => k_is)
    (case a_l_letters => k_is)
    (case l_l_letters => k_is)
    (case c_l_letters => k_is)
    (case k_l_letters => k_is)
    (case a_BadRuleD_initD => k_is)
    (case i_BadRuleD_initD => k_is)
    (case l_BadRuleD_initD => k_is)
    (case c_BadRuleD_initD => k_is)
    (case k_BadRuleD_initD => k_is)
    (case a_RulesD_initD => k_is)
    (case i_RulesD_initD => k_is)
    (case l_RulesD_initD => k_is)
    (case c_RulesD_initD => k_is)
    (case k_RulesD_initD => k_is)
    (case lT_RulesD_initD => k_is)
    (case a_l_texts => k_is)
    (case l_l_texts => k_is)
    (case c_l_texts => k_is)
    (case k_l_texts => k_is)
    (case a_RulesD_containsD => k_is)
    (case i_RulesD_containsD => k_is)
    (case l_RulesD_containsD => k_is)
    (case c_RulesD_containsD => k_is)
    (case k_RulesD_containsD => k_is)
    (case a_choices => k_is)
    (case l_choices => k_is)
    (case c_choices => k_is)
    (case k_choices => k_is)
    (case a_rows_of_letters => k_is)
    (case l_rows_of_letters => k_is)
    (case c_rows_of_letters => k_is)
    (case k_rows_of_letters => k_is)
    (case a_pairs_of_parts => k_is)
    (case l_pairs_of_parts => k_is)
    (case c_pairs_of_parts => k_is)
    (case k_pairs_of_parts => k_is)
    (case a_form_count => k_is)
    (case l_form_count => k_is)
    (case c_form_count => k_is)
    (case k_form_count => k_is)
    (case a_l_cell => k_is)
    (case l_l_cell => k_is)
    (case c_l_cell => k_is)
    (case k_l_cell => k_is)
    (case a_l_choices => k_is)
    (case l_l_choices => k_is)
    (case c_l_choices => k_is)
    (case k_l_choices => k_is)
    (case a_l_due => k_is)
    (case l_l_due => k_is)
    (case c_l_due => k_is)
    (case k_l_due => k_is)
    (case a_l_refused => k_is)
    (case l_l_refused => k_is)
    (case c_l_refused => k_is)
    (case k_l_refused => k_is)
    (case a_tree_form => k_is)
    (case l_tree_form => k_is)
    (case c_tree_form => k_is)
    (case k_tree_form => k_is)
    (case a_different => k_is)
    (case l_different => k_is)
    (case c_different => k_is)
    (case k_different => k_is)
    (case a_beginning => k_is)
    (case l_beginning => k_is)
    (case c_beginning => k_is)
    (case k_beginning => k_is)
    (case a_ending => k_is)
    (case l_ending => k_is)
    (case c_ending => k_is)
    (case k_ending => k_is)
    (case a_merged => k_is)
    (case l_merged => k_is)
    (case c_merged => k_is)
    (case k_merged => k_is)
    (case a_band_form => k_is)
    (case l_band_form => k_is)
    (case c_band_form => k_is)
    (case k_band_form => k_is)
    (case a_word_form => k_is)
    (case l_word_form => k_is)
    (case c_word_form => k_is)
    (case k_word_form => k_is)
    (case a_plain => k_is)
    (case l_plain => k_is)
    (case c_plain => k_is)
    (case k_plain => k_is)
    (case a_NoWayD_initD => k_is)
    (case i_NoWayD_initD => k_is)
    (case l_NoWayD_initD => k_is)
    (case c_NoWayD_initD => k_is)
    (case k_NoWayD_initD => k_is)
    (case a_expected => k_is)
    (case l_expected => k_is)
    (case c_expected => k_is)
    (case k_expected => k_is)
    (case a_end_of => k_is)
    (case l_end_of => k_is)
    (case c_end_of => k_is)
    (case k_end_of => k_is)
    (case a_WayD_initD => k_is)
    (case i_WayD_initD => k_is)
    (case l_WayD_initD => k_is)
    (case c_WayD_initD => k_is)
    (case k_WayD_initD => k_is)
    (case a_l_size => k_is)
    (case l_l_size => k_is)
    (case c_l_size => k_is)
    (case k_l_size => k_is)
    (case a_law => k_is)
    (case l_law => k_is)
    (case c_law => k_is)
    (case k_law => k_is)
    (case pg_Rules => k_is)
    (case hd_Rules => k_is)
    (case po_Rules => k_is)
    (case sa_Rules => k_is)
    (case mk_Rules => k_is)
    (case kc_Rules => k_is)
    (case na_Rules_letters => k_is)
    (case pg_Way => k_is)
    (case hd_Way => k_is)
    (case po_Way => k_is)
    (case sa_Way => k_is)
    (case mk_Way => k_is)
    (case kc_Way => k_is)
    (case na_Way_leaves => k_is)
    (case na_Way_left => k_is)
    (case na_Way_name => k_is)
    (case na_Way_right => k_is)
    (case na_Way_text => k_is)
    (case br_WayError => k_is)
    (case bg_WayError => k_is)
    (case bv_WayError => k_is)
    (case xl_BadRule => k_is)
    (case xr_BadRule => rfl)
    (case xs_BadRule => k_is)
    (case xe_BadRule => k_is)
    (case xt_BadRule => k_is)
    (case xk_BadRule => k_is)
    (case xi_BadRule => k_is)
    (case xn_BadRule_letter => k_is)
    (case xl_NoWay => k_is)
    (case xr_NoWay => rfl)
    (case xs_NoWay => k_is)
    (case xe_NoWay => k_is)
    (case xt_NoWay => k_is)
    (case xk_NoWay => k_is)
    (case xi_NoWay => k_is)
    (case xn_NoWay_at => k_is)
    (case cf_BadRule => k_is)
    (case ct_BadRule => k_is)
    (case xm_BadRule_BadRule => k_is)
    (case xg_BadRule => k_is)
    (case xh_BadRule => k_is)
    (case xd_BadRule => k_is)
    (case n_bool => k_is)
    (case n_enumerate => k_is)
    (case n_int => k_is)
    (case n_isinstance => k_is)
    (case n_len => k_is)
    (case n_list => k_is)
    (case n_min => k_is)
    (case n_range => k_is)
    (case n_reversed => k_is)
    (case n_set => k_is)
    (case n_sorted => k_is)
    (case n_sum => k_is)
    (case s_LETTERS_rules => k_is)
    (case s_LETTERS_ways => k_is)
    (case s_LONGEST_NAME => k_is)
